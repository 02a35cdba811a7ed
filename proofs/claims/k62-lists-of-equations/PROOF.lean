import PyProof.Rows.All
import Wide.All
import OpenK.AllK
import Wide.FinOn
import KE.KStateDown
import Lean
import HandS.ForMost
import HandS.ForExc
import HandS.More
import HandS.Flow
import HandS.IsInst
import HandS.Defaults
import HandS.Head0
import HandS.Head1
import HandS.Head2
import HandS.HeadEnd
import HandS.HeadHook1
import HandS.HeadHook2
import HandS.HeadHook3
import HandS.TupAny
import HandS.Star
import HandS.Wide
import HandS.Zip
import HandS.Rev
import HandS.TryMany
import HandS.Small
import HandS.RaiseMore
import HandS.OwnEq
import HandS.Walk
import HandS.Deep
import HandS.ExcInit
import HandS.ExcField
import HandS.RevRange
import HandS.SortInts
import KE.GoesMore
import HandS.CallSlots
import PyProof.Rows.NestShow
import HandS.Dict
import HandS.Style
import HandS.Text
import HandS.FStr
import HandS.StrMore
import HandS.SetFor
import PyProof.InstNe
import HandS.ReplaceLit
import KE.SortKeyHeap
import HandS.ExcValue
import HandS.SortKw
import HandS.SetKeys
import HandS.WordsDict
import HandS.Conv
import HandS.DictComp
import HandS.Iter
import HandS.TupLen
import HandS.GenList
import HandS.IterNext
import HandS.DictSub
import HandS.GenOver
import HandS.ExcInitHot
import KE.KExcIs
import PyProof.EqKinds
import PyProof.FactsAll.dict
import PyProof.P3In
import PySem.Challenge.RW_penhome_k62_lists_of_equations
set_option Elab.async false
set_option linter.all false
set_option maxRecDepth 100000
set_option maxHeartbeats 4000000
open PySem.W renaming Frag → aD, findIn → cG, fnOf → eW, kitOne → iM, nsIn → jB, typeIn → lM, view → lN, specialIn → qL, takesIn → sV, kdv_tup → sX, keepIn → vG, mroIn → wU, SharedT → Aw, exmOne → CM, subIn → Dh, callWith_K → IT, boot_heap → Jp, openGood → Ju
open And renaming intro → aG
open List renaming getElem?_eq_some_iff → aJ, getElem?_set → aQ, getElem?_append_left → aR, length_set → aS, mem_cons_of_mem → aV, length_cons → aW, mem_cons_self → aY, length_map → bB, getElem?_append_right → bE, map_cons → bG, set_cons_zero → bH, set_cons_succ → bM, mem_cons → bN, length_append → bO, mem_append → bT, range → bV, all_eq_true → bZ, mem_singleton → cU, length_nil → cV, getElem?_eq_getElem → cX, map_nil → dG, mem_map → dH, append_nil → dN, getElem?_take → dO, set_append_right → eA, pairwise_cons → eC, getElem_mem → eD, mem_of_getElem? → eK, getElem?_map → eN, all_cons → fG, not_mem_nil → fK, drop_eq_getElem_cons → fY, lookup_cons → gT, ext_getElem? → iN, map_congr_left → kA, take_append_drop → mZ, length_take → nF, mem_of_mem_take → oD, nil_append → oY, set_set → pB, filter_append → qM, mem_or_eq_of_mem_set → rG, range' → rH, drop_length → sW, cons_append → sY, replicate → wV, mem_range → wX, mem_of_mem_drop → wY, zip_cons_cons → A6, mem_filterMap → A7, map_map → Ai, append_assoc → Aj, map_id' → Ak, length_range → Am, any_cons → GE, range_succ_eq_map → HX, getElem?_eq_none → IV, forall_mem_cons → Jq, length → Jr
open Nat renaming le_refl → bR, zero_le → dQ, lt_of_le_of_lt → hQ, zero_add → mL, sub_self → pY, le_of_not_lt → sZ, succ_le_succ → CN, le_trans → IU
open Int renaming toNat_natCast → cZ, emod_lt_of_pos → fM, emod_nonneg → gA
open Bool renaming and_eq_true → fJ, false_eq_true → lL, and_self → sH, and_false → wW, true_and → yU, false_and → Ek, or_false → GF
open Or renaming inr → Ah, inl → Cm
namespace PH
open PySem PySem.Spec PyProof.Rows L2
def wL : Stmt -> List Stmt
 | .ClassDef _ _ _ b _ _ _ _ _ _ _ => b
 | _ => []
def xmB (K : aD) (cs : List Str) : Bool := cs.all fun c => cs.all fun d => decide (CM K (.ref (He.ga K c)) (.ref (He.ga K d)) = some (decide (c = d)))
def limits : List (Str × Nat × Int × Int) := [("go", 1, -9, 9), ("turn", 1, 1, 3), ("mirror", 0, 0, 0), ("scale", 1, -3, 3), ("aim", 2, -9, 9), ("place", 2, -9, 9), ("mark", 0, 0, 0), ("return", 0, 0, 0), ("exchange", 0, 0, 0)]
def FL (K : aD) (z : Str) : Addr := match jB K (He.ga K "LIMITS") z with
 | some (some (.ref a)) => a
 | _ => 0
def GM (K : aD) (a : Addr) (vs : List V) : Bool := match K.lookup a with
 | some ⟨.type c, _, .seq its _, _⟩ => decide (c = "tuple") && (decide (its.size <= sizeLine) && He.relAll vs its.toList)
 | _ => false
def limB (K : aD) : Bool := limits.all fun q => He.eqO (jB K (He.ga K "LIMITS") q.1) (some (some (.ref (FL K q.1)))) && GM K (FL K q.1) [.int (q.2.1 : Nat), .int q.2.2.1, .int q.2.2.2]
def Gj : He.Tab := (fun K => He.ga K "LIMITS", limits.map (·.1))
def Pj (K : aD) (C : Addr) : Bool := match K.lookup C with
 | some ⟨.type "type", _, .cls cd, sl⟩ => (match cd.mro, sl.toList with
  | .ref C' :: bm, [_, _, _, _, some (.builtin n), _] => C' == C && n == "ValueError.__new__" && !cd.hasDel && cd.hasDict && PySem.HandSPX.refsVE bm
  | _, _ => false)
 | _ => false
def xaB (K : aD) (x : Str) (fs : List Str) : Bool := Pj K (He.ga K x) && (decide (cG K (.ref (He.ga K x)) "__setattr__" = some (some (.builtin "object.__setattr__"))) && (decide (Dh K (.ref (He.ga K x)) (.type "BaseException") = some true) && (decide (lM K (.ref (He.ga K x)) = some (.type "type")) && (vG K (.ref (He.ga K x)) && (decide (cG K (.ref (He.ga K x)) "__init__" = some (some (.ref (He.ma K (He.ga K x) "__init__")))) && (decide (lM K (.ref (He.ma K (He.ga K x) "__init__")) = some (.type "function")) && (xfB K (He.ga K x) && fs.all fun f => decide (cG K (.ref (He.ga K x)) f = some none))))))))
def isB (K : aD) (C : Str) : Bool := decide (cG K (.ref (He.ga K C)) "__class__" = some (some (.builtin "object.__class__"))) && (decide (qL K (.builtin "object.__class__") "__get__" = some (some (.builtin "getset_descriptor.__get__"))) && (decide (sV K (.builtin "object.__class__") = some true) && decide (wU K (He.ga K C) (.type "object") = some true)))
end PH
namespace PH
open PySem PySem.Spec PyProof PyProof.Rows L2
def frR (g : Addr -> Option Obj) (n : Nat) : aD := He.frG g (bV n)
def Pm (n : Nat) (fa : List He.Fa) (fn : List He.DefD) (ts : List He.Tab) (ex : aD -> Bool) (g : Addr -> Option Obj) : He.AlT × Bool := (He.obsT fa fn ts (frR g n), ex (frR g n))
def P0 (n : Nat) (fa : List He.Fa) (fn : List He.DefD) (ts : List He.Tab) (ex : aD -> Bool) : PySem.W.Hook where
 α := He.AlT × Bool
 obs := fun s => Pm n fa fn ts ex s.heap.get?
 val := fun w => (He.valT fn ts w, true)
 says := fun w h => ∃ K : aD, K.In h /\ He.SaysT fa fn ts w K /\ ex K = true
 of := fun _ _ e => ⟨_, He.frG_in, congrArg (fun z : He.AlT × Bool => z.1) e, congrArg (fun z : He.AlT × Bool => z.2) e⟩
 keeps := fun _ _ _ ⟨K, hK, c⟩ k => ⟨K, PySem.W.Frag.In.keeps hK k, c⟩
def obC (c : List He.DefD) (K : aD) : Bool × List He.FnW := (c.all fun d => d.ok K, c.map fun d => He.fnW K d.at_)
theorem Cq {σ β γ : Type} {o : Option σ} {l : σ -> β} {b : β} {sn : σ -> γ} {c : γ} {K : σ -> aD} {fa : List He.Fa} {fs : List (List He.DefD)} {ts : List He.Tab} {ex : aD -> Bool} {tv : List (Option (List (Option (Str × Int))))}
  (hA : (o.map fun s => (l s, sn s, fa.all fun f => f.ok (K s), ts.map fun t => He.dicW (K s) (t.1 (K s)), ex (K s))) = some (b, c, true, tv, true))
  (hD : ∀ f ∈ fs, (o.map fun s => obC f (K s)) = some (true, f.map He.DefD.val)) :
  (o.map fun s => (l s, sn s, (He.obsT fa fs.flatten ts (K s), ex (K s)))) = some (b, c, ((true, fs.flatten.map He.DefD.val), tv), true) := by
 cases o with
 | none => cases hA
 | some s =>
  have hA := Option.some.inj hA;have h1 := congrArg (fun z => z.1) hA
  have h2 := congrArg (fun z => z.2.1) hA
  have h3 := congrArg (fun z => z.2.2.1) hA
  have h4 := congrArg (fun z => z.2.2.2.1) hA
  have h5 := congrArg (fun z => z.2.2.2.2) hA
  dsimp only at h1 h2 h3 h4 h5;have hf : ∀ f ∈ fs, (f.all fun d => d.ok (K s)) = true /\ (f.map fun d => He.fnW (K s) d.at_) = f.map He.DefD.val := fun f hf => by
   have z := Option.some.inj (hD f hf);exact ⟨congrArg (fun z => z.1) z, congrArg (fun z => z.2) z⟩
  have hall : (fs.flatten.all fun d => d.ok (K s)) = true := by
   rw [bZ];intro d hd;obtain ⟨f, h1, h2⟩ := List.mem_flatten.mp hd;exact bZ.mp (hf f h1).1 d h2
  have hmap : (fs.flatten.map fun d => He.fnW (K s) d.at_) = fs.flatten.map He.DefD.val := by
   rw [List.map_flatten, List.map_flatten]
   congr 1
   exact kA fun f h => (hf f h).2
  show some (l s, sn s, ((((fa.all fun f => f.ok (K s)) && (fs.flatten.all fun d => d.ok (K s)), fs.flatten.map fun d => He.fnW (K s) d.at_), ts.map fun t => He.dicW (K s) (t.1 (K s))), ex (K s))) = _
  rw [h1, h2, h3, h4, h5, hall, hmap];rfl
def oE (n : Str) (s : Stmt) : He.DefD := ⟨(n, none), n, n, defArgs s, defBody s, defScope s, [], []⟩
end PH
namespace PH
open PySem PySem.Spec PyProof.Rows L2
def xsB (K : aD) (D : Addr) : Bool := (PySem.W.clsIn K D).isSome && (decide (cG K (.ref D) "__getattribute__" = some (some (.builtin "BaseException.__getattribute__"))) && (decide (cG K (.ref D) "__getattr__" = some none) && (decide (Dh K (.ref D) (.type "BaseException") = some true) && (decide (cG K (.ref D) "__class__" = some (some (.builtin "object.__class__"))) && (decide (qL K (.builtin "object.__class__") "__get__" = some (some (.builtin "getset_descriptor.__get__"))) && (decide (sV K (.builtin "object.__class__") = some true) && decide (wU K D (.type "object") = some true)))))))
end PH
namespace PHZ
open PH PySem PySem.Spec PyProof.Rows L2
def top (i : Nat) : Stmt := PySem.Challenge.pw_penhome_k62_lists_of_equations.main.body.getD i (.Pass ⟨0, 0, 0, 0⟩)
abbrev rL : Stmt := top 14
abbrev BO : Stmt := top 15
abbrev nM : Stmt := top 16
abbrev tH : Stmt := top 29
abbrev pZ : Stmt := top 30
abbrev kR : Stmt := top 32
abbrev gE : Stmt := top 31
abbrev qA : Stmt := top 33
abbrev qF : Stmt := top 34
abbrev BM : Stmt := top 35
abbrev kF : Stmt := (wL (top 38)).getD 0 (.Pass ⟨0, 0, 0, 0⟩)
abbrev oL : Stmt := (wL (top 38)).getD 1 (.Pass ⟨0, 0, 0, 0⟩)
abbrev kU : Stmt := (wL (top 38)).getD 7 (.Pass ⟨0, 0, 0, 0⟩)
abbrev uQ : Stmt := top 59
abbrev rK : Stmt := top 60
abbrev qB : Stmt := top 65
abbrev Dy : Stmt := top 67
abbrev BL : Stmt := top 68
abbrev qC : Stmt := top 69
abbrev jR : Stmt := top 70
abbrev zE : Stmt := top 71
abbrev tJ : Stmt := top 72
abbrev gG : Stmt := top 73
abbrev jC : Stmt := top 74
abbrev qE : Stmt := top 80
abbrev iB : Stmt := top 82
abbrev kS : Stmt := top 84
abbrev lR : Stmt := top 85
abbrev qD : Stmt := top 86
abbrev nA : Stmt := top 88
abbrev xH : Stmt := top 90
abbrev BQ : Stmt := top 91
abbrev tM : Stmt := top 92
abbrev BP : Stmt := top 93
abbrev zI : Stmt := top 95
abbrev zL : Stmt := top 94
abbrev vY : Stmt := top 96
abbrev BS : Stmt := top 97
abbrev BR : Stmt := top 98
abbrev oK : Stmt := top 99
abbrev rM : Stmt := top 100
abbrev rN : Stmt := top 101
abbrev tL : Stmt := top 102
abbrev tK : Stmt := top 103
abbrev zH : Stmt := top 104
abbrev zK : Stmt := top 105
abbrev kT : Stmt := top 99
abbrev zJ : Stmt := top 105
abbrev qG : Stmt := top 106
abbrev vZ : Stmt := top 107
abbrev qP : Stmt := top 108
abbrev qO : Stmt := (wL (top 3)).getD 0 (.Pass ⟨0, 0, 0, 0⟩)
abbrev jG : Stmt := (wL (top 9)).getD 0 (.Pass ⟨0, 0, 0, 0⟩)
abbrev iA : Stmt := (wL (top 10)).getD 0 (.Pass ⟨0, 0, 0, 0⟩)
abbrev oJ : Stmt := (wL (top 11)).getD 0 (.Pass ⟨0, 0, 0, 0⟩)
def vP : He.DefD := oE "is_integer" rL
def DP : He.DefD := oE "is_bit" BO
def vQ : He.DefD := oE "is_command" nM
def xZ : He.DefD := oE "blocks_of" tH
def uF : He.DefD := oE "with_blocks" pZ
def sQ : He.DefD := oE "copied_block" kR
def nJ : He.DefD := oE "copied_statement" gE
def uG : He.DefD := oE "well_formed" qA
def uL : He.DefD := oE "first_fault" qF
def DO : He.DefD := oE "placed" BM
def yE : He.DefD := ⟨("Book", some "__init__"), "__init__", "Book.__init__", defArgs kF, defBody kF, defScope kF, [], []⟩
def AX : He.DefD := ⟨("Book", some "__len__"), "__len__", "Book.__len__", defArgs oL, defBody oL, defScope oL, [], []⟩
def vT : He.DefD := ⟨("Book", some "calls"), "calls", "Book.calls", defArgs kU, defBody kU, defScope kU, [], []⟩
def C0 : He.DefD := oE "keys_of" uQ
def AR : He.DefD := oE "is_table" rK
def uH : He.DefD := oE "table_fault" qB
def Fv : He.DefD := oE "whole" Dy
def DN : He.DefD := oE "within" BL
def uI : He.DefD := oE "is_variable" qC
def qY : He.DefD := oE "are_variables" jR
def C1 : He.DefD := oE "is_side" zE
def yA : He.DefD := oE "are_parts" tJ
def nK : He.DefD := oE "check_equation" gG
def mX : He.DefD := oE "check_equations" jC
def uK : He.DefD := oE "holds_fault" qE
def sR : He.DefD := oE "call_choices" iB
def oW : He.DefD := oE "checked_calls" kS
def pQ : He.DefD := oE "fewest_saves" lR
def uJ : He.DefD := oE "is_result" qD
def qX : He.DefD := oE "saves_fault" nA
def DQ : He.DefD := oE "_law_pool" xH
def DU : He.DefD := oE "_law_draw" BQ
def yD : He.DefD := oE "_law_command" tM
def DR : He.DefD := oE "_law_pair" BP
def C3 : He.DefD := oE "_law_piece" zI
def C6 : He.DefD := oE "_law_block" zL
def AV : He.DefD := oE "_law_around" vY
def DW : He.DefD := oE "_law_body" BS
def DV : He.DefD := oE "_law_book" BR
def AU : He.DefD := oE "_law_copied" oK
def AS : He.DefD := oE "_law_same" rM
def vR : He.DefD := oE "_law_equation" rN
def yC : He.DefD := oE "_law_integer" tL
def yB : He.DefD := oE "_law_list_of" tK
def C2 : He.DefD := oE "_law_place" zH
def C5 : He.DefD := oE "_law_odd" zK
def vS : He.DefD := oE "_law_copied" kT
def C4 : He.DefD := oE "_law_odd" zJ
def uM : He.DefD := oE "_law_spoiled" qG
def AW : He.DefD := oE "_law_answer" vZ
def Bz : He.DefD := oE "law" qP
def By : He.DefD := ⟨("NoBook", some "__init__"), "__init__", "NoBook.__init__", defArgs qO, defBody qO, defScope qO, [], []⟩
def uE : He.DefD := ⟨("NoEquation", some "__init__"), "__init__", "NoEquation.__init__", defArgs jG, defBody jG, defScope jG, [], []⟩
def sP : He.DefD := ⟨("NoEquations", some "__init__"), "__init__", "NoEquations.__init__", defArgs iA, defBody iA, defScope iA, [], []⟩
def AQ : He.DefD := ⟨("TooMany", some "__init__"), "__init__", "TooMany.__init__", defArgs oJ, defBody oJ, defScope oJ, [], []⟩
def fa : List He.Fa := ([.free "isinstance", .free "int", .free "bool", .free "tuple", .free "len", .free "str", .glo "LIMITS", .free "all", .int "DEEPEST" 3, .free "list", .free "enumerate", .int "MOST_IN_LIST" 8, .int "MOST_IN_PROCEDURE" 12, .int "MOST_PROCEDURES" 3, .glo "NoBook", .cls "Book", .noat "Book" "own", .free "range", .free "dict", .cls "Space"] : List He.Fa) ++ ([.glo "Space", .glo "NoEquation", .glo "NoEquations", .glo "NoEquation", .glo "TooMany", .free "sorted", .glo "HomeError", .cls "Book", .mkr "Book", .glo "Book", .glo "is_integer", .glo "is_bit", .glo "is_command", .glo "blocks_of", .glo "with_blocks", .glo "copied_block", .glo "copied_statement", .glo "well_formed", .glo "first_fault", .glo "placed"] : List He.Fa) ++ ([.meth "Book" "__init__", .meth "Book" "__len__", .meth "Book" "calls", .glo "keys_of", .glo "is_table", .glo "table_fault", .glo "whole", .glo "within", .glo "is_variable", .glo "are_variables", .glo "is_side", .glo "are_parts", .glo "check_equation", .glo "check_equations", .glo "holds_fault", .glo "call_choices", .glo "checked_calls", .glo "fewest_saves", .glo "is_result", .glo "saves_fault"] : List He.Fa) ++ ([.glo "_law_pool", .glo "_law_draw", .glo "_law_command", .glo "_law_pair", .glo "_law_piece", .glo "_law_block", .glo "_law_around", .glo "_law_body", .glo "_law_book", .glo "_law_copied", .glo "_law_same", .glo "_law_equation", .glo "_law_integer", .glo "_law_list_of", .glo "_law_place", .glo "_law_odd", .glo "_law_copied", .glo "_law_odd", .glo "_law_spoiled", .glo "_law_answer"] : List He.Fa) ++ ([.glo "law"] : List He.Fa)
def fn0 : List He.DefD := [By, uE, sP, AQ, vP, DP, vQ, xZ, uF, sQ, nJ, uG, uL, DO, yE, AX, vT, C0, AR, uH, Fv, DN, uI, qY, C1, yA, nK, mX, uK, sR, oW, pQ, uJ, qX, DQ, DU, yD, DR, C3, C6, AV, DW, DV, AU, AS, vR, yC, yB, C2, C5, vS, C4, uM, AW, Bz]
def fns : List (List He.DefD) := [fn0]
def fn : List He.DefD := fns.flatten
def ts : List He.Tab := [Gj]
def exs (K : aD) : List Bool := [limB K, xaB K "NoBook" ["procedure", "path"], isB K "Space", xaB K "NoEquation" ["place"], xaB K "NoEquations" ["index"], xmB K ["NoBook", "NoCall", "NoCommand", "NoEquation", "NoEquations", "NoPath", "NoProcedure", "NoRows", "NoRun", "TooMany"], xaB K "TooMany" ["many"], xsB K (He.ga K "NoEquations"), decide (iM K (.ref (He.ga K "NoEquations")) (.ref (He.ga K "HomeError")) = some true)]
def ex (K : aD) : Bool := (exs K).all id
def loose : List Str := (["HomeError", "NoCommand", "NoBook", "NoCall", "NoProcedure", "NoPath", "NoRun", "NoRows", "NoEquation", "NoEquations", "TooMany", "LIMITS", "is_integer", "is_bit", "is_command", "executed", "is_matrix", "identity", "matrix_of", "composed", "kept_matrix", "MOST_PROCEDURES", "MOST_IN_LIST", "MOST_IN_PROCEDURE", "DEEPEST", "blocks_of", "with_blocks", "copied_statement", "copied_block", "well_formed"] : List Str) ++ (["first_fault", "placed", "statement_at", "flagged", "Book", "has_procedure", "Execution", "executed_run", "run_matrix", "pivot", "common_divisor", "primitive", "cleared", "reduced", "with_row", "Space", "closure", "Graph", "Search", "basis_entries", "key_basis", "keys_of", "is_table", "list_spaces", "called_spaces", "statement_spaces", "body_of", "table_fault", "whole", "within"] : List Str) ++ (["is_variable", "are_variables", "is_side", "are_parts", "check_equation", "check_equations", "side_matrix", "holds_on", "selections", "breaking_choice", "equation_fault", "holds_fault", "call_choices", "first_break", "checked_calls", "fewest_saves", "is_result", "is_reason", "saves_fault", "_law_pool", "_law_draw", "_law_command", "_law_pair", "_law_block", "_law_piece", "_law_around", "_law_body", "_law_book", "_law_copied", "_law_same"] : List Str) ++ (["_law_equation", "_law_integer", "_law_list_of", "_law_place", "_law_odd", "_law_spoiled", "_law_answer"] : List Str)
abbrev R : PySem.W.OpenRow := PySem.W.OpenLaw.row PySem.Challenge.rw_penhome_k62_lists_of_equations
abbrev hk : PySem.W.Hook := P0 1200 fa fn ts ex
def ob (s : Aw) : He.AlT × Bool := Pm 1200 fa fn ts ex (HandSHeadRun.getT s)
abbrev ML (w : World) : Prop := HandSHeadRun.RunEq R (lN R.prog [108]) hk ob 8000 loose w
noncomputable abbrev OM (w : World) (os : OsState) := HandSHeadRun.endF (HandSHeadRun.stepQ (HandSHeadRun.denQ HandSHeadRun.tabQ) R.prog w) 8000 R.prog w os
abbrev MQ (s : Aw) : aD := frR (HandSHeadRun.getT s) 1200
set_option maxHeartbeats 0 in
theorem Ml (w : World) : ∀ os : OsState, (OM (w.withFollow "special-get-raises" false) os).map (fun s => (HandSHeadRun.looksF R.prog (Jp (w.withFollow "special-get-raises" false).params) s.abs, HandSHeadRun.seenQ (lN R.prog [108]) loose (PySem.importedModules R.prog.main.body) (fun s => PySem.W.xlAt (lN R.prog [108]) [] s && PySem.W.recOk R.toRowW.records s) s.abs, fa.all fun f => f.ok (MQ s), ts.map fun t => He.dicW (MQ s) (t.1 (MQ s)), ex (MQ s))) = some (true, Ju (lN R.prog [108]) loose, true, ts.map (fun t => some (He.keysIn (w.withFollow "special-get-raises" false).params t.2)), true) := by
 intro os
 kernel_rfl
set_option maxHeartbeats 0 in
theorem Mm (w : World) : ∀ os : OsState, (OM (w.withFollow "special-get-raises" false) os).map (fun s => obC fn0 (MQ s)) = some (true, fn0.map He.DefD.val) := by
 intro os
 kernel_rfl
theorem run_f (w : World) : ML (w.withFollow "special-get-raises" false) := fun os => Cq (fs := fns) (Ml w os) (Jq.mpr ⟨Mm w os, fun f hf => nomatch hf⟩)
set_option maxHeartbeats 0 in
theorem Mi (w : World) : ∀ os : OsState, (OM (w.withFollow "special-get-raises" true) os).map (fun s => (HandSHeadRun.looksF R.prog (Jp (w.withFollow "special-get-raises" true).params) s.abs, HandSHeadRun.seenQ (lN R.prog [108]) loose (PySem.importedModules R.prog.main.body) (fun s => PySem.W.xlAt (lN R.prog [108]) [] s && PySem.W.recOk R.toRowW.records s) s.abs, fa.all fun f => f.ok (MQ s), ts.map fun t => He.dicW (MQ s) (t.1 (MQ s)), ex (MQ s))) = some (true, Ju (lN R.prog [108]) loose, true, ts.map (fun t => some (He.keysIn (w.withFollow "special-get-raises" true).params t.2)), true) := by
 intro os
 kernel_rfl
set_option maxHeartbeats 0 in
theorem Mj (w : World) : ∀ os : OsState, (OM (w.withFollow "special-get-raises" true) os).map (fun s => obC fn0 (MQ s)) = some (true, fn0.map He.DefD.val) := by
 intro os
 kernel_rfl
theorem run_t (w : World) : ML (w.withFollow "special-get-raises" true) := fun os => Cq (fs := fns) (Mi w os) (Jq.mpr ⟨Mj w os, fun f hf => nomatch hf⟩)
theorem run_ (w : World) : ML w := PySem.W.byRow2 "special-get-raises" run_f run_t w
end PHZ
namespace PH
open PySem PySem.Spec PyProof.Rows L2
section
variable {X : Cx}
theorem cP {e : Expr} {t u : TE} (h : PE X e t) (i : ∀ σ H Q, u σ H Q -> t σ H Q) : PE X e u := ⟨fun pins s σ H Q I q => h.run pins s σ H Q I (i σ H Q q)⟩
theorem CI {e : Expr} {t u : TT} (h : PT X e t) (i : ∀ σ H Q, u σ H Q -> t σ H Q) : PT X e u := ⟨fun pins s σ H Q I q => h.run pins s σ H Q I (i σ H Q q)⟩
theorem gS {f : Value -> Value -> Sem Value} {r u : R2} (h : OpR X f r) (i : ∀ x y H Q, u x y H Q -> r x y H Q) : OpR X f u := fun pins s σ H x y v w Q I rx ry q => h pins s σ H x y v w Q I rx ry (i x y H Q q)
theorem kO {f : Value} {r u : List V -> Hp -> VK -> Prop} (h : CallR X f r) (i : ∀ xs H Q, u xs H Q -> r xs H Q) : CallR X f u := fun pins s σ H xs us Q I rx q => h pins s σ H xs us Q I rx (i xs H Q q)
theorem IR {r u : R2} (h : IxR X r) (i : ∀ x y H Q, u x y H Q -> r x y H Q) : IxR X u := fun e1 e2 pins s σ H x y v w Q I rx ry q => h e1 e2 pins s σ H x y v w Q I rx ry (i x y H Q q)
def sl : L2.St -> Nat -> Option V
 | [], _ => none
 | x :: _, 0 => x
 | _ :: r, n + 1 => sl r n
theorem Oe : ∀ {σ : L2.St} {i : Nat} {v : V}, sl σ i = some v -> σ[i]? = some (some v)
 | [], _, _, h => by cases h
 | x :: _, 0, v, h => by
  have e : x = some v := h;rw [e]; rfl
 | _ :: r, n + 1, v, h => by
  have e := Oe (σ := r) (i := n) (v := v) h
  simpa using e
def vL (i : Nat) : TE := fun σ H Q => match sl σ i with
 | some v => Q v H
 | none => False
theorem cv (i : Nat) {x : Str} {pos : Pos} (hN : X.N[i]? = some x := by rfl) (hv : Vis X.env.scope x := by first | exact Cm rfl | exact Ah (Cm rfl) | exact Ah (Ah rfl)) (hd : (x == ("__debug__" : Str)) = false := by decide)
  (hcd : (x == ("__classdict__" : Str)) = false := by decide) : PE X (.Name x pos) (vL i) := cP (pe_var hN hv hd hcd) fun σ H Q h => by
 unfold vL at h;cases e : sl σ i with
 | none => rw [e] at h; exact h.elim
 | some v => rw [e] at h; exact ⟨v, Oe e, h⟩
def cI0 (g : Int -> Int -> V) : R2 := fun x y H Q => match x, y with
 | .int i, .int j => Q (g i j) H
 | _, _ => False
def cI (C : Int -> Int -> Prop) (g : Int -> Int -> V) : R2 := fun x y H Q => match x, y with
 | .int i, .int j => C i j /\ Q (g i j) H
 | _, _ => False
theorem wM {g : Int -> Int -> V} : ∀ x y H Q, cI0 g x y H Q -> rI0 g x y H Q := fun x y H Q h => by
 cases x with
 | int i => cases y with
  | int j => exact ⟨i, j, rfl, rfl, h⟩
  | _ => exact h.elim
 | _ => exact h.elim
theorem IM {C : Int -> Int -> Prop} {g : Int -> Int -> V} : ∀ x y H Q, cI C g x y H Q -> rI C g x y H Q := fun x y H Q h => by
 cases x with
 | int i => cases y with
  | int j => exact ⟨i, j, rfl, rfl, h.1, h.2⟩
  | _ => exact h.elim
 | _ => exact h.elim
def rAddI : R2 := fun x y H Q => match x, y with
 | .int i, .int j => Q (.int (i + j)) H
 | _, _ => False
def KI : R2 := fun x y H Q => match x, y with
 | .int i, .int j => Q (.int (i - j)) H
 | _, _ => False
def Oi : R2 := fun x y H Q => match x, y with
 | .int i, .int j => IntMulOk i j /\ Q (.int (i * j)) H
 | _, _ => False
def Oj : R2 := fun x y H Q => match x, y with
 | .int i, .int j => (0 < j) /\ Q (.int (i % j)) H
 | _, _ => False
def KL : R2 := fun x y H Q => match x, y with
 | .int i, .int j => (CDiv i j) /\ Q (.int (i / j)) H
 | _, _ => False
def Oh : R2 := fun x y H Q => match x, y with
 | .int i, .int j => (CPow i j) /\ Q (.int (i ^ j.toNat)) H
 | _, _ => False
def rLtC : R2 := fun x y H Q => match x, y with
 | .int i, .int j => Q (.bl (decide (i < j))) H
 | _, _ => False
def rLeC : R2 := fun x y H Q => match x, y with
 | .int i, .int j => Q (.bl (decide (i <= j))) H
 | _, _ => False
def rGtC : R2 := fun x y H Q => match x, y with
 | .int i, .int j => Q (.bl (decide (j < i))) H
 | _, _ => False
def rGeC : R2 := fun x y H Q => match x, y with
 | .int i, .int j => Q (.bl (decide (j <= i))) H
 | _, _ => False
def cAdd (K : aD) : R2 := fun x y H Q => match x, y with
 | .int i, .int j => Q (.int (i + j)) H
 | .str a, .str b => a.length + b.length <= sizeLine /\ Q (.str (a ++ b)) H
 | .ref _, .ref _ => rCat x y H Q \/ rCatA K x y H Q
 | _, _ => False
theorem bQ : OpR X (binaryOp .Add) (cAdd X.K) := by
 refine gS (OpR.or (X := X) op_add (OpR.or op_add_str (OpR.or op_cat op_catA))) fun x y H Q h => ?_
 cases x with
 | int i => cases y with
  | int j => exact .inl ⟨i, j, rfl, rfl, h⟩
  | _ => exact h.elim
 | str i => cases y with
  | str j => exact .inr (.inl ⟨i, j, rfl, rfl, h.1, h.2⟩)
  | _ => exact h.elim
 | ref i => cases y with
  | ref j => exact .inr (.inr h)
  | _ => exact h.elim
 | _ => exact h.elim
theorem jS : OpR X (binaryOp .Sub) KI := gS op_sub fun x y H Q h => wM (g := fun i j => .int (i - j)) x y H Q h
theorem Mx : OpR X (binaryOp .Mult) (rI IntMulOk fun i j => .int (i * j)) := opI fun _ _ _ _ _ _ _ hc q => mul_int q hc
theorem xJ : OpR X (binaryOp .Mult) Oi := gS Mx fun x y H Q h => IM (C := IntMulOk) (g := fun i j => .int (i * j)) x y H Q h
theorem mulL {i j : Int} (h1 : -(2 ^ 64) < i) (h2 : i < 2 ^ 64) : IntMulOk i j := CMul.ok (.inl ⟨h1, h2⟩)
theorem mulR {i j : Int} (h1 : -(2 ^ 64) < j) (h2 : j < 2 ^ 64) : IntMulOk i j := CMul.ok (.inr ⟨h1, h2⟩)
theorem lW : OpR X (binaryOp .Mod) Oj := gS op_mod fun x y H Q h => IM (C := fun _ j => 0 < j) (g := fun i j => .int (i % j)) x y H Q h
theorem qT : OpR X (binaryOp .FloorDiv) KL := gS op_fdiv fun x y H Q h => IM (C := CDiv) (g := fun i j => .int (i / j)) x y H Q h
theorem Mw : OpR X (binaryOp .Pow) Oh := gS op_pow fun x y H Q h => IM (C := CPow) (g := fun i j => .int (i ^ j.toNat)) x y H Q h
theorem kY : OpR X (compareOp .Lt) rLtC := gS op_lt fun x y H Q h => wM (g := fun i j => .bl (decide (i < j))) x y H Q h
theorem oN : OpR X (compareOp .LtE) rLeC := gS op_le fun x y H Q h => wM (g := fun i j => .bl (decide (i <= j))) x y H Q h
theorem lS : OpR X (compareOp .Gt) rGtC := gS op_gt fun x y H Q h => wM (g := fun i j => .bl (decide (j < i))) x y H Q h
theorem KR : OpR X (compareOp .GtE) rGeC := gS op_ge fun x y H Q h => wM (g := fun i j => .bl (decide (j <= i))) x y H Q h
def cNeg : V -> Hp -> VK -> Prop := fun x H Q => match x with
 | .int i => Q (.int (-i)) H
 | _ => False
theorem MT : UnR X (unaryOp .USub) cNeg := fun pins s σ H x v Q I rx h => un_neg pins s σ H x v Q I rx (by
 cases x with
 | int i => exact ⟨i, rfl, h⟩
 | _ => exact h.elim)
def cEq (K : aD) : R2 := fun x y H Q => match x, y with
 | .int i, .int j => Q (.bl (decide (i = j))) H
 | .str i, .str j => Q (.bl (decide (i = j))) H
 | _, _ => rEqD K x y H Q
def cNe (K : aD) : R2 := fun x y H Q => match x, y with
 | .int i, .int j => Q (.bl (!decide (i = j))) H
 | .str i, .str j => Q (.bl (!decide (i = j))) H
 | _, _ => rNeD K x y H Q
theorem dI {i j : Int} : decide (V.int i = V.int j) = decide (i = j) := by
 by_cases h : i = j
 ·rw [decide_eq_true h, h, decide_eq_true rfl]
 ·rw [decide_eq_false h, decide_eq_false fun e => h (V.int.inj e)]
theorem dS {i j : Str} : decide (V.str i = V.str j) = decide (i = j) := by
 by_cases h : i = j
 ·rw [decide_eq_true h, h, decide_eq_true rfl]
 ·rw [decide_eq_false h, decide_eq_false fun e => h (V.str.inj e)]
theorem bS (hu : X.A.units + 64 < cLine) : OpR X (compareOp .Eq) (cEq X.K) := by
 refine gS (OpR.or (X := X) op_eq (op_eqD hu)) fun x y H Q h => ?_
 cases x with
 | int i => cases y with
  | int j => exact .inl ⟨rfl, by rw [dI]; exact h⟩
  | _ => exact .inr h
 | str i => cases y with
  | str j => exact .inl ⟨rfl, by rw [dS]; exact h⟩
  | _ => exact .inr h
 | _ => exact .inr h
theorem kX (hu : X.A.units + 64 < cLine) : OpR X (compareOp .NotEq) (cNe X.K) := by
 refine gS (OpR.or (X := X) op_ne (op_neD hu)) fun x y H Q h => ?_
 cases x with
 | int i => cases y with
  | int j => exact .inl ⟨rfl, by rw [dI]; exact h⟩
  | _ => exact .inr h
 | str i => cases y with
  | str j => exact .inl ⟨rfl, by rw [dS]; exact h⟩
  | _ => exact .inr h
 | _ => exact .inr h
variable {a b c : Expr} {ta tb tc : TE} {pos : Pos}
def cT (K : aD) : V -> Hp -> (Bool -> Hp -> Prop) -> Prop := fun x H Q => match x with
 | .bl k => Q k H
 | .non => Q false H
 | .int i => Q (i != 0) H
 | x => ∃ k, TruV K x H k /\ Q k H
def cTest (K : aD) (t : TE) : TT := fun σ H Q => t σ H fun x H' => cT K x H' Q
theorem MB {K : aD} : ∀ x H Q, cT K x H Q -> ∃ k, TruV K x H k /\ Q k H := fun x H Q h => by
 cases x with
 | bl k => exact ⟨k, rfl, h⟩
 | non => exact ⟨false, rfl, h⟩
 | int i => exact ⟨_, rfl, h⟩
 | _ => exact h
theorem t_val (ha : PE X a ta) (he : ∀ whole, isTrue a X.env whole = (do let v <- whole; standAt a.pos; holding [v] (truthy v)) := by intro _; rfl) : PT X a (cTest X.K ta) := by
 refine ⟨fun pins s σ H Q I h => ?_⟩
 exact isTrue_plain (thn (ha.run pins s σ H _ I h) fun v s1 ⟨x, H1, I1, r1, q1⟩ => tru_ok pins s1 σ H1 x v Q I1 r1 (MB x H1 Q q1)) (he _)
def cB (t : TE) : TT := fun σ H Q => t σ H fun x H' => match x with
 | .bl k => Q k H'
 | _ => False
theorem Oc {op : CmpOp} {r : R2} (ho : OpR X (compareOp op) r) (ha : PE X a ta) (hb : PE X b tb) (hm : behindInMarks op b = false := by rfl) : PT X (.Compare a [op] [b] pos) (cB (tOp r ta tb)) := by
 refine ⟨fun pins s σ H Q I h => ?_⟩
 have h' : ta σ H fun x H1 => tb σ H1 fun y H2 => r x y H2 fun z H3 => (match z with | .bl k => Q k H3 | _ => False) := h
 refine wpAny_isTrue_Compare1 (thn (ha.run pins s σ H _ I h') fun v s1 ⟨x, H1, I1, r1, q1⟩ => thn (hb.run pins s1 σ H1 _ I1 q1) fun u s2 ⟨y, H2, I2, r2, q2⟩ => thn (ho pins s2 σ H2 x y v u _ I2 r1 r2 q2) fun d s3 hz => ?_) hm
 obtain ⟨z, H3, I3, r3, q3⟩ := hz;cases z with
 | bl k => cases r3; exact wpAny_truthy_bool ⟨H3, I3, q3⟩
 | _ => exact q3.elim
theorem e_cmp {op : CmpOp} {r : R2} (ho : OpR X (compareOp op) r) (ha : PE X a ta) (hb : PE X b tb) (hm : behindInMarks op b = false := by rfl) : PE X (.Compare a [op] [b] pos) (tOp r ta tb) := pe_cmpR ho ha hb hm
end
section
variable {X : Cx} {a b c : Expr} {ta tb tc : TE} {pos : Pos}
variable {rest : List Expr}
def cAndV (ta tb : TE) : TE := fun σ H Q => ta σ H fun x H1 => match x with
 | .bl c => if c = true then tb σ H1 Q else Q (.bl false) H1
 | _ => False
def cOrV (ta tb : TE) : TE := fun σ H Q => ta σ H fun x H1 => match x with
 | .bl c => if c = true then Q (.bl true) H1 else tb σ H1 Q
 | _ => False
def cNotV (K : aD) (ta : TE) : TE := fun σ H Q => ta σ H fun x H1 => cT K x H1 fun k H2 => Q (.bl (!k)) H2
theorem e_and (ha : PE X a ta) (hb : PE X (.BoolOp .And (b :: rest) pos) tb) : PE X (.BoolOp .And (a :: b :: rest) pos) (cAndV ta tb) := by
 refine ⟨fun pins s σ H Q I h => ?_⟩
 refine BoolOp_and (thn (ha.run pins s σ H _ I h) fun v s1 hq => ?_)
 obtain ⟨x, H1, I1, r1, q1⟩ := hq;cases x with
 | bl c =>
  cases r1;refine wpAny_truthy_bool ?_
  cases c with
  | true => exact hb.run pins s1 σ H1 Q I1 q1
  | false => exact ⟨.bl false, H1, I1, rfl, q1⟩
 | _ => exact q1.elim
theorem e_or (ha : PE X a ta) (hb : PE X (.BoolOp .Or (b :: rest) pos) tb) : PE X (.BoolOp .Or (a :: b :: rest) pos) (cOrV ta tb) := by
 refine ⟨fun pins s σ H Q I h => ?_⟩
 refine BoolOp_or (thn (ha.run pins s σ H _ I h) fun v s1 hq => ?_)
 obtain ⟨x, H1, I1, r1, q1⟩ := hq;cases x with
 | bl c =>
  cases r1;refine wpAny_truthy_bool ?_
  cases c with
  | false => exact hb.run pins s1 σ H1 Q I1 q1
  | true => exact ⟨.bl true, H1, I1, rfl, q1⟩
 | _ => exact q1.elim
theorem e_not (ha : PE X a ta) : PE X (.UnaryOp .Not a pos) (cNotV X.K ta) := by
 refine ⟨fun pins s σ H Q I h => ?_⟩
 refine UnaryOp_ (thn (ha.run pins s σ H _ I h) fun v s1 hq => ?_)
 obtain ⟨x, H1, I1, r1, q1⟩ := hq;exact not_of (thn (tru_ok pins s1 σ H1 x v (fun c H2 => Q (.bl (!c)) H2) I1 r1 (MB x H1 _ q1)) fun c s2 ⟨H2, I2, q2⟩ => ⟨.bl (!c), H2, I2, rfl, q2⟩)
def EZ (r r' : R2) (ta tb tc : TE) : TE := fun σ H Q => ta σ H fun x H1 => tb σ H1 fun y H2 => r x y H2 fun z H3 => match z with
 | .bl k => if k = true then tc σ H3 fun w' H4 => r' y w' H4 Q else Q (.bl false) H3
 | _ => False
theorem OO {op op' : CmpOp} {r r' : R2} (ho : OpR X (compareOp op) r) (ho' : OpR X (compareOp op') r') (ha : PE X a ta) (hb : PE X b tb) (hc : PE X c tc)
  (hm : lastMarks [op, op'] [b, c] = false := by with_unfolding_all rfl) : PE X (.Compare a [op, op'] [b, c] pos) (EZ r r' ta tb tc) := by
 refine ⟨fun pins s σ H Q I h => ?_⟩
 refine Compare_chain (thn (ha.run pins s σ H _ I h) fun v s1 ⟨x, H1, I1, r1, q1⟩ => chain_link (thn (hb.run pins s1 σ H1 _ I1 q1) fun u s2 ⟨y, H2, I2, r2, q2⟩ =>
  thn (ho pins s2 σ H2 x y v u _ I2 r1 r2 q2) fun d s3 hz => ?_)) hm
 obtain ⟨z, H3, I3, r3, q3⟩ := hz;cases z with
 | bl k =>
  cases r3;refine wpAny_truthy_bool ?_
  cases k with
  | false => exact ite_ff ⟨.bl false, H3, I3, rfl, q3⟩
  | true => exact ite_tt (chain_last (thn (hc.run pins s3 σ H3 _ I3 q3) fun w' s4 ⟨z', H4, I4, r4, q4⟩ => ho' pins s4 σ H4 y z' u w' Q I4 r2 r4 q4))
 | _ => exact q3.elim
theorem MW {op op' : CmpOp} {r r' : R2} (ho : OpR X (compareOp op) r) (ho' : OpR X (compareOp op') r') (ha : PE X a ta) (hb : PE X b tb) (hc : PE X c tc)
  (hm : lastMarks [op, op'] [b, c] = false := by with_unfolding_all rfl) : PT X (.Compare a [op, op'] [b, c] pos) (cB (EZ r r' ta tb tc)) := by
 refine ⟨fun pins s σ H Q I h => ?_⟩
 refine isTrue_chain (thn (ha.run pins s σ H _ I h) fun v s1 ⟨x, H1, I1, r1, q1⟩ => test_link (thn (hb.run pins s1 σ H1 _ I1 q1) fun u s2 ⟨y, H2, I2, r2, q2⟩ =>
  thn (ho pins s2 σ H2 x y v u _ I2 r1 r2 q2) fun d s3 hz => ?_)) hm
 obtain ⟨z, H3, I3, r3, q3⟩ := hz;cases z with
 | bl k =>
  cases r3;refine wpAny_truthy_bool ?_
  cases k with
  | false => exact ite_ff ⟨H3, I3, q3⟩
  | true =>
   refine ite_tt (test_last (thn (hc.run pins s3 σ H3 _ I3 q3) fun w' s4 ⟨z', H4, I4, r4, q4⟩ => thn (ho' pins s4 σ H4 y z' u w' _ I4 r2 r4 q4) fun d' s5 hz2 => ?_))
   obtain ⟨z2, H5, I5, r5, q5⟩ := hz2;cases z2 with
   | bl k2 => cases r5; exact wpAny_truthy_bool ⟨H5, I5, q5⟩
   | _ => exact q5.elim
 | _ => exact q3.elim
def cIx (K : aD) : R2 := fun x y H Q => match x, y with
 | .ref p, .int i => ∃ xs v, (SqL K H p xs \/ SqT K H p xs) /\ atI xs i = some v /\ Q v H
 | .str z, .int i => z.length <= sizeLine /\ ∃ c, atI z.cps.toList i = some c /\ Q (.str ⟨#[c]⟩) H
 | _, _ => False
theorem ix_C : IxR X (cIx X.K) := IR ix_seq fun x y H Q h => by
 cases x with
 | ref p => cases y with
  | int i =>
   obtain ⟨xs, v, h1 | h1, h2, q⟩ := h
   ·exact .inl ⟨p, xs, i, v, rfl, rfl, h1, h2, q⟩
   ·exact .inr (.inl ⟨p, xs, i, v, rfl, rfl, h1, h2, q⟩)
  | _ => exact h.elim
 | str z => cases y with
  | int i =>
   obtain ⟨h1, c, h2, q⟩ := h;exact .inr (.inr ⟨z, i, c, rfl, rfl, h1, h2, q⟩)
  | _ => exact h.elim
 | _ => exact h.elim
theorem e_ix (ha : PE X a ta) (hb : PE X b tb) (hs : PlainIx b := by intro _ _; rfl) : PE X (.Subscript a b pos) (tOp (cIx X.K) ta tb) := pe_ix ix_C ha hb hs
def cLen (K : aD) : V -> Hp -> VK -> Prop := fun x H Q => match x with
 | .str z => z.length <= sizeLine /\ Q (.int z.length) H
 | .ref p => ∃ ys, (SqL K H p ys \/ SqT K H p ys) /\ Q (.int ys.length) H
 | _ => False
def c1 (r : V -> Hp -> VK -> Prop) : List V -> Hp -> VK -> Prop := fun xs H Q => match xs with
 | [x] => r x H Q
 | _ => False
theorem e_len {p : Pos} (hm : X.mg "len" = none) (ha : PE X a ta) (hg : Gl X "len" := by rfl) (hs : starEach [a] X.env = [(false, eval a X.env)] := by rfl) : PE X (.Call (.Name "len" p) [a] [] pos) (tCB (c1 (cLen X.K)) (tCons ta tNil)) :=
 pe_callB (kO (CallR.or call_len_seq call_len_str) fun xs H Q h => by
  match xs, h with
  | [x], h =>
   cases x with
   | str z => exact .inr ⟨z, rfl, h.1, h.2⟩
   | ref p =>
    obtain ⟨ys, h1, q⟩ := h;exact .inl ⟨p, ys, rfl, h1, q⟩
   | _ => exact h.elim) hg hm boot_len (pa_cons ha pa_nil hs) (he := hs)
def cInt : V -> Hp -> VK -> Prop := fun x H Q => match x with
 | .int i => Q (.int i) H
 | .bl k => Q (.int (if k then 1 else 0)) H
 | _ => False
theorem e_int {p : Pos} (hm : X.mg "int" = none) (ha : PE X a ta) (hg : Gl X "int" := by rfl) (hs : starEach [a] X.env = [(false, eval a X.env)] := by rfl) : PE X (.Call (.Name "int" p) [a] [] pos) (tCB (c1 cInt) (tCons ta tNil)) :=
 pe_callTy (kO call_int1 fun xs H Q h => by
  match xs, h with
  | [x], h =>
   cases x with
   | int i => exact .inl ⟨i, rfl, h⟩
   | bl k => exact .inr ⟨k, rfl, h⟩
   | _ => exact h.elim) hg hm boot_int (pa_cons ha pa_nil hs) (he := hs)
def isTy (T n : String) : Bool := n == T || (n == "bool" && T == "int")
def kinds : List String := ["NoneType", "bool", "int", "str", "list", "tuple", "dict"]
def targets : List String := ["int", "bool", "str", "list", "tuple", "dict"]
theorem N7 (K : aD) : (kinds.all fun n => targets.all fun T => decide (iM K (.type n) (.type T) = some (isTy T n))) = true := by kernel_rfl
theorem Gk {K : aD} {n T : String} (hn : n ∈ kinds) (hT : T ∈ targets) : iM K (.type n) (.type T) = some (isTy T n) :=
 of_decide_eq_true (bZ.mp (bZ.mp (N7 K) n hn) T hT)
def CJ (K : aD) (H : Hp) (a : Addr) (n : String) : Prop := n ∈ ["list", "tuple", "dict"] /\ TyX K H (.ref a) (.type n)
def MD (K : aD) (T : String) : V -> Hp -> VK -> Prop := fun x H Q => match x with
 | .non => Q (.bl false) H
 | .bl _ => Q (.bl (T == "bool" || T == "int")) H
 | .int _ => Q (.bl (T == "int")) H
 | .str _ => Q (.bl (T == "str")) H
 | .ref a => ∃ n, CJ K H a n /\ Q (.bl (n == T)) H
 | _ => False
def cIsiL (K : aD) (T : String) : List V -> Hp -> VK -> Prop := fun xs H Q => match xs with
 | [x, .ty n] => if n = T then MD K T x H Q else False
 | _ => False
theorem Ji {T : String} (hT : T ∈ targets) : CallR X (.builtin "isinstance") (cIsiL X.K T) := kO call_isi fun xs H Q h => by
 match xs, h with
 | [x, .ty n], h =>
  have h0 : if n = T then MD X.K T x H Q else False := h
  by_cases e : n = T
  case neg => rw [if_neg e] at h0; exact h0.elim
  rw [if_pos e] at h0
  replace h := h0
  subst e;have go : ∀ (k : String) (b : Bool), k ∈ kinds -> TyX X.K H x (.type k) -> b = isTy n k -> Q (.bl b) H -> rIsi X.K [x, .ty n] H Q := fun k b hk ty e q => ⟨x, .ty n, .type k, .type n, isTy n k, rfl, .ty n, ty, Gk hk hT, by rw [<- e]; exact q⟩
  have h6 : n = "int" \/ n = "bool" \/ n = "str" \/ n = "list" \/ n = "tuple" \/ n = "dict" := by simpa [targets] using hT
  cases x with
  | non => exact go "NoneType" false (by decide) (.base .non) (by rcases h6 with e | e | e | e | e | e <;> subst e <;> decide) h
  | bl b => exact go "bool" _ (by decide) (.base (.bl b)) (by rcases h6 with e | e | e | e | e | e <;> subst e <;> decide) h
  | int b => exact go "int" _ (by decide) (.base (.int b)) (by rcases h6 with e | e | e | e | e | e <;> subst e <;> decide) h
  | str b => exact go "str" _ (by decide) (.base (.str b)) (by rcases h6 with e | e | e | e | e | e <;> subst e <;> decide) h
  | ref a =>
   obtain ⟨k, ⟨hk, ty⟩, q⟩ := h;have h3 : k = "list" \/ k = "tuple" \/ k = "dict" := by simpa using hk
   exact go k _ (by rcases h3 with e | e | e <;> subst e <;> decide) ty (by rcases h6 with e | e | e | e | e | e <;> rcases h3 with e' | e' | e' <;> subst e <;> subst e' <;> decide) q
  | _ => exact h.elim
def cIsE (K : aD) (T : String) (ta : TE) : TE := fun σ H Q => ta σ H fun x H1 => MD K T x H1 Q
theorem e_isi {p q : Pos} {T : String} {y : Str} (hm : X.mg "isinstance" = none) (hmT : X.mg y = none) (ha : PE X a ta) (hT : T ∈ targets := by decide) (hv : bootBuiltins y = some (.type T) := by decide +kernel)
  (hg : Gl X "isinstance" := by rfl) (hgT : Gl X y := by rfl) (hn : y ≠ "__name__" := by decide) (hd : (y == ("__debug__" : Str)) = false := by decide) (hs : starEach [a, .Name y q] X.env = (false, eval a X.env) :: starEach [.Name y q] X.env := by rfl) :
  PE X (.Call (.Name "isinstance" p) [a, .Name y q] [] pos) (cIsE X.K T ta) :=
 cP (pe_callB (Ji hT) hg hm boot_isinstance (pa_cons ha (pa_cons (pe_bltn (v := .ty T) hgT hmT hv rfl hn hd) pa_nil) hs) (he := hs)) fun σ H Q h => by
  show ta σ H fun x H1 => if T = T then MD X.K T x H1 Q else False
  simp only [if_true];exact h
def cAll (K : aD) : V -> Hp -> VK -> Prop := fun x H Q => match x with
 | .ref p => ∃ bs : List Bool, SqL K H p (bs.map V.bl) /\ Q (.bl (bs.all id)) H
 | _ => False
theorem e_all {p : Pos} (hm : X.mg "all" = none) (ha : PE X a ta) (hc : X.calm = true := by rfl) (hg : Gl X "all" := by rfl) (hs : starEach [a] X.env = [(false, eval a X.env)] := by rfl) : PE X (.Call (.Name "all" p) [a] [] pos) (tCB (c1 (cAll X.K)) (tCons ta tNil)) :=
 pe_callB (kO (cr_all hc) fun xs H Q h => by
  match xs, h with
  | [x], h =>
   cases x with
   | ref p =>
    obtain ⟨bs, h1, q⟩ := h;exact ⟨p, bs, rfl, h1, q⟩
   | _ => exact h.elim) hg hm boot_all (pa_cons ha pa_nil hs) (he := hs)
def PD (K : aD) : V -> Hp -> VK -> Prop := fun x H Q => match x with
 | .ref p => ∃ ys, (SqL K H p ys \/ SqT K H p ys) /\ ∀ l, H l = none -> Q (.ref l) (upd H l (.lst ys))
 | _ => False
theorem RL {p : Pos} (hm : X.mg "list" = none) (ha : PE X a ta) (hg : Gl X "list" := by rfl) (hs : starEach [a] X.env = [(false, eval a X.env)] := by rfl) : PE X (.Call (.Name "list" p) [a] [] pos) (tCB (c1 (PD X.K)) (tCons ta tNil)) :=
 pe_callTy (kO call_list_of fun xs H Q h => by
  match xs, h with
  | [x], h =>
   cases x with
   | ref p =>
    obtain ⟨bs, h1, q⟩ := h;exact ⟨p, bs, rfl, h1, q⟩
   | _ => exact h.elim) hg hm boot_list (pa_cons ha pa_nil hs) (he := hs)
def MA (K : aD) : V -> Hp -> VK -> Prop := fun x H Q => match x with
 | .ref p => ∃ ys, SqL K H p ys /\ ∀ l, H l = none -> Q (.ref l) (upd H l (.tup ys))
 | _ => False
theorem ON {p : Pos} (hm : X.mg "tuple" = none) (ha : PE X a ta) (hg : Gl X "tuple" := by rfl) (hs : starEach [a] X.env = [(false, eval a X.env)] := by rfl) : PE X (.Call (.Name "tuple" p) [a] [] pos) (tCB (c1 (MA X.K)) (tCons ta tNil)) :=
 pe_callTy (kO call_tuple_of fun xs H Q h => by
  match xs, h with
  | [x], h =>
   cases x with
   | ref p =>
    obtain ⟨ys, h1, q⟩ := h;exact ⟨p, ys, rfl, .inl ⟨h1, q⟩⟩
   | _ => exact h.elim) hg hm boot_tuple (pa_cons ha pa_nil hs) (he := hs)
end
def Ok (P : Program) (w : World) (K : aD) (mg : Str -> Option Value) (base : Heap) (k : Nat) (x : Str) (ps : List Str) (sp : Sp) : Prop :=
 ∃ fd, FnOk P w K mg base CX0 k (He.ga K x) fd ps sp /\ mg x = some (.ref (He.ga K x)) /\ vG K (.ref (He.ga K x)) = true /\ Binds K fd ps [] /\ ∃ oc od osl, K.lookup (He.ga K x) = some ⟨oc, od, .func fd, osl⟩
section
variable {X : Cx} {e : Expr} {es : List Expr} {t : TA} {pos p : Pos} {x : Str} {ps : List Str} {sp : Sp} {k j : Nat}
def cCall (sp : Sp) (t : TA) : TE := fun σ H Q => t σ H fun vs H1 => sp vs H1 Q E0
end
section
variable {P : Program} {w : World} {K : aD} {mg : Str -> Option Value} {base : Heap}
abbrev mK (K : aD) (x : Str) (st : Stmt) : Prop := ∃ fd, FunD K x x (defArgs st) (defBody st) (defScope st) [] [] (He.ga K x) fd
end
section
variable {X : Cx} {o i e : Expr} {to ti te : TE} {pos tpos : Pos}
def IP : V -> V -> Hp -> VK -> Prop := fun x y H Q => match x, y with
 | .ref p, .int i => ∃ xs v, H p = some (.lst xs) /\ 0 <= i /\ xs[i.toNat]? = some v /\ Q v H
 | _, _ => False
theorem JC : PGet X IP := by
 intro pins s σ H o i ov iv Q I ro ri h;cases o with
 | ref p => cases i with
  | int k =>
   obtain ⟨xs, v, hp, h0, hx, q⟩ := h;cases ro;obtain ⟨t, rfl⟩ := ri;obtain ⟨its, r, pl, hz⟩ := I.list (.inl (.inl hp));obtain ⟨w, ew, rw'⟩ := r.get hx;have hl := r.length;have hn := line63;have hlt : k.toNat < xs.length := (aJ.mp hx).1;exact wpAny_getItem_list pl.isList h0 (by omega) (by simpa using ew) ⟨v, H, I, rw', q⟩
  | _ => exact h.elim
 | _ => exact h.elim
def G0 : V -> V -> V -> Hp -> (Hp -> Prop) -> Prop := fun o i v H Q => match o, i with
 | .ref p, .int k => ∃ xs, H p = some (.lst xs) /\ 0 <= k /\ k.toNat < xs.length /\ Q (upd H p (.lst (xs.set k.toNat v)))
 | _, _ => False
theorem yY : PSet X G0 := by
 intro pins s σ H o i v ov iv u Q I ro ri rv h;refine set_list pins s σ H o i v ov iv u Q I ro ri rv ?_
 cases o with
 | ref p => cases i with
  | int k =>
   obtain ⟨xs, hp, h0, hk, q⟩ := h;exact ⟨p, xs, k, k.toNat, rfl, rfl, hp, by unfold ixN; rw [if_pos h0, if_pos (by omega)], q⟩
  | _ => exact h.elim
 | _ => exact h.elim
def cIp (r : R2) : TIp := fun x y H Q => r x y H Q
theorem ID : PIp X .Add (cIp rAddI) := fun pins s σ H x y v u Q I r1 r2 h => ip_add pins s σ H x y v u Q I r1 r2 (wM (g := fun i j => .int (i + j)) x y H Q h)
theorem NJ : PIp X .Sub (cIp KI) := fun pins s σ H x y v u Q I r1 r2 h => ip_sub pins s σ H x y v u Q I r1 r2 (wM (g := fun i j => .int (i - j)) x y H Q h)
theorem KF {op : Operator} {tip : TIp} (ho : PE X o to) (hi : PE X i ti) (he : PE X e te) (hp : PIp X op tip)
  (ha : ∀ ov iv new, augStore i ov iv new = (do holding [new, ov, iv] (setItem ov iv new); release [new, ov, iv] []; pure .next) := by intros; rfl) : PS X (.AugAssign (.Subscript o i tpos) op e pos) (tAugS to ti te IP tip G0) :=
 ps_augS ho hi JC he hp yY ha
end
section
variable {X : Cx} {tg e : Expr} {te : TE} {pos p : Pos}
def Ol : R2 := fun x y H Q => match y with
 | .non => Q (.bl (decide (x = .non))) H
 | _ => False
def KJ : R2 := fun x y H Q => match y with
 | .non => Q (.bl (!decide (x = .non))) H
 | _ => False
theorem Ap : OpR X (compareOp .Is) Ol := gS op_isN fun x y H Q h => by
 cases y with
 | non => exact ⟨rfl, h⟩
 | _ => exact h.elim
theorem qR : OpR X (compareOp .IsNot) KJ := gS op_notN fun x y H Q h => by
 cases y with
 | non => exact ⟨rfl, h⟩
 | _ => exact h.elim
def cPart (t : TE) : TO := fun σ H Q => t σ H fun x H1 => match x with
 | .int i => Q (some i) H1
 | _ => False
theorem KN (h : PE X e te) : PO X (some e) (cPart te) := by
 refine ⟨fun pins s σ H Q I hw => ?_⟩
 rw [evalPart_some];refine thn (h.run pins s σ H _ I hw) fun u s1 hq => ?_
 obtain ⟨x, H1, I1, r1, q1⟩ := hq;cases x with
 | int i =>
  obtain ⟨t, rfl⟩ := r1;exact ⟨some i, H1, I1, .int i t, q1⟩
 | _ => exact q1.elim
theorem OZ {r u : V -> Option Int -> Option Int -> Hp -> VK -> Prop} (h : SlR X r) (i : ∀ x lo hi H Q, u x lo hi H Q -> r x lo hi H Q) : SlR X u := by
 intro pins s σ H x v vl vu lo hi sl Q I rx hs pl pu q;exact h pins s σ H x v vl vu lo hi sl Q I rx hs pl pu (i x lo hi H Q q)
def cSl (K : aD) : V -> Option Int -> Option Int -> Hp -> VK -> Prop := fun x lo hi H Q => match x with
 | .ref a => (∃ xs, SqL K H a xs /\ ∀ p, H p = none -> Q (.ref p) (upd H p (.lst (cutV xs lo hi)))) \/ (∃ xs, SqT K H a xs /\
  (HT.sIx xs.length 0 lo = 0 /\ HT.sIx xs.length xs.length hi = xs.length -> Q (.ref a) H) /\ (¬ (HT.sIx xs.length 0 lo = 0 /\ HT.sIx xs.length xs.length hi = xs.length) -> ∀ p, H p = none -> Q (.ref p) (upd H p (.tup (cutV xs lo hi)))))
 | .str z => z.length <= sizeLine /\ Q (.str (cutS z lo hi)) H
 | _ => False
theorem sl_C : SlR X (cSl X.K) := OZ (SlR.or sl_list (SlR.or sl_tupA sl_str)) fun x lo hi H Q h => by
 cases x with
 | ref a =>
  rcases h with ⟨xs, h1, q⟩ | ⟨xs, h1, q⟩
  ·exact .inl ⟨a, xs, rfl, h1, q⟩
  ·exact .inr (.inl ⟨a, xs, rfl, h1, q⟩)
 | str z => exact .inr (.inr ⟨z, rfl, h⟩)
 | _ => exact h.elim
def iSeq (K : aD) (tl : TE) : TI := fun σ H R => tl σ H fun x H1 => match x with
 | .ref a => ((∃ xs, SqL K H1 a xs) /\ R (Itl K a) H1) \/ ((∃ xs, SqT K H1 a xs) /\ R (Itt K a) H1)
 | _ => False
theorem Pi (hl : PE X e te) : PI X tg e (iSeq X.K te) := by
 refine ⟨fun pins s σ H R I h => ?_⟩
 refine thn (hl.run pins s σ H _ I h) fun v s1 hq => ?_
 obtain ⟨x, H1, I1, r1, q1⟩ := hq;cases x with
 | ref a =>
  rcases q1 with ⟨h1, q⟩ | ⟨h1, q⟩
  ·cases r1
   obtain ⟨xs, hq⟩ := h1;obtain ⟨its, rv, p, hz⟩ := I1.list hq;refine wpAny_pyIter_list p.isList ?_
   refine ⟨s1.heap.objs.size, [s1.heap.objs.size], _, _, H1, rfl, I1.kept (t' := s1.toks) fun b o e => Heap.get?_push_of_some _ e, turn_list a _, ⟨_, Heap.get?_push_size _ rfl, rfl, rfl⟩, fun b hb => ?_, q⟩
   have e : b = s1.heap.objs.size := by simpa using hb
   subst e;exact I1.fpOk (bR _) (I1.hok.fresh (bR _))
  ·cases r1
   obtain ⟨xs, hq⟩ := h1;obtain ⟨its, rv, p, hz⟩ := I1.tuple hq;refine wpAny_pyIter_tuple (show s1.heap.IsTuple a its.toArray from p) ?_
   refine ⟨s1.heap.objs.size, [s1.heap.objs.size], _, _, H1, rfl, I1.kept (t' := s1.toks) fun b o e => Heap.get?_push_of_some _ e, turn_tuple a _, ⟨_, Heap.get?_push_size _ rfl, rfl, rfl⟩, fun b hb => ?_, q⟩
   have e : b = s1.heap.objs.size := by simpa using hb
   subst e;exact I1.fpOk (bR _) (I1.hok.fresh (bR _))
 | _ => exact q1.elim
def IQ : V -> List V -> Hp -> VK -> Prop := fun x vs H Q => match x, vs with
 | .ref l, [y] => ∃ xs, H l = some (.lst xs) /\ xs.length < sizeLine /\ Q .non (upd H l (.lst (xs ++ [y])))
 | _, _ => False
theorem Gf : MtR X "list.append" IQ := fun pins s σ H x xs v us Q I rx r h => mt_append pins s σ H x xs v us Q I rx r (by
 match x, xs, h with
 | .ref l, [y], ⟨xs, h1, h2, q⟩ => exact ⟨l, xs, y, rfl, rfl, h1, h2, q⟩)
theorem RN {x : Str} {i : Int} (h : ∃ t, X.mg x = some (.int i t)) (hg : Gl X x := by rfl) (hd : (x == ("__debug__" : Str)) = false := by decide) : PE X (.Name x pos) (tC (.int i)) := by
 obtain ⟨t, h⟩ := h;exact pe_glob hg h ⟨t, rfl⟩ hd
def PN (K : aD) (d : Addr) (neg : Bool) : R2 := fun x y H Q => match x, y with
 | .str z, .ref a => a = d /\ ∃ r, jB K d z = some r /\ Q (.bl (if neg then !r.isSome else r.isSome)) H
 | _, _ => False
theorem EB {d : Addr} (D : ∃ es n, KDict X.K X.w d es n) : OpR X (compareOp .NotIn) (PN X.K d true) := by
 obtain ⟨es, n, D⟩ := D;refine gS (op_notIn_kd D) fun x y H Q h => ?_
 match x, y, h with
 | .str z, .ref a, ⟨e, r, h1, q⟩ => exact ⟨z, r, rfl, by rw [e], h1, q⟩
def cIxKd (K : aD) (d : Addr) : R2 := fun x y H Q => match x, y with
 | .ref a, .str z => a = d /\ ∃ u v, jB K d z = some (some u) /\ RelV v u /\ Q v H
 | _, _ => False
theorem QJ {d : Addr} (D : ∃ es n, KDict X.K X.w d es n) : IxR X (cIxKd X.K d) := by
 obtain ⟨es, n, D⟩ := D;refine IR ix_kdict fun x y H Q h => ?_
 match x, y, h with
 | .ref a, .str z, ⟨e, u, v, h1, h2, q⟩ => exact ⟨d, z, v, by rw [e], rfl, ⟨es, n, u, D.at_, D.lit, h1, h2⟩, q⟩
end
def lO (P : Program) (w : World) (K : aD) (mg : Str -> Option Value) (base : Heap) (k : Nat) (x : Str) (ps : List Str) (sp : Sp) : Prop :=
 ∃ fd, FnOk P w K mg base (L2.CX P w) k (He.ga K x) fd ps sp /\ mg x = some (.ref (He.ga K x)) /\ vG K (.ref (He.ga K x)) = true /\ Binds K fd ps []
section
variable {X : Cx} {e : Expr} {es : List Expr} {t : TA} {pos p : Pos} {x : Str} {ps : List Str} {sp : Sp} {k j : Nat} {E : XK} {W : WX}
def RP (sp : Sp) (E : XK) (t : TA) : TE := fun σ H Q => t σ H fun vs H1 => sp vs H1 Q E
theorem Ec {sp : Sp} {Q : VK} {E : XK} : (fun (vs : List V) (H1 : Hp) => sp (vs ++ []) H1 Q E) = fun vs H1 => sp vs H1 Q E := by
 funext vs H1
 rw [dN]
theorem OP (F : lO X.prog X.w X.K X.mg X.base j x ps sp) (hr : Room k X.A) (hx : Passes (L2.CX X.prog X.w) X E) (ha : PA X (e :: es) t) (hjk : j <= k := by decide) (hg : Gl X x := by rfl) (hdb : (x == ("__debug__" : Str)) = false := by decide)
  (he : starEach (e :: es) X.env = (false, eval e X.env) :: starEach es X.env := by rfl) (hpl : (backTo pos (starEach es X.env)).any (·.1) = false := by rfl) : PE X (.Call (.Name x p) (e :: es) [] pos) (RP sp E t) := by
 obtain ⟨fd, F, hm, hk, hb⟩ := F;refine cP (pe_call F (hr.mono hjk) hg hm hk hb .nil hx ha hdb he hpl) fun σ H Q h => ?_
 show t σ H fun vs H1 => sp (vs ++ []) H1 Q E
 rw [Ec];exact h
theorem OQ (F : lO X.prog X.w X.K X.mg X.base j x ps sp) (hr : Room k X.A) (ha : PA X (e :: es) t) (hjk : j <= k := by decide) (hg : Gl X x := by rfl) (hdb : (x == ("__debug__" : Str)) = false := by decide)
  (he : starEach (e :: es) X.env = (false, eval e X.env) :: starEach es X.env := by rfl) (hpl : (backTo pos (starEach es X.env)).any (·.1) = false := by rfl) : PE X (.Call (.Name x p) (e :: es) [] pos) (cCall sp t) := OP F hr passL ha hjk hg hdb he hpl
end
section
variable {P : Program} {w : World} {K : aD} {mg : Str -> Option Value} {base : Heap}
theorem KU {x : Str} {st : Stmt} {N ps : List Str} {k : Nat} {sp : Sp} (F : mK K x st) (g : mg x = some (.ref (He.ga K x))) (S : FnScope N ps (defScope st)) (len : ∀ vs H Q E, sp vs H Q E -> vs.length = ps.length)
  (bnd : ∀ (kV doc pm : Value) (an : Option Addr) (cdv ct : Value) (us : List Value), us.length = ps.length -> bindArgs (eW x x (defArgs st) (defBody st) (defScope st) .none kV doc pm an cdv ct) ⟨us, []⟩ = pure (ps.zip us))
  (hbody : ∀ (cdv : Value) (A : Around) (outer : List Env) (s : Shared) (H : Hp) (vs : List V) (Q : VK) (E : XK), Room k (A.deeper (envOfC x (defScope st) s.heap.objs.size (He.ga K x) cdv)) -> sp vs H Q E ->
   ∃ t, PSs (cxOf (L2.CX P w) P w K mg base N x (defScope st) (He.ga K x) cdv A outer s H E) (defBody st) t /\ t { nx := fun _ H' => Q .non H', rt := Q } (start N vs) H) : lO P w K mg base (k + 1) x ps sp := by
 obtain ⟨fd, F⟩ := F;refine ⟨fd, ?_, g, F.kp, F.bindsN bnd⟩
 obtain ⟨oc, od, dV, kV, doc, pm, an, cdv, ct, osl, e, lk, hc⟩ := F.ex;subst e;exact fn_of lk hc.1 S len fun A outer s H vs Q E hr hsp => hbody cdv A outer s H vs Q E hr hsp
end
def Dk : WX := fun _ _ _ _ => False
def PF (K : aD) (T U : String) : V -> Hp -> (Bool -> Prop) -> Prop := fun x H Q => match x with
 | .non => Q false
 | .bl _ => Q (isTy T "bool" || isTy U "bool")
 | .int _ => Q (isTy T "int" || isTy U "int")
 | .str _ => Q (isTy T "str" || isTy U "str")
 | .ref a => ∃ n, CJ K H a n /\ Q (isTy T n || isTy U n)
 | _ => False
def MC (K : aD) (T U : String) : List V -> Hp -> VK -> Prop := fun xs H Q => match xs with
 | [x, .ref tp] => H tp = some (.tup [.ty T, .ty U]) /\ PF K T U x H fun b => Q (.bl b) H
 | _ => False
def cIsE2 (K : aD) (T U : String) (ta : TE) : TE := tCB (MC K T U) (tCons ta (tCons (tTup (tCons (tC (.ty T)) (tCons (tC (.ty U)) tNil))) tNil))
section
variable {X : Cx} {a : Expr} {ta : TE} {pos p : Pos}
theorem N8 {K : aD} {n T U : String} (hn : n ∈ kinds) (hT : T ∈ targets) (hU : U ∈ targets) : PySem.W.kitAny K (.type n) [.type T, .type U] = some (isTy T n || isTy U n) := by
 have h1 := Gk (K := K) hn hT;have h2 := Gk (K := K) hn hU;cases e1 : isTy T n with
 | true =>
  rw [e1] at h1;exact kitAny_cons h1 (fun z => by cases z) fun _ => rfl
 | false =>
  rw [e1] at h1;refine kitAny_cons h1 (fun _ => ?_) (fun z => by cases z)
  cases e2 : isTy U n with
  | true =>
   rw [e2] at h2;exact kitAny_cons h2 (fun z => by cases z) fun _ => rfl
  | false =>
   rw [e2] at h2;exact kitAny_cons h2 (fun _ => rfl) (fun z => by cases z)
theorem Jj {T U : String} (hT : T ∈ targets) (hU : U ∈ targets) : CallR X (.builtin "isinstance") (MC X.K T U) := kO call_isiT fun xs H Q h => by
 match xs, h with
 | [x, .ref tp], ⟨ht, h⟩ =>
  have go : ∀ (k : String) (b : Bool), k ∈ kinds -> TyX X.K H x (.type k) -> b = (isTy T k || isTy U k) -> Q (.bl b) H -> rIsiT X.K [x, .ref tp] H Q := fun k b hk ty e q => ⟨x, tp, _, .type k, [.type T, .type U], _, rfl, ht, .cons (.ty T) (.cons (.ty U) .nil), ty, N8 hk hT hU, by rw [<- e]; exact q⟩
  cases x with
  | non =>
   refine go "NoneType" false (by decide) (.base .non) ?_ h
   have : ∀ T ∈ targets, isTy T "NoneType" = false := by decide
   rw [this T hT, this U hU];rfl
  | bl b => exact go "bool" _ (by decide) (.base (.bl b)) rfl h
  | int b => exact go "int" _ (by decide) (.base (.int b)) rfl h
  | str b => exact go "str" _ (by decide) (.base (.str b)) rfl h
  | ref a =>
   obtain ⟨k, ⟨hk, ty⟩, q⟩ := h;have h3 : k = "list" \/ k = "tuple" \/ k = "dict" := by simpa using hk
   exact go k _ (by rcases h3 with e | e | e <;> subst e <;> decide) ty rfl q
  | _ => exact h.elim
theorem RM {q1 q2 tpos : Pos} {j : Nat} {T U : String} {y z : Str} (hm : X.mg "isinstance" = none) (hmT : X.mg y = none) (hmU : X.mg z = none) (ha : PE X a ta) (hT : T ∈ targets := by decide) (hU : U ∈ targets := by decide)
  (hv : bootBuiltins y = some (.type T) := by decide +kernel) (hw : bootBuiltins z = some (.type U) := by decide +kernel) (hg : Gl X "isinstance" := by rfl) (hgT : Gl X y := by rfl) (hgU : Gl X z := by rfl) (hn : y ≠ "__name__" := by decide) (hd : (y == ("__debug__" : Str)) = false := by decide) (hn2 : z ≠ "__name__" := by decide) (hd2 : (z == ("__debug__" : Str)) = false := by decide)
  (hs : starEach [a, .Tuple [.Name y q1, .Name z q2] j tpos] X.env = (false, eval a X.env) :: starEach [.Tuple [.Name y q1, .Name z q2] j tpos] X.env := by rfl) :
  PE X (.Call (.Name "isinstance" p) [a, .Tuple [.Name y q1, .Name z q2] j tpos] [] pos) (cIsE2 X.K T U ta) :=
 pe_callB (Jj hT hU) hg hm boot_isinstance (pa_cons ha (pa_cons (pe_tup (pa_cons (pe_bltn (v := .ty T) hgT hmT hv rfl hn hd) (pa_cons (pe_bltn (v := .ty U) hgU hmU hw rfl hn2 hd2) pa_nil))) pa_nil) hs) (he := hs)
end
structure OkMX (P : Program) (w : World) (K : aD) (mg : Str -> Option Value) (base : Heap) (k : Nat) (C m : Str) (ps : List Str) (sp : Sp) : Prop where
 ex : ∃ fd, FnOk P w K mg base (L2.CX P w) k (He.ma K (He.ga K C) m) fd ps sp /\ Binds K fd ps []
 mt : Meth K (He.ga K C) m (He.ma K (He.ga K C) m)
section
variable {X : Cx} {o e : Expr} {es : List Expr} {t : TA} {ta : TE} {apos pos p : Pos} {C m x : Str} {ps : List Str} {sp : Sp} {k j : Nat} {E : XK} {W : WX}
def cMeth (C : Addr) (m : Str) (sp : Sp) (E : XK) (ta : TE) (t : TA) : TE := fun σ H Q => ta σ H fun x H1 => match x with
 | .ref a => ∃ dx fs, H1 a = some (.ins C dx fs) /\ fs.lookup m = none /\ t σ H1 fun vs H2 => sp (.ref a :: vs) H2 Q E
 | _ => False
def cFld (C : Addr) (f : Str) (ta : TE) : TE := fun σ H Q => ta σ H fun x H1 => match x with
 | .ref a => ∃ dx fs v, H1 a = some (.ins C dx fs) /\ fs.lookup f = some v /\ Q v H1
 | _ => False
theorem e_fld {C : Addr} {f : Str} (c : Cls X.K C) (n : NoAttr X.K C f) (he : PE X e ta) (hb : attributeBase e f X.env (eval e X.env) = eval e X.env := by rfl) : PE X (.Attribute e f pos) (cFld C f ta) := by
 refine ⟨fun pins s σ H Q I h => ?_⟩
 refine attr_of hb (thn (he.run pins s σ H _ I h) fun u s1 hh => ?_)
 obtain ⟨x, H1, I1, rx, hq⟩ := hh;cases x with
 | ref a =>
  obtain ⟨dx, fs, v, ea, l, q⟩ := hq;obtain rfl : u = Value.ref a := rx;exact getattr_ok I1 ea c n l fun _ _ I2 ru => ⟨v, H1, I2, ru, q⟩
 | _ => exact hq.elim
def cSetF (C : Addr) (f : Str) (ta tv : TE) : TS := fun D σ H => tv σ H fun y H1 => ta σ H1 fun x H2 => match x with
 | .ref a => ∃ dx fs, H2 a = some (.ins C dx fs) /\ fs.length < 1000 /\ D.nx σ (upd H2 a (.ins C dx (putF f y fs)))
 | _ => False
theorem Pb {C : Addr} {f : Str} {value : Expr} {tv : TE} {pos' : Pos} (c : Cls X.K C) (n : NoAttr X.K C f) (ha : PE X o ta) (hv : PE X value tv) (hs : swapsWith value (some (.Attribute o f pos')) pos.line X.env = pure false := by rfl) : PS X (.Assign [.Attribute o f pos'] value pos) (cSetF C f ta tv) := by
 refine ⟨fun pins s σ H D I h => ?_⟩
 refine plainObj_wpAny_Assign_Attribute (thn (hv.run pins s σ H _ I h) fun u s1 hh => ?_) hs
 obtain ⟨y, H1, I1, ry, q⟩ := hh;refine thn (ha.run pins s1 σ H1 _ I1 q) fun ov s2 hh => ?_
 obtain ⟨x, H2, I2, rx, hq⟩ := hh;cases x with
 | ref a =>
  obtain ⟨dx, fs, ea, l, q2⟩ := hq;obtain rfl : ov = Value.ref a := rx;exact setattr_ok I2 ea c n l ry fun _ I3 => ⟨σ, _, I3, q2⟩
 | _ => exact hq.elim
structure ClF (K : aD) (mg : Str -> Option Value) (C : Str) : Prop where
 cls : Cls K (He.ga K C)
 mak : Mk K (He.ga K C) (He.ma K (He.ga K C) "__init__")
 glo : mg C = some (.ref (He.ga K C))
def rLenO (C : Addr) (sp : Sp) (E : XK) : V -> Hp -> VK -> Prop := fun x H Q => match x with
 | .ref a => ∃ dx fs, H a = some (.ins C dx fs) /\ sp [.ref a] H (fun v H' => match v with | .int n => (0 <= n /\ n < 2 ^ 62) /\ Q (.int n) H' | _ => False) E
 | _ => False
def cIsC (K : aD) (C : Addr) : V -> Hp -> VK -> Prop := fun x H Q => match x with
 | .ref a => ∃ dx fs, H a = some (.ins C dx fs) /\ Q (.bl true) H
 | _ => False
structure IsF (K : aD) (C : Str) : Prop where
 cl : Cls K (He.ga K C)
 ha : cG K (.ref (He.ga K C)) "__class__" = some (some (.builtin "object.__class__"))
 hn : qL K (.builtin "object.__class__") "__get__" = some (some (.builtin "getset_descriptor.__get__"))
 htk : sV K (.builtin "object.__class__") = some true
 hm : wU K (He.ga K C) (.type "object") = some true
def PM (K : aD) (C : Addr) : List V -> Hp -> VK -> Prop := fun xs H Q => match xs with
 | [x, .ref D] => D = C /\ cIsC K C x H Q
 | _ => False
theorem M9 (T : IsF X.K C) : CallR X (.builtin "isinstance") (PM X.K (He.ga X.K C)) := kO call_isi fun xs H Q h => by
 match xs, h with
 | [x, .ref D], ⟨e, h⟩ =>
  subst e;cases x with
  | ref a =>
   obtain ⟨dx, fs, ha, q⟩ := h;exact ⟨.ref a, .ref (He.ga X.K C), .ref (He.ga X.K C), .ref (He.ga X.K C), true, rfl, .own _, .base (.ins ha T.cl T.ha T.hn T.htk T.hm), by unfold iM; rw [if_pos (by simp)], q⟩
  | _ => exact h.elim
def cIsCE (K : aD) (C : Addr) (ta : TE) : TE := tCB (PM K C) (tCons ta (tCons (tC (.ref C)) tNil))
theorem e_isC {a : Expr} {ta : TE} {q : Pos} (T : IsF X.K C) (hm : X.mg "isinstance" = none) (g : X.mg C = some (.ref (He.ga X.K C))) (ha : PE X a ta) (hg : Gl X "isinstance" := by rfl) (hgC : Gl X C := by rfl) (hdb : (C == ("__debug__" : Str)) = false := by decide)
  (hs : starEach [a, .Name C q] X.env = (false, eval a X.env) :: starEach [.Name C q] X.env := by rfl) : PE X (.Call (.Name "isinstance" p) [a, .Name C q] [] pos) (cIsCE X.K (He.ga X.K C) ta) :=
 pe_callB (M9 T) hg hm boot_isinstance (pa_cons ha (pa_cons (pe_glob (v := .ref (He.ga X.K C)) hgC g rfl hdb) pa_nil) hs) (he := hs)
end
abbrev Jt (K : aD) (C m q : Str) (st : Stmt) : Prop := ∃ fd, FunD K m q (defArgs st) (defBody st) (defScope st) [] [] (He.ma K (He.ga K C) m) fd
section
variable {P : Program} {w : World} {K : aD} {mg : Str -> Option Value} {base : Heap}
theorem My {C m q : Str} {st : Stmt} {N ps : List Str} {k : Nat} {sp : Sp} (F : Jt K C m q st) (g : Meth K (He.ga K C) m (He.ma K (He.ga K C) m)) (S : FnScope N ps (defScope st)) (len : ∀ vs H Q E, sp vs H Q E -> vs.length = ps.length)
  (bnd : ∀ (kV doc pm : Value) (an : Option Addr) (cdv ct : Value) (us : List Value), us.length = ps.length -> bindArgs (eW m q (defArgs st) (defBody st) (defScope st) .none kV doc pm an cdv ct) ⟨us, []⟩ = pure (ps.zip us))
  (hbody : ∀ (cdv : Value) (A : Around) (outer : List Env) (s : Shared) (H : Hp) (vs : List V) (Q : VK) (E : XK), Room k (A.deeper (envOfC q (defScope st) s.heap.objs.size (He.ma K (He.ga K C) m) cdv)) -> sp vs H Q E ->
   ∃ t, PSs (cxOf (L2.CX P w) P w K mg base N q (defScope st) (He.ma K (He.ga K C) m) cdv A outer s H E) (defBody st) t /\ t { nx := fun _ H' => Q .non H', rt := Q } (start N vs) H) : OkMX P w K mg base (k + 1) C m ps sp := by
 obtain ⟨fd, F⟩ := F;exact ⟨⟨fd, FunD.ok F S len fun cdv A outer s H vs Q E hr hsp => hbody cdv A outer s H vs Q E hr hsp, F.bindsN bnd⟩, g⟩
end
inductive D where
 | non | bl (b : Bool) | int (i : Int) | str (x : Str) | lst (xs : List D) | tup (xs : List D) | ins (C : Str) (ns : List Str) (xs : List D) | dct | opq (k : Option (Int × Int))
inductive Vl where
 | dat (d : D) | cel (n : Nat) | cels (ns : List Nat) | scr (ns : List Int) | tc (xs : List (D ⊕ Nat))
inductive Cell where
 | dead | lst (xs : List D) | ins (C : Str) (fs : List (Str × Vl)) | dct (fs : List (Str × Vl)) | lv (xs : List Vl) | dki (ks : List Int) (xs : List Vl) | dkt (ks : List (Int × Int)) (xs : List Vl)
abbrev aM := List Cell
abbrev Ev := List (Option Vl)
structure Er where
 cls : Str
 ns : List Str := []
 xs : List D := []
inductive Res (α : Type) where
 | ok (a : α) (S : aM) | err (e : Er) (S : aM) | stuck
def Res.bind {α β : Type} (r : Res α) (k : α -> aM -> Res β) : Res β := match r with
 | .ok a S => k a S
 | .err e S => .err e S
 | .stuck => .stuck
def lP (φ : List Addr) (S : aM) (a : Addr) : Prop := ∃ (n : Nat) (c : Cell), S[n]? = some c /\ c ≠ .dead /\ φ[n]? = some a
def jA (B : Addr -> Prop) (φ : List Addr) (S : aM) (a : Addr) : Prop := B a \/ lP φ S a
mutual
/-- the tree d is at v -/
def Rep (K : aD) (Bk : Addr -> Prop) (H : Hp) : D -> V -> Prop
 | .non, v => v = .non
 | .bl b, v => v = .bl b
 | .int i, v => v = .int i
 | .str x, v => v = .str x
 | .lst ds, v => ∃ a vs, v = .ref a /\ ¬ Bk a /\ H a = some (.lst vs) /\ RepL K Bk H ds vs
 | .tup ds, v => ∃ a vs, v = .ref a /\ SqT K H a vs /\ RepL K Bk H ds vs
 | .ins C ns ds, v => ∃ a dx vs, v = .ref a /\ ¬ Bk a /\ H a = some (.ins (He.ga K C) dx (ns.zip vs)) /\ RepL K Bk H ds vs
 | .dct, v => ∃ a, v = .ref a /\ ¬ Bk a /\ H a = some (.dK [])
 | .opq none, v => ∃ a, v = .ref a
 | .opq (some k), v => ∃ a, v = .ref a /\ ¬ Bk a /\ H a = some (.tup [.int k.1, .int k.2])
def RepL (K : aD) (Bk : Addr -> Prop) (H : Hp) : List D -> List V -> Prop
 | [], vs => vs = []
 | d :: ds, vs => ∃ v ws, vs = v :: ws /\ Rep K Bk H d v /\ RepL K Bk H ds ws
end
structure Kp (Bk : Addr -> Prop) (H : Hp) (Bk' : Addr -> Prop) (H' : Hp) : Prop where
 old : ∀ b o, H b = some o -> ¬ Bk b -> H' b = some o /\ ¬ Bk' b
 tup : ∀ b u, Rd H b (.tup u) -> Rd H' b (.tup u)
theorem SqT.kp {K : aD} {H H' : Hp} {a : Addr} {vs : List V} (t : ∀ b u, Rd H b (.tup u) -> Rd H' b (.tup u)) (h : SqT K H a vs) : SqT K H' a vs := by
 rcases h with h | h
 ·exact .inl (t _ _ h)
 ·exact .inr h
mutual
theorem Rep.kp {K : aD} {Bk Bk' : Addr -> Prop} {H H' : Hp} (k' : Kp Bk H Bk' H') : ∀ (d : D) (v : V), Rep K Bk H d v -> Rep K Bk' H' d v
 | .non, v, h => h
 | .bl b, v, h => h
 | .int i, v, h => h
 | .str x, v, h => h
 | .lst ds, v, ⟨a, vs, e, nb, h, r⟩ => ⟨a, vs, e, (k'.old _ _ h nb).2, (k'.old _ _ h nb).1, RepL.kp k' ds vs r⟩
 | .tup ds, v, ⟨a, vs, e, h, r⟩ => ⟨a, vs, e, SqT.kp k'.tup h, RepL.kp k' ds vs r⟩
 | .ins C ns ds, v, ⟨a, dx, vs, e, nb, h, r⟩ => ⟨a, dx, vs, e, (k'.old _ _ h nb).2, (k'.old _ _ h nb).1, RepL.kp k' ds vs r⟩
 | .dct, v, ⟨a, e, nb, h⟩ => ⟨a, e, (k'.old _ _ h nb).2, (k'.old _ _ h nb).1⟩
 | .opq none, v, h => h
 | .opq (some k), v, ⟨a, e, nb, h⟩ => ⟨a, e, (k'.old _ _ h nb).2, (k'.old _ _ h nb).1⟩
theorem RepL.kp {K : aD} {Bk Bk' : Addr -> Prop} {H H' : Hp} (k : Kp Bk H Bk' H') : ∀ (ds : List D) (vs : List V), RepL K Bk H ds vs -> RepL K Bk' H' ds vs
 | [], vs, h => h
 | d :: ds, vs, ⟨v, ws, e, h1, h2⟩ => ⟨v, ws, e, Rep.kp k d v h1, RepL.kp k ds ws h2⟩
end
def ScrAt (K : aD) (H : Hp) (a : Addr) (vs : List V) : Prop := (∃ o, H a = some (.frz o (.lst vs))) \/ SqL K (fun _ => none) a vs
theorem ScrAt.sq {K : aD} {H : Hp} {a : Addr} {vs : List V} (h : ScrAt K H a vs) : SqL K H a vs := by
 rcases h with ⟨o, h⟩ | (h | ⟨o, h⟩) | h
 ·exact .inl (.inr ⟨o, h⟩)
 ·cases h
 ·cases h
 ·exact .inr h
theorem ScrAt.keep {K : aD} {H H' : Hp} {a : Addr} {vs : List V} (h : ScrAt K H a vs) (k : ∀ o u, H a = some (.frz o u) -> H' a = some (.frz o u)) : ScrAt K H' a vs := by
 rcases h with ⟨o, h⟩ | h
 ·exact .inl ⟨o, k _ _ h⟩
 ·exact .inr h
def RepI (K : aD) (Bk : Addr -> Prop) (φ : List Addr) (H : Hp) : D ⊕ Nat -> V -> Prop
 | .inl d, v => Rep K Bk H d v
 | .inr n, v => ∃ a, v = .ref a /\ φ[n]? = some a
def RepIs (K : aD) (Bk : Addr -> Prop) (φ : List Addr) (H : Hp) : List (D ⊕ Nat) -> List V -> Prop
 | [], vs => vs = []
 | x :: xs, vs => ∃ v ws, vs = v :: ws /\ RepI K Bk φ H x v /\ RepIs K Bk φ H xs ws
theorem RepI.kp {K : aD} {Bk Bk' : Addr -> Prop} {φ φ' : List Addr} {H H' : Hp} (k : Kp Bk H Bk' H') (hφ : ∀ (n : Nat) (a : Addr), φ[n]? = some a -> φ'[n]? = some a) : ∀ {x : D ⊕ Nat} {v : V}, RepI K Bk φ H x v -> RepI K Bk' φ' H' x v
 | .inl d, v, h => Rep.kp k d v h
 | .inr n, v, ⟨a, h1, h2⟩ => ⟨a, h1, hφ _ _ h2⟩
theorem RepIs.kp {K : aD} {Bk Bk' : Addr -> Prop} {φ φ' : List Addr} {H H' : Hp} (k : Kp Bk H Bk' H') (hφ : ∀ (n : Nat) (a : Addr), φ[n]? = some a -> φ'[n]? = some a) : ∀ {xs : List (D ⊕ Nat)} {vs : List V}, RepIs K Bk φ H xs vs -> RepIs K Bk' φ' H' xs vs
 | [], vs, h => h
 | x :: xs, vs, ⟨v, ws, e, h1, h2⟩ => ⟨v, ws, e, h1.kp k hφ, RepIs.kp k hφ h2⟩
def RepV (K : aD) (B : Addr -> Prop) (φ : List Addr) (S : aM) (H : Hp) : Vl -> V -> Prop
 | .dat d, v => Rep K (jA B φ S) H d v
 | .cel n, v => ∃ a, v = .ref a /\ φ[n]? = some a
 | .cels ns, v => ∃ (a : Addr) (as : List Addr), v = .ref a /\ ¬ jA B φ S a /\ H a = some (.lst (as.map V.ref)) /\ ns.map (fun n => φ[n]?) = as.map some
 | .scr ns, v => ∃ a, v = .ref a /\ ScrAt K H a (ns.map V.int)
 | .tc xs, v => ∃ a vs, v = .ref a /\ SqT K H a vs /\ RepIs K (jA B φ S) φ H xs vs
def RepVs (K : aD) (B : Addr -> Prop) (φ : List Addr) (S : aM) (H : Hp) : List Vl -> List V -> Prop
 | [], vs => vs = []
 | d :: ds, vs => ∃ v ws, vs = v :: ws /\ RepV K B φ S H d v /\ RepVs K B φ S H ds ws
def RepF (K : aD) (B : Addr -> Prop) (φ : List Addr) (S : aM) (H : Hp) : List (Str × Vl) -> List (Str × V) -> Prop
 | [], vs => vs = []
 | d :: ds, vs => ∃ v ws, vs = (d.1, v) :: ws /\ RepV K B φ S H d.2 v /\ RepF K B φ S H ds ws
def kvOf (fs : List (Str × V)) : List (Key × V) := fs.map fun p => (Sum.inr p.1, p.2)
def kvI (ks : List Int) (vs : List V) : List (Key × V) := (ks.map Sum.inl).zip vs
def kvT (ks : List (Int × Int)) (vs : List V) : List (List Key × V) := (ks.map fun p => [Sum.inl p.1, Sum.inl p.2]).zip vs
def HW (K : aD) (B : Addr -> Prop) (φ : List Addr) (S : aM) (H : Hp) : Cell -> Addr -> Prop
 | .dead, _ => True
 | .lst ds, a => ∃ vs, H a = some (.lst vs) /\ RepL K (jA B φ S) H ds vs
 | .ins C fs, a => ∃ dx vfs, H a = some (.ins (He.ga K C) dx vfs) /\ RepF K B φ S H fs vfs
 | .dct fs, a => ∃ vfs, H a = some (.dK (kvOf vfs)) /\ RepF K B φ S H fs vfs
 | .lv xs, a => ∃ vs, H a = some (.lst vs) /\ RepVs K B φ S H xs vs
 | .dki ks xs, a => ∃ vs, H a = some (.dK (kvI ks vs)) /\ RepVs K B φ S H xs vs
 | .dkt ks xs, a => ∃ vs, H a = some (.dT (kvT ks vs)) /\ RepVs K B φ S H xs vs
structure GInv (K : aD) (B : Addr -> Prop) (φ : List Addr) (S : aM) (H : Hp) : Prop where
 len : φ.length = S.length
 ok : ∀ (n : Nat) (c : Cell) (a : Addr), S[n]? = some c -> φ[n]? = some a -> HW K B φ S H c a
 inj : ∀ (n m : Nat) (c c' : Cell) (a : Addr), S[n]? = some c -> c ≠ .dead -> S[m]? = some c' -> c' ≠ .dead -> φ[n]? = some a -> φ[m]? = some a -> n = m
 blk : ∀ a, lP φ S a -> ¬ B a
 btr : ∀ a, B a -> ∃ o, H a = some o
structure Ext (φ : List Addr) (S : aM) (H : Hp) (φ' : List Addr) (S' : aM) (H' : Hp) : Prop where
 old : ∀ b o, H b = some o -> ¬ lP φ S b -> H' b = some o /\ ¬ lP φ' S' b
 ids : ∀ (n : Nat) (a : Addr), φ[n]? = some a -> φ'[n]? = some a
section
variable {K : aD} {B : Addr -> Prop} {φ φ' φ₂ : List Addr} {S S' S₂ : aM} {H H' H₂ : Hp}
theorem Ext.refl : Ext φ S H φ S H := ⟨fun _ _ h n => ⟨h, n⟩, fun _ _ h => h⟩
theorem Ext.trans (a : Ext φ S H φ' S' H') (b : Ext φ' S' H' φ₂ S₂ H₂) : Ext φ S H φ₂ S₂ H₂ :=
 ⟨fun c o h n => b.old c o (a.old c o h n).1 (a.old c o h n).2, fun n x h => b.ids n x (a.ids n x h)⟩
theorem GInv.at_ (I : GInv K B φ S H) {a : Addr} (h : lP φ S a) : (∃ vs, H a = some (.lst vs)) \/ (∃ C dx fs, H a = some (.ins C dx fs)) \/ (∃ kvs, H a = some (.dK kvs)) \/ ∃ kvs, H a = some (.dT kvs) := by
 obtain ⟨n, c, h1, h2, h3⟩ := h;have q := I.ok n c a h1 h3;cases c with
 | dead => exact absurd rfl h2
 | lst ds => obtain ⟨vs, e, _⟩ := q; exact .inl ⟨vs, e⟩
 | ins C fs => obtain ⟨dx, vs, e, _⟩ := q; exact .inr (.inl ⟨_, dx, vs, e⟩)
 | dct fs => obtain ⟨vs, e, _⟩ := q; exact .inr (.inr (.inl ⟨_, e⟩))
 | lv xs => obtain ⟨vs, e, _⟩ := q; exact .inl ⟨vs, e⟩
 | dki ks xs => obtain ⟨vs, e, _⟩ := q; exact .inr (.inr (.inl ⟨_, e⟩))
 | dkt ks xs => obtain ⟨vs, e, _⟩ := q; exact .inr (.inr (.inr ⟨_, e⟩))
theorem GInv.some_ (I : GInv K B φ S H) {a : Addr} (h : lP φ S a) : H a ≠ none := by
 rcases I.at_ h with ⟨_, e⟩ | ⟨_, _, _, e⟩ | ⟨_, e⟩ | ⟨_, e⟩ <;> rw [e] <;> simp
theorem GInv.fresh (I : GInv K B φ S H) {a : Addr} (h : H a = none) : ¬ lP φ S a := fun q => I.some_ q h
theorem GInv.nblk (I : GInv K B φ S H) {a : Addr} (h : H a = none) : ¬ jA B φ S a := fun q => by
 rcases q with q | q
 ·obtain ⟨u, e⟩ := I.btr a q; rw [h] at e; cases e
 ·exact I.fresh h q
theorem GInv.ntup (I : GInv K B φ S H) {a : Addr} {xs : List V} (h : H a = some (.tup xs)) : ¬ lP φ S a := fun q => by
 rcases I.at_ q with ⟨_, e⟩ | ⟨_, _, _, e⟩ | ⟨_, e⟩ | ⟨_, e⟩ <;> rw [h] at e <;> cases e
theorem GInv.nfrz (I : GInv K B φ S H) {a : Addr} {o : Obj} {u : HO} (h : H a = some (.frz o u)) : ¬ lP φ S a := fun q => by
 rcases I.at_ q with ⟨_, e⟩ | ⟨_, _, _, e⟩ | ⟨_, e⟩ | ⟨_, e⟩ <;> rw [h] at e <;> cases e
theorem Ext.kp (e : Ext φ S H φ' S' H') (I : GInv K B φ S H) : Kp (jA B φ S) H (jA B φ' S') H' where
 old := fun b o h n => by
  obtain ⟨h1, h2⟩ := e.old b o h (fun q => n (.inr q))
  exact ⟨h1, fun q => by
   rcases q with q | q
   ·exact n (.inl q)
   ·exact h2 q⟩
 tup := fun b u h => by
  rcases h with h | ⟨o, h⟩
  ·exact .inl (e.old _ _ h (I.ntup h)).1
  ·exact .inr ⟨o, (e.old _ _ h (I.nfrz h)).1⟩
theorem EG (e : ∀ (n : Nat) (a : Addr), φ[n]? = some a -> φ'[n]? = some a) : ∀ (ns : List Nat) (as : List Addr), ns.map (fun n => φ[n]?) = as.map some -> ns.map (fun n => φ'[n]?) = as.map some
 | [], as, h => h
 | n :: ns, [], h => by simp at h
 | n :: ns, a :: as, h => by
  simp only [bG, List.cons.injEq] at h ⊢;exact ⟨e _ _ h.1, EG e ns as h.2⟩
theorem RepV.ext (e : Ext φ S H φ' S' H') (I : GInv K B φ S H) : ∀ {d : Vl} {v : V}, RepV K B φ S H d v -> RepV K B φ' S' H' d v
 | .dat d, v, h => Rep.kp (e.kp I) d v h
 | .cel n, v, ⟨a, h1, h2⟩ => ⟨a, h1, e.ids _ _ h2⟩
 | .cels ns, v, ⟨a, as, h1, h2, h3, h4⟩ => ⟨a, as, h1, ((e.kp I).old _ _ h3 h2).2, ((e.kp I).old _ _ h3 h2).1, EG e.ids ns as h4⟩
 | .scr ns, v, ⟨a, h1, h2⟩ => ⟨a, h1, h2.keep fun o u h => (e.old _ _ h (I.nfrz h)).1⟩
 | .tc xs, v, ⟨a, vs, h1, h2, h3⟩ => ⟨a, vs, h1, SqT.kp (e.kp I).tup h2, h3.kp (e.kp I) e.ids⟩
theorem RepVs.ext (e : Ext φ S H φ' S' H') (I : GInv K B φ S H) : ∀ {ds : List Vl} {vs : List V}, RepVs K B φ S H ds vs -> RepVs K B φ' S' H' ds vs
 | [], vs, h => h
 | d :: ds, vs, ⟨v, ws, e1, h1, h2⟩ => ⟨v, ws, e1, h1.ext e I, RepVs.ext e I h2⟩
theorem RepF.ext (e : Ext φ S H φ' S' H') (I : GInv K B φ S H) : ∀ {ds : List (Str × Vl)} {vs : List (Str × V)}, RepF K B φ S H ds vs -> RepF K B φ' S' H' ds vs
 | [], vs, h => h
 | d :: ds, vs, ⟨v, ws, e1, h1, h2⟩ => ⟨v, ws, e1, h1.ext e I, RepF.ext e I h2⟩
theorem Ext.repL (e : Ext φ S H φ' S' H') (I : GInv K B φ S H) {ds : List D} {vs : List V} (h : RepL K (jA B φ S) H ds vs) : RepL K (jA B φ' S') H' ds vs := RepL.kp (e.kp I) ds vs h
theorem eX {B' : Addr -> Prop} (hV : ∀ {d : Vl} {v : V}, RepV K B φ S H d v -> RepV K B' φ' S' H' d v) : ∀ {ds : List Vl} {vs : List V}, RepVs K B φ S H ds vs -> RepVs K B' φ' S' H' ds vs
 | [], vs, h => h
 | d :: ds, vs, ⟨v, ws, e1, h1, h2⟩ => ⟨v, ws, e1, hV h1, eX hV h2⟩
def RepE (K : aD) (B : Addr -> Prop) (φ : List Addr) (S : aM) (H : Hp) (ρ : Ev) (σ : L2.St) : Prop :=
 ρ.length = σ.length /\ ∀ (i : Nat) (d : Vl), ρ[i]? = some (some d) -> ∃ v, σ[i]? = some (some v) /\ RepV K B φ S H d v
theorem RepE.ext {ρ : Ev} {σ : L2.St} (e : Ext φ S H φ' S' H') (I : GInv K B φ S H) (h : RepE K B φ S H ρ σ) : RepE K B φ' S' H' ρ σ :=
 ⟨h.1, fun i d q => by
  obtain ⟨v, h1, h2⟩ := h.2 i d q;exact ⟨v, h1, h2.ext e I⟩⟩
theorem RepE.set {ρ : Ev} {σ : L2.St} {d : Vl} {v : V} (h : RepE K B φ S H ρ σ) (r : RepV K B φ S H d v) (i : Nat) : RepE K B φ S H (ρ.set i (some d)) (σ.set i (some v)) := by
 refine ⟨by simp [h.1], fun j d' q => ?_⟩
 rw [aQ] at q ⊢
 by_cases e : i = j
 ·subst e
  rw [if_pos rfl] at q ⊢
  by_cases hl : i < ρ.length
  ·rw [if_pos hl] at q
   cases q;rw [if_pos (by rw [<- h.1]; exact hl)]
   exact ⟨v, rfl, r⟩
  ·rw [if_neg hl] at q; cases q
 ·rw [if_neg e] at q ⊢
  exact h.2 j d' q
theorem RepE.forget {ρ : Ev} {σ : L2.St} (h : RepE K B φ S H ρ σ) (i : Nat) : RepE K B φ S H (ρ.set i none) σ := by
 refine ⟨by simp [h.1], fun j d' q => ?_⟩
 rw [aQ] at q
 by_cases e : i = j
 ·subst e
  rw [if_pos rfl] at q
  by_cases hl : i < ρ.length
  ·rw [if_pos hl] at q; cases q
  ·rw [if_neg hl] at q; cases q
 ·rw [if_neg e] at q
  exact h.2 j d' q
theorem rF {x : Cell} {p a : Addr} (hl : φ.length = S.length) : lP (φ ++ [p]) (S ++ [x]) a ↔ lP φ S a \/ (x ≠ .dead /\ a = p) := by
 constructor
 ·rintro ⟨n, c, h1, h2, h3⟩
  by_cases hn : n < S.length
  ·rw [aR hn] at h1
   rw [aR (by omega)] at h3
   exact .inl ⟨n, c, h1, h2, h3⟩
  ·have e : n = S.length := by
    have := (aJ.mp h1).1;simp at this;omega
   subst e;rw [bE (bR _)] at h1;rw [<- hl, bE (bR _)] at h3;simp at h1 h3;subst h1;exact .inr ⟨h2, h3.symm⟩
 ·rintro (⟨n, c, h1, h2, h3⟩ | ⟨h, rfl⟩)
  ·exact ⟨n, c, by rw [aR (aJ.mp h1).1]; exact h1, h2, by rw [aR (aJ.mp h3).1]; exact h3⟩
  ·exact ⟨S.length, x, by simp, h, by rw [<- hl]; simp⟩
theorem Ext.new {p : Addr} {o : HO} (I : GInv K B φ S H) (hp : H p = none) : Ext φ S H φ S (upd H p o) :=
 ⟨fun b u h n => ⟨by rw [upd_ne (ne_of_none h hp)]; exact h, n⟩, fun _ _ h => h⟩
theorem GInv.mono {o : Ext φ S H φ S H'} (I : GInv K B φ S H) (h : ∀ (n : Nat) (c : Cell) (a : Addr), S[n]? = some c -> c ≠ .dead -> φ[n]? = some a -> H' a = H a) : GInv K B φ S H' where
 len := I.len
 ok := fun n c a h1 h2 => by
  have q := I.ok n c a h1 h2;cases c with
  | dead => trivial
  | lst ds => obtain ⟨vs, e, r⟩ := q; exact ⟨vs, by rw [h n _ a h1 (by simp) h2]; exact e, o.repL I r⟩
  | ins C fs => obtain ⟨dx, vs, e, r⟩ := q; exact ⟨dx, vs, by rw [h n _ a h1 (by simp) h2]; exact e, r.ext o I⟩
  | dct fs => obtain ⟨vs, e, r⟩ := q; exact ⟨vs, by rw [h n _ a h1 (by simp) h2]; exact e, r.ext o I⟩
  | lv xs => obtain ⟨vs, e, r⟩ := q; exact ⟨vs, by rw [h n _ a h1 (by simp) h2]; exact e, r.ext o I⟩
  | dki ks xs => obtain ⟨vs, e, r⟩ := q; exact ⟨vs, by rw [h n _ a h1 (by simp) h2]; exact e, r.ext o I⟩
  | dkt ks xs => obtain ⟨vs, e, r⟩ := q; exact ⟨vs, by rw [h n _ a h1 (by simp) h2]; exact e, r.ext o I⟩
 inj := I.inj
 blk := I.blk
 btr := fun a h => by
  obtain ⟨u, e⟩ := I.btr a h;exact ⟨u, (o.old a u e fun q => I.blk a q h).1⟩
theorem GInv.new {p : Addr} {o : HO} (I : GInv K B φ S H) (hp : H p = none) : GInv K B φ S (upd H p o) :=
 GInv.mono (o := Ext.new I hp) I fun n c a h1 h2 h3 => by
  rw [upd_ne];intro e;subst e;exact I.fresh hp ⟨n, c, h1, h2, h3⟩
theorem Ext.newC {p : Addr} {o : HO} {x : Cell} (I : GInv K B φ S H) (hp : H p = none) : Ext φ S H (φ ++ [p]) (S ++ [x]) (upd H p o) where
 old := fun b u h n => by
  have hb : b ≠ p := ne_of_none h hp;exact ⟨by rw [upd_ne hb]; exact h, fun q => by
   rcases (rF I.len).mp q with q | ⟨_, q⟩
   ·exact n q
   ·exact hb q⟩
 ids := fun n a h => by rw [aR (aJ.mp h).1]; exact h
theorem GInv.newC {p : Addr} {o : HO} {x : Cell} (I : GInv K B φ S H) (hp : H p = none) (hx : x ≠ .dead -> HW K B (φ ++ [p]) (S ++ [x]) (upd H p o) x p) : GInv K B (φ ++ [p]) (S ++ [x]) (upd H p o) where
 len := by simp [I.len]
 ok := fun n c a h1 h2 => by
  by_cases hn : n < S.length
  ·rw [aR hn] at h1
   rw [aR (by rw [I.len]; exact hn)] at h2
   have q := I.ok n c a h1 h2;have ex := Ext.newC (o := o) (x := x) I hp;have ha : c ≠ .dead -> upd H p o a = H a := fun hc => by
    rw [upd_ne];intro e;subst e;exact I.fresh hp ⟨n, c, h1, hc, h2⟩
   cases c with
   | dead => trivial
   | lst ds => obtain ⟨vs, e, r⟩ := q; exact ⟨vs, by rw [ha (by simp)]; exact e, ex.repL I r⟩
   | ins C fs => obtain ⟨dx, vs, e, r⟩ := q; exact ⟨dx, vs, by rw [ha (by simp)]; exact e, r.ext ex I⟩
   | dct fs => obtain ⟨vs, e, r⟩ := q; exact ⟨vs, by rw [ha (by simp)]; exact e, r.ext ex I⟩
   | lv xs => obtain ⟨vs, e, r⟩ := q; exact ⟨vs, by rw [ha (by simp)]; exact e, r.ext ex I⟩
   | dki ks xs => obtain ⟨vs, e, r⟩ := q; exact ⟨vs, by rw [ha (by simp)]; exact e, r.ext ex I⟩
   | dkt ks xs => obtain ⟨vs, e, r⟩ := q; exact ⟨vs, by rw [ha (by simp)]; exact e, r.ext ex I⟩
  ·have e : n = S.length := by
    have := (aJ.mp h1).1;simp at this;omega
   subst e;rw [bE (bR _)] at h1;rw [<- I.len, bE (bR _)] at h2;simp at h1 h2;subst h1 h2;cases x with
   | dead => trivial
   | _ => exact hx (by simp)
 inj := fun n m c c' a h1 h2 h3 h4 h5 h6 => by
  have key : ∀ (n : Nat) (c : Cell), (S ++ [x])[n]? = some c -> (n < S.length /\ S[n]? = some c) \/ n = S.length := fun n c h => by
   by_cases hn : n < S.length
   ·rw [aR hn] at h; exact .inl ⟨hn, h⟩
   ·have := (aJ.mp h).1
    simp at this;exact .inr (by omega)
  have kφ : ∀ n : Nat, n < S.length -> (φ ++ [p])[n]? = φ[n]? := fun n hn => aR (by rw [I.len]; exact hn)
  have kp : (φ ++ [p])[S.length]? = some p := by rw [<- I.len]; simp
  rcases key n c h1 with ⟨hn, e1⟩ | e1 <;> rcases key m c' h3 with ⟨hm, e2⟩ | e2
  ·rw [kφ n hn] at h5
   rw [kφ m hm] at h6;exact I.inj n m c c' a e1 h2 e2 h4 h5 h6
  ·subst e2
   rw [kp] at h6;cases h6;rw [kφ n hn] at h5;exact absurd ⟨n, c, e1, h2, h5⟩ (I.fresh hp)
  ·subst e1
   rw [kp] at h5;cases h5;rw [kφ m hm] at h6;exact absurd ⟨m, c', e2, h4, h6⟩ (I.fresh hp)
  ·omega
 blk := fun a h => by
  rcases (rF I.len).mp h with h | ⟨_, h⟩
  ·exact I.blk a h
  ·rw [h]; intro q; obtain ⟨u, e⟩ := I.btr p q; rw [hp] at e; cases e
 btr := fun a h => by
  obtain ⟨u, e⟩ := I.btr a h;exact ⟨u, by rw [upd_ne (ne_of_none e hp)]; exact e⟩
theorem Dd {n : Nat} {c x : Cell} {a : Addr} (h : S[n]? = some c) (hc : c ≠ .dead) (hx : x ≠ .dead) : lP φ (S.set n x) a ↔ lP φ S a := by
 constructor
 ·rintro ⟨m, c', h1, h2, h3⟩
  rw [aQ] at h1
  by_cases e : n = m
  ·subst e
   exact ⟨n, c, h, hc, h3⟩
  ·rw [if_neg e] at h1
   exact ⟨m, c', h1, h2, h3⟩
 ·rintro ⟨m, c', h1, h2, h3⟩
  by_cases e : n = m
  ·subst e
   exact ⟨n, x, by rw [aQ, if_pos rfl, if_pos (aJ.mp h).1], hx, h3⟩
  ·exact ⟨m, c', by rw [aQ, if_neg e]; exact h1, h2, h3⟩
theorem CF {n : Nat} {a : Addr} (h : lP φ (S.set n .dead) a) : lP φ S a := by
 obtain ⟨m, c', h1, h2, h3⟩ := h;rw [aQ] at h1
 by_cases e : n = m
 ·rw [if_pos e] at h1
  by_cases hl : n < S.length
  ·rw [if_pos hl] at h1; cases h1; exact absurd rfl h2
  ·rw [if_neg hl] at h1; cases h1
 ·rw [if_neg e] at h1
  exact ⟨m, c', h1, h2, h3⟩
theorem Ext.put {n : Nat} {c x : Cell} {a : Addr} {o : HO} (hn : S[n]? = some c) (hc : c ≠ .dead) (ha : φ[n]? = some a) (hx : x ≠ .dead) : Ext φ S H φ (S.set n x) (upd H a o) where
 old := fun b u h nb => by
  have hb : b ≠ a := fun e => by subst e; exact nb ⟨n, c, hn, hc, ha⟩
  exact ⟨by rw [upd_ne hb]; exact h, fun q => nb ((Dd hn hc hx).mp q)⟩
 ids := fun _ _ h => h
theorem GInv.put {n : Nat} {c x : Cell} {a : Addr} {o : HO} (I : GInv K B φ S H) (hn : S[n]? = some c) (hc : c ≠ .dead) (ha : φ[n]? = some a) (hx : x ≠ .dead) (ok : HW K B φ (S.set n x) (upd H a o) x a) : GInv K B φ (S.set n x) (upd H a o) where
 len := by simp [I.len]
 ok := fun m c' b h1 h2 => by
  by_cases e : n = m
  ·subst e
   rw [aQ, if_pos rfl, if_pos (aJ.mp hn).1] at h1;cases h1;rw [ha] at h2;cases h2;exact ok
  ·rw [aQ, if_neg e] at h1
   have q := I.ok m c' b h1 h2;have ex := Ext.put (H := H) (o := o) hn hc ha hx;have hb : c' ≠ .dead -> upd H a o b = H b := fun hc' => upd_ne fun e2 => by
    subst e2;exact e (I.inj n m c c' b hn hc h1 hc' ha h2)
   cases c' with
   | dead => trivial
   | lst ds => obtain ⟨vs, e, r⟩ := q; exact ⟨vs, by rw [hb (by simp)]; exact e, ex.repL I r⟩
   | ins C fs => obtain ⟨dx, vs, e, r⟩ := q; exact ⟨dx, vs, by rw [hb (by simp)]; exact e, r.ext ex I⟩
   | dct fs => obtain ⟨vs, e, r⟩ := q; exact ⟨vs, by rw [hb (by simp)]; exact e, r.ext ex I⟩
   | lv xs => obtain ⟨vs, e, r⟩ := q; exact ⟨vs, by rw [hb (by simp)]; exact e, r.ext ex I⟩
   | dki ks xs => obtain ⟨vs, e, r⟩ := q; exact ⟨vs, by rw [hb (by simp)]; exact e, r.ext ex I⟩
   | dkt ks xs => obtain ⟨vs, e, r⟩ := q; exact ⟨vs, by rw [hb (by simp)]; exact e, r.ext ex I⟩
 inj := fun i j d d' b h1 h2 h3 h4 h5 h6 => by
  have key : ∀ (i : Nat) (d : Cell), (S.set n x)[i]? = some d -> d ≠ .dead -> ∃ d0, S[i]? = some d0 /\ d0 ≠ .dead := fun i d h hd => by
   by_cases e : n = i
   ·subst e; exact ⟨c, hn, hc⟩
   ·rw [aQ, if_neg e] at h; exact ⟨d, h, hd⟩
  obtain ⟨d0, e1, e2⟩ := key i d h1 h2;obtain ⟨d1, e3, e4⟩ := key j d' h3 h4;exact I.inj i j d0 d1 b e1 e2 e3 e4 h5 h6
 blk := fun b h => I.blk b ((Dd hn hc hx).mp h)
 btr := fun b h => by
  obtain ⟨u, e⟩ := I.btr b h;exact ⟨u, by rw [upd_ne]; exact e; intro q; subst q; exact I.blk b ⟨n, c, hn, hc, ha⟩ h⟩
theorem Ext.kill {n : Nat} : Ext φ S H φ (S.set n .dead) H := ⟨fun b o h nb => ⟨h, fun q => nb (CF q)⟩, fun _ _ h => h⟩
theorem GInv.kill {n : Nat} (I : GInv K B φ S H) : GInv K B φ (S.set n .dead) H where
 len := by simp [I.len]
 ok := fun m c' b h1 h2 => by
  by_cases e : n = m
  ·rw [aQ, if_pos e] at h1
   by_cases hl : n < S.length
   ·rw [if_pos hl] at h1; cases h1; trivial
   ·rw [if_neg hl] at h1; cases h1
  ·rw [aQ, if_neg e] at h1
   have q := I.ok m c' b h1 h2;have ex := Ext.kill (φ := φ) (S := S) (H := H) (n := n);cases c' with
   | dead => trivial
   | lst ds => obtain ⟨vs, e, r⟩ := q; exact ⟨vs, e, ex.repL I r⟩
   | ins C fs => obtain ⟨dx, vs, e, r⟩ := q; exact ⟨dx, vs, e, r.ext ex I⟩
   | dct fs => obtain ⟨vs, e, r⟩ := q; exact ⟨vs, e, r.ext ex I⟩
   | lv xs => obtain ⟨vs, e, r⟩ := q; exact ⟨vs, e, r.ext ex I⟩
   | dki ks xs => obtain ⟨vs, e, r⟩ := q; exact ⟨vs, e, r.ext ex I⟩
   | dkt ks xs => obtain ⟨vs, e, r⟩ := q; exact ⟨vs, e, r.ext ex I⟩
 inj := fun i j d d' b h1 h2 h3 h4 h5 h6 => by
  have key : ∀ (i : Nat) (d : Cell), (S.set n .dead)[i]? = some d -> d ≠ .dead -> S[i]? = some d := fun i d h hd => by
   rw [aQ] at h
   by_cases e : n = i
   ·rw [if_pos e] at h
    by_cases hl : n < S.length
    ·rw [if_pos hl] at h; cases h; exact absurd rfl hd
    ·rw [if_neg hl] at h; cases h
   ·rw [if_neg e] at h; exact h
  exact I.inj i j d d' b (key i d h1 h2) h2 (key j d' h3 h4) h4 h5 h6
 blk := fun b h => I.blk b (CF h)
 btr := I.btr
theorem GInv.killed {n : Nat} {c : Cell} {a : Addr} (I : GInv K B φ S H) (hn : S[n]? = some c) (hc : c ≠ .dead) (ha : φ[n]? = some a) : ¬ jA B φ (S.set n .dead) a := fun q => by
 rcases q with q | ⟨m, c', h1, h2, h3⟩
 ·exact I.blk a ⟨n, c, hn, hc, ha⟩ q
 ·rw [aQ] at h1
  by_cases e : n = m
  ·rw [if_pos e] at h1
   by_cases hl : n < S.length
   ·rw [if_pos hl] at h1; cases h1; exact h2 rfl
   ·rw [if_neg hl] at h1; cases h1
  ·rw [if_neg e] at h1
   exact e (I.inj n m c c' a hn hc h1 h2 ha h3)
end
abbrev FE := Ev -> aM -> Res Vl
abbrev FT := Ev -> aM -> Res Bool
abbrev FA := Ev -> aM -> Res (List Vl)
abbrev FO := Ev -> aM -> Res (Option Int)
abbrev Rl (α β : Type) := (Addr -> Prop) -> List Addr -> aM -> Hp -> α -> β -> Prop
def Jm (K : aD) (B : Addr -> Prop) (φ : List Addr) (S : aM) (H : Hp) (e : Er) (c : Value) (x : Option Addr) : Prop :=
 c = .ref (He.ga K e.cls) /\ ((e.ns = [] /\ x = none) \/ ∃ d vs, x = some d /\ H d = some (.xd (e.ns.zip vs)) /\ RepL K (jA B φ S) H e.xs vs)
section
variable {α β α' β' : Type}
def Fin (K : aD) (W : WX) (σ : L2.St) (R : Rl α β) (B : Addr -> Prop) (φ : List Addr) (S : aM) (H : Hp) (r : Res α) (Q : β -> Hp -> Prop) : Prop := match r with
 | .ok d S' => ∀ φ' v H', GInv K B φ' S' H' -> Ext φ S H φ' S' H' -> R B φ' S' H' d v -> Q v H'
 | .err e S' => ∀ φ' c x H', GInv K B φ' S' H' -> Ext φ S H φ' S' H' -> Jm K B φ' S' H' e c x -> W c x σ H'
 | .stuck => False
def rd (K : aD) (W : WX) (R : Rl α β) (m : Ev -> aM -> Res α) : L2.St -> Hp -> (β -> Hp -> Prop) -> Prop := fun σ H Q =>
 ∃ B φ S ρ, GInv K B φ S H /\ RepE K B φ S H ρ σ /\ Fin K W σ R B φ S H (m ρ S) Q
end
def RB : Rl Bool Bool := fun _ _ _ _ b c => c = b
def RO : Rl (Option Int) (Option Int) := fun _ _ _ _ b c => c = b
abbrev cY (K : aD) (W : WX) (m : FE) : TE := rd K W (RepV K) m
abbrev tN (K : aD) (W : WX) (m : FT) : TT := rd K W RB m
abbrev GG (K : aD) (W : WX) (m : FA) : TA := rd K W (RepVs K) m
abbrev rdO (K : aD) (W : WX) (m : FO) : TO := rd K W RO m
section
variable {α β α' β' : Type} {K : aD} {W : WX} {σ : L2.St} {R : Rl α β} {R' : Rl α' β'} {B : Addr -> Prop} {φ φ' : List Addr} {S S' : aM} {H H' : Hp}
theorem Fin.ext {r : Res α} {Q : β -> Hp -> Prop} (f : Fin K W σ R B φ S H r Q) (e : Ext φ S H φ' S' H') : Fin K W σ R B φ' S' H' r Q := by
 cases r with
 | ok d S1 => exact fun φ1 v H1 I1 X r => f φ1 v H1 I1 (e.trans X) r
 | err x S1 => exact fun φ1 c x H1 I1 X r => f φ1 c x H1 I1 (e.trans X) r
 | stuck => exact f
theorem cA {m : Ev -> aM -> Res α} {k : α -> Ev -> aM -> Res α'} {Q : β' -> Hp -> Prop} {Q1 : β -> Hp -> Prop} (h : rd K W R' (fun ρ S => (m ρ S).bind fun a S' => k a ρ S') σ H Q)
  (hk : ∀ B φ S ρ d v H1, GInv K B φ S H1 -> RepE K B φ S H1 ρ σ -> R B φ S H1 d v -> Fin K W σ R' B φ S H1 (k d ρ S) Q -> Q1 v H1) : rd K W R m σ H Q1 := by
 obtain ⟨B, φ, S, ρ, I, E, f⟩ := h;refine ⟨B, φ, S, ρ, I, E, ?_⟩
 dsimp only at f;cases e : m ρ S with
 | stuck => rw [e] at f; exact f
 | err x S' => rw [e] at f; exact f
 | ok d S' =>
  rw [e] at f;exact fun φ' v H' I' X r => hk B φ' S' ρ d v H' I' (E.ext X I) r (Fin.ext f X)
theorem iJ {ρ : Ev} {m : Ev -> aM -> Res α} {k : α -> aM -> Res α'} {Q : β' -> Hp -> Prop} {Q1 : β -> Hp -> Prop} (I : GInv K B φ S H) (E : RepE K B φ S H ρ σ) (f : Fin K W σ R' B φ S H ((m ρ S).bind k) Q)
  (hk : ∀ φ' S' d v H1, GInv K B φ' S' H1 -> Ext φ S H φ' S' H1 -> RepE K B φ' S' H1 ρ σ -> R B φ' S' H1 d v -> Fin K W σ R' B φ' S' H1 (k d S') Q -> Q1 v H1) : rd K W R m σ H Q1 := by
 refine ⟨B, φ, S, ρ, I, E, ?_⟩
 cases e : m ρ S with
 | stuck => rw [e] at f; exact f
 | err x S' => rw [e] at f; exact f
 | ok d S' =>
  rw [e] at f;exact fun φ' v H' I' X r => hk φ' S' d v H' I' X (E.ext X I) r (Fin.ext f X)
theorem Fin.now {d : α} {v : β} {Q : β -> Hp -> Prop} (f : Fin K W σ R B φ S H (.ok d S) Q) (I : GInv K B φ S H) (r : R B φ S H d v) : Q v H := f φ v H I Ext.refl r
end
def newL (c : Bool) (ds : List D) (S : aM) : Res Vl := if c then .ok (.cel S.length) (S ++ [.lst ds]) else .ok (.dat (.lst ds)) S
section
variable {K : aD} {W : WX} {σ : L2.St} {B : Addr -> Prop} {φ φ' : List Addr} {S S' : aM} {H H' : Hp} {Q : VK}
theorem mV {l : List Addr} {p : Addr} : (l ++ [p])[l.length]? = some p := by simp
theorem Fin.newT {ds : List D} {vs : List V} {p : Addr} (f : Fin K W σ (RepV K) B φ S H (.ok (.dat (.tup ds)) S) Q) (I : GInv K B φ S H) (r : RepL K (jA B φ S) H ds vs) (hp : H p = none) : Q (.ref p) (upd H p (.tup vs)) :=
 f φ _ _ (I.new hp) (Ext.new I hp) ⟨p, vs, rfl, .inl (.inl upd_same), (Ext.new I hp).repL I r⟩
theorem Fin.newL {c : Bool} {ds : List D} {vs : List V} {p : Addr} (f : Fin K W σ (RepV K) B φ S H (newL c ds S) Q) (I : GInv K B φ S H) (r : RepL K (jA B φ S) H ds vs) (hp : H p = none) : Q (.ref p) (upd H p (.lst vs)) := by
 unfold PH.newL at f;cases c with
 | false =>
  refine f φ _ _ (I.new hp) (Ext.new I hp) ⟨p, vs, rfl, I.nblk hp, upd_same, (Ext.new I hp).repL I r⟩
 | true =>
  have X := Ext.newC (o := .lst vs) (x := .lst ds) I hp;refine f (φ ++ [p]) _ _ (I.newC hp fun _ => ⟨vs, upd_same, X.repL I r⟩) X ⟨p, rfl, ?_⟩
  rw [<- I.len];exact mV
end
instance instIntMulOk (a b : Int) : Decidable (IntMulOk a b) := by unfold IntMulOk; infer_instance
instance instCDiv (a b : Int) : Decidable (CDiv a b) := by unfold CDiv; infer_instance
instance instCPow (a b : Int) : Decidable (CPow a b) := by unfold CPow; infer_instance
def lk : Ev -> Nat -> Option Vl
 | [], _ => none
 | x :: _, 0 => x
 | _ :: r, n + 1 => lk r n
theorem FK : ∀ {ρ : Ev} {i : Nat} {d : Vl}, lk ρ i = some d -> ρ[i]? = some (some d)
 | [], _, _, h => by cases h
 | x :: _, 0, d, h => by
  have e : x = some d := h;rw [e]; rfl
 | _ :: r, n + 1, d, h => by
  have e := FK (ρ := r) (i := n) (d := d) h
  simpa using e
def aC (i : Nat) : FE := fun ρ S => match lk ρ i with
 | some d => .ok d S
 | none => .stuck
def mC (d : D) : FE := fun _ S => .ok (.dat d) S
def aX (f : Vl -> Vl -> aM -> Res Vl) (a b : FE) : FE := fun ρ S => (a ρ S).bind fun x S1 => (b ρ S1).bind fun y S2 => f x y S2
def m1 (f : Vl -> aM -> Res Vl) (a : FE) : FE := fun ρ S => (a ρ S).bind fun x S1 => f x S1
def fZ (K : aD) (r : R2) (f : Vl -> Vl -> aM -> Res Vl) : Prop := ∀ {W : WX} {σ : L2.St} {B : Addr -> Prop} {φ : List Addr} {S : aM} {H : Hp} {x y : V} {d e : Vl} {Q : VK}, GInv K B φ S H -> RepV K B φ S H d x -> RepV K B φ S H e y -> Fin K W σ (RepV K) B φ S H (f d e S) Q -> r x y H Q
def G8 (K : aD) (r : V -> Hp -> VK -> Prop) (f : Vl -> aM -> Res Vl) : Prop := ∀ {W : WX} {σ : L2.St} {B : Addr -> Prop} {φ : List Addr} {S : aM} {H : Hp} {x : V} {d : Vl} {Q : VK}, GInv K B φ S H -> RepV K B φ S H d x -> Fin K W σ (RepV K) B φ S H (f d S) Q -> r x H Q
section
variable {X : Cx} {W : WX} {e a b c : Expr} {pos p : Pos} {x : Str}
theorem fv (i : Nat) (hN : X.N[i]? = some x := by rfl) (hv : Vis X.env.scope x := by first | exact Cm rfl | exact Ah (Cm rfl) | exact Ah (Ah rfl)) (hd : (x == ("__debug__" : Str)) = false := by decide)
  (hcd : (x == ("__classdict__" : Str)) = false := by decide) : PE X (.Name x pos) (cY X.K W (aC i)) := cP (pe_var hN hv hd hcd) fun σ H Q h => by
 obtain ⟨B, φ, S, ρ, I, E, f⟩ := h;unfold aC at f;cases q : lk ρ i with
 | none => rw [q] at f; exact f.elim
 | some d =>
  rw [q] at f;obtain ⟨v, h1, h2⟩ := E.2 i d (FK q);exact ⟨v, h1, f.now I h2⟩
theorem Lw {v : V} {d : D} (h : PE X e (tC v)) (r : ∀ Bk H, Rep X.K Bk H d v) : PE X e (cY X.K W (mC d)) := cP h fun σ H Q h => by
 obtain ⟨B, φ, S, ρ, I, E, f⟩ := h;exact Fin.now (v := v) f I (r _ _)
theorem B7 {K : aD} {r : R2} {f : Vl -> Vl -> aM -> Res Vl} {ma mb : FE} {σ : L2.St} {H : Hp} {Q : VK} (s : fZ K r f) (h : cY K W (aX f ma mb) σ H Q) : tOp r (cY K W ma) (cY K W mb) σ H Q :=
 cA (k := fun x ρ S => (mb ρ S).bind fun y S2 => f x y S2) h fun B φ S ρ d v H1 I E r1 f' => iJ I E f' fun φ' S' e w H2 I2 X2 E2 r2 f2 => s I2 (r1.ext X2 I) r2 f2
theorem cR {op : Operator} {r : R2} {f : Vl -> Vl -> aM -> Res Vl} {ma mb : FE} (o : OpR X (binaryOp op) r) (s : fZ X.K r f) (ha : PE X a (cY X.K W ma)) (hb : PE X b (cY X.K W mb)) : PE X (.BinOp a op b pos) (cY X.K W (aX f ma mb)) :=
 cP (pe_op o ha hb) fun σ H Q h => B7 s h
theorem jN {op : CmpOp} {r : R2} {f : Vl -> Vl -> aM -> Res Vl} {ma mb : FE} (o : OpR X (compareOp op) r) (s : fZ X.K r f) (ha : PE X a (cY X.K W ma)) (hb : PE X b (cY X.K W mb)) (hm : behindInMarks op b = false := by rfl) : PE X (.Compare a [op] [b] pos) (cY X.K W (aX f ma mb)) :=
 cP (e_cmp o ha hb hm) fun σ H Q h => B7 s h
theorem K9 {K : aD} {r : V -> Hp -> VK -> Prop} {f : Vl -> aM -> Res Vl} {ma : FE} {σ : L2.St} {H : Hp} {Q : VK} (s : G8 K r f) (h : cY K W (m1 f ma) σ H Q) : cY K W ma σ H fun x H1 => r x H1 Q :=
 cA (k := fun x ρ S => f x S) h fun B φ S ρ d v H1 I E r1 f' => s I r1 f'
def uD : Vl -> Vl -> aM -> Res Vl
 | .dat (.int i), .dat (.int j), S => .ok (.dat (.int (i - j))) S
 | _, _, _ => .stuck
def A1 : Vl -> Vl -> aM -> Res Vl
 | .dat (.int i), .dat (.int j), S => if IntMulOk i j then .ok (.dat (.int (i * j))) S else .stuck
 | _, _, _ => .stuck
def wI : Vl -> Vl -> aM -> Res Vl
 | .dat (.int i), .dat (.int j), S => if 0 < j then .ok (.dat (.int (i % j))) S else .stuck
 | _, _, _ => .stuck
def pO : Vl -> Vl -> aM -> Res Vl
 | .dat (.int i), .dat (.int j), S => if CDiv i j then .ok (.dat (.int (i / j))) S else .stuck
 | _, _, _ => .stuck
def OI : Vl -> Vl -> aM -> Res Vl
 | .dat (.int i), .dat (.int j), S => if CPow i j then .ok (.dat (.int (i ^ j.toNat))) S else .stuck
 | _, _, _ => .stuck
def ET : Vl -> Vl -> aM -> Res Vl
 | .dat (.int i), .dat (.int j), S => .ok (.dat (.bl (decide (i < j)))) S
 | _, _, _ => .stuck
def HK : Vl -> Vl -> aM -> Res Vl
 | .dat (.int i), .dat (.int j), S => .ok (.dat (.bl (decide (i <= j)))) S
 | _, _, _ => .stuck
def GH : Vl -> Vl -> aM -> Res Vl
 | .dat (.int i), .dat (.int j), S => .ok (.dat (.bl (decide (j < i)))) S
 | _, _, _ => .stuck
def fGe : Vl -> Vl -> aM -> Res Vl
 | .dat (.int i), .dat (.int j), S => .ok (.dat (.bl (decide (j <= i)))) S
 | _, _, _ => .stuck
variable {K : aD}
theorem sN : fZ K KI uD := fun {W σ B φ S H x y d e Q} I r1 r2 f => by
 unfold uD at f;split at f
 ·cases r1; cases r2; exact Fin.now f I rfl
 ·exact f.elim
theorem F7 : fZ K Oi A1 := fun {W σ B φ S H x y d e Q} I r1 r2 f => by
 unfold A1 at f;split at f
 ·cases r1; cases r2
  split at f
  ·rename_i h; exact ⟨h, Fin.now f I rfl⟩
  ·exact f.elim
 ·exact f.elim
theorem vN : fZ K Oj wI := fun {W σ B φ S H x y d e Q} I r1 r2 f => by
 unfold wI at f;split at f
 ·cases r1; cases r2
  split at f
  ·rename_i h; exact ⟨h, Fin.now f I rfl⟩
  ·exact f.elim
 ·exact f.elim
theorem zG : fZ K KL pO := fun {W σ B φ S H x y d e Q} I r1 r2 f => by
 unfold pO at f;split at f
 ·cases r1; cases r2
  split at f
  ·rename_i h; exact ⟨h, Fin.now f I rfl⟩
  ·exact f.elim
 ·exact f.elim
theorem s_pow : fZ K Oh OI := fun {W σ B φ S H x y d e Q} I r1 r2 f => by
 unfold OI at f;split at f
 ·cases r1; cases r2
  split at f
  ·rename_i h; exact ⟨h, Fin.now f I rfl⟩
  ·exact f.elim
 ·exact f.elim
theorem xG : fZ K rLtC ET := fun {W σ B φ S H x y d e Q} I r1 r2 f => by
 unfold ET at f;split at f
 ·cases r1; cases r2; exact Fin.now f I rfl
 ·exact f.elim
theorem BN : fZ K rLeC HK := fun {W σ B φ S H x y d e Q} I r1 r2 f => by
 unfold HK at f;split at f
 ·cases r1; cases r2; exact Fin.now f I rfl
 ·exact f.elim
theorem zF : fZ K rGtC GH := fun {W σ B φ S H x y d e Q} I r1 r2 f => by
 unfold GH at f;split at f
 ·cases r1; cases r2; exact Fin.now f I rfl
 ·exact f.elim
theorem s_ge : fZ K rGeC fGe := fun {W σ B φ S H x y d e Q} I r1 r2 f => by
 unfold fGe at f;split at f
 ·cases r1; cases r2; exact Fin.now f I rfl
 ·exact f.elim
def oS : Vl -> aM -> Res Vl
 | .dat (.int i), S => .ok (.dat (.int (-i))) S
 | _, _ => .stuck
theorem nI {ma : FE} (ha : PE X a (cY X.K W ma)) : PE X (.UnaryOp .USub a pos) (cY X.K W (m1 oS ma)) :=
 cP (pe_un MT ha) fun σ H Q h => K9 (r := cNeg) (fun {W σ B φ S H x d Q} I r f => by
  unfold oS at f;split at f
  ·cases r; exact Fin.now f I rfl
  ·exact f.elim) h
theorem RepL.len {Bk : Addr -> Prop} {H : Hp} : ∀ {ds : List D} {vs : List V}, RepL K Bk H ds vs -> vs.length = ds.length
 | [], vs, h => by cases h; rfl
 | d :: ds, vs, ⟨v, ws, e, _, h2⟩ => by subst e; simp [RepL.len h2]
theorem RepL.get {Bk : Addr -> Prop} {H : Hp} : ∀ {ds : List D} {vs : List V} {i : Nat} {d : D}, RepL K Bk H ds vs -> ds[i]? = some d -> ∃ v, vs[i]? = some v /\ Rep K Bk H d v
 | [], vs, i, d, h, q => by simp at q
 | d :: ds, vs, 0, d', ⟨v, ws, e, h1, h2⟩, q => by simp at q; subst q e; exact ⟨v, rfl, h1⟩
 | d :: ds, vs, i + 1, d', ⟨v, ws, e, h1, h2⟩, q => by
  subst e;obtain ⟨v', h3, h4⟩ := RepL.get (i := i) (d := d') h2 (by simpa using q)
  exact ⟨v', by simpa using h3, h4⟩
theorem RepL.append {Bk : Addr -> Prop} {H : Hp} : ∀ {ds es : List D} {vs ws : List V}, RepL K Bk H ds vs -> RepL K Bk H es ws -> RepL K Bk H (ds ++ es) (vs ++ ws)
 | [], es, vs, ws, h, h' => by cases h; exact h'
 | d :: ds, es, vs, ws, ⟨v, us, e, h1, h2⟩, h' => by subst e; exact ⟨v, us ++ ws, rfl, h1, RepL.append h2 h'⟩
theorem RepL.take {Bk : Addr -> Prop} {H : Hp} : ∀ {ds : List D} {vs : List V} (n : Nat), RepL K Bk H ds vs -> RepL K Bk H (ds.take n) (vs.take n)
 | ds, vs, 0, h => by simp [RepL]
 | [], vs, n + 1, h => by cases h; rfl
 | d :: ds, vs, n + 1, ⟨v, us, e, h1, h2⟩ => by subst e; exact ⟨v, us.take n, rfl, h1, RepL.take n h2⟩
theorem RepL.drop {Bk : Addr -> Prop} {H : Hp} : ∀ {ds : List D} {vs : List V} (n : Nat), RepL K Bk H ds vs -> RepL K Bk H (ds.drop n) (vs.drop n)
 | ds, vs, 0, h => h
 | [], vs, n + 1, h => by cases h; rfl
 | d :: ds, vs, n + 1, ⟨v, us, e, h1, h2⟩ => by subst e; exact RepL.drop n h2
theorem RepL.set {Bk : Addr -> Prop} {H : Hp} {d : D} {v : V} (r : Rep K Bk H d v) : ∀ {ds : List D} {vs : List V} (n : Nat), RepL K Bk H ds vs -> RepL K Bk H (ds.set n d) (vs.set n v)
 | [], vs, n, h => by cases h; rfl
 | _ :: ds, vs, 0, ⟨_, us, e, h1, h2⟩ => by subst e; exact ⟨v, us, rfl, r, h2⟩
 | d' :: ds, vs, n + 1, ⟨v', us, e, h1, h2⟩ => by subst e; exact ⟨v', us.set n v, rfl, h1, RepL.set r n h2⟩
theorem RepL.snoc {Bk : Addr -> Prop} {H : Hp} {ds : List D} {vs : List V} {d : D} {v : V} (h : RepL K Bk H ds vs) (r : Rep K Bk H d v) : RepL K Bk H (ds ++ [d]) (vs ++ [v]) := h.append ⟨v, [], rfl, r, rfl⟩
theorem RepL.atI {Bk : Addr -> Prop} {H : Hp} {ds : List D} {vs : List V} {i : Int} {d : D} (h : RepL K Bk H ds vs) (q : L2.atI ds i = some d) : ∃ v, L2.atI vs i = some v /\ Rep K Bk H d v := by
 unfold L2.atI at q ⊢;rw [h.len];cases e : ixN ds.length i with
 | none => rw [e] at q; cases q
 | some j =>
  rw [e] at q;exact h.get (i := j) q
theorem RepVs.len {B : Addr -> Prop} {φ : List Addr} {S : aM} {H : Hp} : ∀ {ds : List Vl} {vs : List V}, RepVs K B φ S H ds vs -> vs.length = ds.length
 | [], vs, h => by cases h; rfl
 | d :: ds, vs, ⟨v, ws, e, _, h2⟩ => by subst e; simp [RepVs.len h2]
def wR : List Vl -> Option (List D)
 | [] => some []
 | .dat d :: r => match wR r with
  | some ds => some (d :: ds)
  | none => none
 | _ :: _ => none
theorem vF {B : Addr -> Prop} {φ : List Addr} {S : aM} {H : Hp} : ∀ {xs : List Vl} {vs : List V} {ds : List D}, wR xs = some ds -> RepVs K B φ S H xs vs -> RepL K (jA B φ S) H ds vs
 | [], vs, ds, h, r => by cases h; exact r
 | .dat d :: xs, vs, ds, h, ⟨v, ws, e, h1, h2⟩ => by
  unfold wR at h;cases q : wR xs with
  | none => rw [q] at h; cases h
  | some es => rw [q] at h; cases h; exact ⟨v, ws, e, h1, vF q h2⟩
 | .cel _ :: xs, vs, ds, h, _ => by cases h
 | .cels _ :: xs, vs, ds, h, _ => by cases h
 | .scr _ :: xs, vs, ds, h, _ => by cases h
 | .tc _ :: xs, vs, ds, h, _ => by cases h
def hG (S : aM) : Vl -> Option (List D)
 | .dat (.lst xs) => some xs
 | .cel n => match S[n]? with
  | some (.lst xs) => some xs
  | _ => none
 | _ => none
theorem kQ {B : Addr -> Prop} {φ : List Addr} {S : aM} {H : Hp} {d : Vl} {v : V} {xs : List D} (I : GInv K B φ S H) (h : hG S d = some xs) (r : RepV K B φ S H d v) : ∃ a vs, v = .ref a /\ H a = some (.lst vs) /\ RepL K (jA B φ S) H xs vs := by
 unfold hG at h;split at h
 ·cases h
  obtain ⟨a, vs, e, _, h1, h2⟩ := r;exact ⟨a, vs, e, h1, h2⟩
 ·rename_i n
  obtain ⟨a, e, h1⟩ := r;split at h
  ·rename_i ys q
   cases h;obtain ⟨vs, h2, h3⟩ := I.ok n _ a q h1;exact ⟨a, vs, e, h2, h3⟩
  ·cases h
 ·cases h
end
section
variable {X : Cx} {W : WX} {e a b c : Expr} {es rest : List Expr} {pos p : Pos} {x : Str} {K : aD} {ma mb mc : FE} {mt mu : FT} {mas : FA} {B : Addr -> Prop} {φ : List Addr} {S : aM} {H : Hp} {σ : L2.St} {Q : VK}
def dD (cl : Bool) (x y : Vl) (S : aM) : Res Vl := match x, y with
 | .dat (.int i), .dat (.int j) => .ok (.dat (.int (i + j))) S
 | .dat (.str a), .dat (.str b) => if a.length + b.length <= sizeLine then .ok (.dat (.str (a ++ b))) S else .stuck
 | .dat (.tup xs), .dat (.tup ys) => if xs.length + ys.length <= sizeLine then .ok (.dat (.tup (xs ++ ys))) S else .stuck
 | x, y => match hG S x, hG S y with
  | some xs, some ys => if xs.length + ys.length <= sizeLine then newL cl (xs ++ ys) S else .stuck
  | _, _ => .stuck
theorem dC {cl : Bool} : fZ K (cAdd K) (dD cl) := fun {W σ B φ S H x y d e Q} I r1 r2 f => by
 unfold dD at f;split at f
 ·cases r1; cases r2; exact Fin.now f I rfl
 ·cases r1; cases r2
  split at f
  ·rename_i h; exact ⟨h, Fin.now f I rfl⟩
  ·exact f.elim
 ·rename_i xs ys
  obtain ⟨a, vs, rfl, h1, l1⟩ := r1;obtain ⟨b, ws, rfl, h2, l2⟩ := r2;split at f
  ·rename_i h
   refine Ah ⟨a, b, vs, ws, rfl, rfl, h1, h2, by rw [l1.len, l2.len]; exact h, fun e => ?_, fun e1 e2 => ?_, fun _ _ p hp => Fin.newT f I (l1.append l2) hp⟩
   ·have l := l1.append l2
    rw [e, oY] at l;exact Fin.now f I ⟨b, ws, rfl, h2, l⟩
   ·have l := l1.append l2
    rw [e2, dN] at l;exact Fin.now f I ⟨a, vs, rfl, h1, l⟩
  ·exact f.elim
 ·split at f
  ·rename_i xs ys q1 q2
   obtain ⟨a, vs, rfl, h1, l1⟩ := kQ I q1 r1;obtain ⟨b, ws, rfl, h2, l2⟩ := kQ I q2 r2;split at f
   ·rename_i h
    exact Cm ⟨a, b, vs, ws, rfl, rfl, h1, h2, by rw [l1.len, l2.len]; exact h, fun p hp => Fin.newL f I (l1.append l2) hp⟩
   ·exact f.elim
  ·exact f.elim
def cQ (x y : Vl) (S : aM) : Res Vl := match x, y with
 | .dat (.tup xs), .dat (.int i) => match atI xs i with
  | some d => .ok (.dat d) S
  | none => .stuck
 | .dat (.str z), .dat (.int i) => if z.length <= sizeLine then (match atI z.cps.toList i with
  | some c => .ok (.dat (.str ⟨#[c]⟩)) S
  | none => .stuck) else .stuck
 | .cels ns, .dat (.int i) => match atI ns i with
  | some n => .ok (.cel n) S
  | none => .stuck
 | x, .dat (.int i) => match hG S x with
  | some xs => (match atI xs i with
   | some d => .ok (.dat d) S
   | none => .stuck)
  | none => .stuck
 | _, _ => .stuck
theorem Ea {α β : Type} {f : α -> β} {xs : List α} {i : Int} : atI (xs.map f) i = (atI xs i).map f := by
 unfold atI;rw [bB];cases ixN xs.length i with
 | none => rfl
 | some j => simp
theorem s_ix : fZ K (cIx K) cQ := fun {W σ B φ S H x y d e Q} I r1 r2 f => by
 unfold cQ at f;split at f
 ·cases r2
  obtain ⟨a, vs, rfl, h1, l1⟩ := r1;split at f
  ·rename_i q
   obtain ⟨v, h2, h3⟩ := l1.atI q;exact ⟨vs, v, .inr h1, h2, Fin.now f I h3⟩
  ·exact f.elim
 ·cases r1; cases r2
  split at f
  ·rename_i h
   split at f
   ·rename_i c q
    exact ⟨h, c, q, Fin.now f I rfl⟩
   ·exact f.elim
  ·exact f.elim
 ·rename_i ns i
  cases r2;obtain ⟨a, as, rfl, h1, h2, h3⟩ := r1;split at f
  ·rename_i n q
   have q2 : atI (ns.map fun n => φ[n]?) i = some φ[n]? := by rw [Ea, q]; rfl
   rw [h3, Ea] at q2;cases q3 : atI as i with
   | none => rw [q3] at q2; cases q2
   | some b =>
    rw [q3] at q2;refine ⟨as.map V.ref, .ref b, .inl (SqL.of h2), by rw [Ea, q3]; rfl, Fin.now f I ⟨b, rfl, ?_⟩⟩
    simpa using q2.symm
  ·exact f.elim
 ·cases r2
  split at f
  ·rename_i xs q1
   obtain ⟨a, vs, rfl, h1, l1⟩ := kQ I q1 r1;split at f
   ·rename_i q
    obtain ⟨v, h2, h3⟩ := l1.atI q;exact ⟨vs, v, .inl (SqL.of h1), h2, Fin.now f I h3⟩
   ·exact f.elim
  ·exact f.elim
 ·exact f.elim
theorem cO (ha : PE X a (cY X.K W ma)) (hb : PE X b (cY X.K W mb)) (hs : PlainIx b := by intro _ _; rfl) : PE X (.Subscript a b pos) (cY X.K W (aX cQ ma mb)) := cP (e_ix ha hb hs) fun σ H Q h => B7 s_ix h
mutual
def D.py : D -> Option PyData
 | .non => some .none
 | .bl b => some (.bool b)
 | .int i => some (.int i)
 | .str x => some (.str x)
 | .lst xs => match D.pys xs with
  | some ys => some (.list ys)
  | none => none
 | .tup xs => match D.pys xs with
  | some ys => some (.tuple ys)
  | none => none
 | .ins _ _ _ => none
 | .dct => none
 | .opq _ => none
def D.pys : List D -> Option (List PyData)
 | [] => some []
 | d :: ds => match D.py d, D.pys ds with
  | some x, some xs => some (x :: xs)
  | _, _ => none
end
mutual
theorem Rep.dp {Bk : Addr -> Prop} {H : Hp} : ∀ (d : D) (v : V) (p : PyData), d.py = some p -> Rep K Bk H d v -> Dp K H v p
 | .non, v, p, h, r => by cases h; cases r; exact .non
 | .bl b, v, p, h, r => by cases h; cases r; exact .bl b
 | .int b, v, p, h, r => by cases h; cases r; exact .int b
 | .str b, v, p, h, r => by cases h; cases r; exact .str b
 | .lst xs, v, p, h, ⟨a, vs, e, _, h1, h2⟩ => by
  subst e;unfold D.py at h;cases q : D.pys xs with
  | none => rw [q] at h; cases h
  | some ys => rw [q] at h; cases h; exact .lst (SqL.of h1) (RepL.dp xs vs ys q h2)
 | .tup xs, v, p, h, ⟨a, vs, e, h1, h2⟩ => by
  subst e;unfold D.py at h;cases q : D.pys xs with
  | none => rw [q] at h; cases h
  | some ys => rw [q] at h; cases h; exact .tup h1 (RepL.dp xs vs ys q h2)
 | .ins _ _ _, v, p, h, r => by cases h
 | .dct, v, p, h, r => by cases h
 | .opq _, v, p, h, r => by cases h
theorem RepL.dp {Bk : Addr -> Prop} {H : Hp} : ∀ (ds : List D) (vs : List V) (ps : List PyData), D.pys ds = some ps -> RepL K Bk H ds vs -> DpAll K H vs ps
 | [], vs, ps, h, r => by cases h; cases r; exact .nil
 | d :: ds, vs, ps, h, ⟨v, ws, e, h1, h2⟩ => by
  subst e;unfold D.pys at h;cases q1 : D.py d with
  | none => rw [q1] at h; cases h
  | some x =>
   cases q2 : D.pys ds with
   | none => rw [q1, q2] at h; cases h
   | some xs => rw [q1, q2] at h; cases h; exact .cons (Rep.dp d v x q1 h1) (RepL.dp ds ws xs q2 h2)
end
def Hn (S : aM) : Vl -> Option PyData
 | .dat d => d.py
 | .cel n => match S[n]? with
  | some (.lst xs) => D.py (.lst xs)
  | _ => none
 | _ => none
def Io (S : aM) : List Vl -> Option (List PyData)
 | [] => some []
 | x :: r => match Hn S x, Io S r with
  | some p, some ps => some (p :: ps)
  | _, _ => none
def FB (S : aM) : Vl -> Option PyData
 | .dat d => d.py
 | .cel n => match S[n]? with
  | some (.lst xs) => D.py (.lst xs)
  | some (.lv xs) => (match Io S xs with
   | some ps => some (.list ps)
   | none => none)
  | _ => none
 | _ => none
theorem KM {d : Vl} {v : V} {p : PyData} (I : GInv K B φ S H) (h : Hn S d = some p) (r : RepV K B φ S H d v) : Dp K H v p := by
 unfold Hn at h;split at h
 ·exact Rep.dp _ _ _ h r
 ·rename_i n
  obtain ⟨a, rfl, h1⟩ := r;split at h
  ·rename_i xs q
   obtain ⟨vs, h2, h3⟩ := I.ok n _ a q h1;unfold D.py at h;cases q : D.pys xs with
   | none => rw [q] at h; cases h
   | some ys => rw [q] at h; cases h; exact .lst (SqL.of h2) (RepL.dp xs vs ys q h3)
  ·cases h
 ·cases h
theorem Hm (I : GInv K B φ S H) : ∀ {xs : List Vl} {vs : List V} {ps : List PyData}, Io S xs = some ps -> RepVs K B φ S H xs vs -> DpAll K H vs ps
 | [], vs, ps, h, r => by cases h; cases r; exact .nil
 | x :: xs, vs, ps, h, ⟨v, ws, e, h1, h2⟩ => by
  subst e;unfold Io at h;cases q1 : Hn S x with
  | none => rw [q1] at h; cases h
  | some p =>
   cases q2 : Io S xs with
   | none => rw [q1, q2] at h; cases h
   | some qs => rw [q1, q2] at h; cases h; exact .cons (KM I q1 h1) (Hm I q2 h2)
theorem pF {d : Vl} {v : V} {p : PyData} (I : GInv K B φ S H) (h : FB S d = some p) (r : RepV K B φ S H d v) : Dp K H v p := by
 unfold FB at h;split at h
 ·exact Rep.dp _ _ _ h r
 ·rename_i n
  obtain ⟨a, rfl, h1⟩ := r;split at h
  ·rename_i xs q
   obtain ⟨vs, h2, h3⟩ := I.ok n _ a q h1;unfold D.py at h;cases q : D.pys xs with
   | none => rw [q] at h; cases h
   | some ys => rw [q] at h; cases h; exact .lst (SqL.of h2) (RepL.dp xs vs ys q h3)
  ·rename_i xs q
   obtain ⟨vs, h2, h3⟩ := I.ok n _ a q h1;cases q : Io S xs with
   | none => rw [q] at h; cases h
   | some ys => rw [q] at h; cases h; exact .lst (SqL.of h2) (Hm I q h3)
  ·cases h
 ·cases h
def Md (p q : PyData) : Bool := SeqAt.shaped p && SeqAt.shaped q
def gC (x y : Vl) (S : aM) : Res Vl := match x, y with
 | .dat (.int i), .dat (.int j) => .ok (.dat (.bl (decide (i = j)))) S
 | .dat (.str i), .dat (.str j) => .ok (.dat (.bl (decide (i = j)))) S
 | x, y => match FB S x, FB S y with
  | some p, some q => if Md p q = true then .ok (.dat (.bl (PyData.eqv p q))) S else .stuck
  | _, _ => .stuck
def A0 (x y : Vl) (S : aM) : Res Vl := match x, y with
 | .dat (.int i), .dat (.int j) => .ok (.dat (.bl (!decide (i = j)))) S
 | .dat (.str i), .dat (.str j) => .ok (.dat (.bl (!decide (i = j)))) S
 | x, y => match FB S x, FB S y with
  | some p, some q => if Md p q = true then .ok (.dat (.bl (!PyData.eqv p q))) S else .stuck
  | _, _ => .stuck
theorem OV {x y : V} (h : rEqD K x y H Q) : cEq K x y H Q := by
 unfold cEq;split
 ·obtain ⟨d, e, h1, h2, _, _, q⟩ := h
  cases h1; cases h2;exact q
 ·obtain ⟨d, e, h1, h2, _, _, q⟩ := h
  cases h1; cases h2;exact q
 ·exact h
theorem OU {x y : V} (h : rNeD K x y H Q) : cNe K x y H Q := by
 unfold cNe;split
 ·obtain ⟨d, e, h1, h2, _, _, q⟩ := h
  cases h1; cases h2;exact q
 ·obtain ⟨d, e, h1, h2, _, _, q⟩ := h
  cases h1; cases h2;exact q
 ·exact h
theorem s_eq : fZ K (cEq K) gC := fun {W σ B φ S H x y d e Q} I r1 r2 f => by
 unfold gC at f;split at f
 ·cases r1; cases r2; exact Fin.now f I rfl
 ·cases r1; cases r2; exact Fin.now f I rfl
 ·split at f
  ·rename_i p q h1 h2
   split at f
   ·rename_i h
    obtain ⟨h3, h4⟩ := He.ba h;exact OV ⟨p, q, pF I h1 r1, pF I h2 r2, h3, h4, Fin.now f I rfl⟩
   ·exact f.elim
  ·exact f.elim
theorem xF : fZ K (cNe K) A0 := fun {W σ B φ S H x y d e Q} I r1 r2 f => by
 unfold A0 at f;split at f
 ·cases r1; cases r2; exact Fin.now f I rfl
 ·cases r1; cases r2; exact Fin.now f I rfl
 ·split at f
  ·rename_i p q h1 h2
   split at f
   ·rename_i h
    obtain ⟨h3, h4⟩ := He.ba h;exact OU ⟨p, q, pF I h1 r1, pF I h2 r2, h3, h4, Fin.now f I rfl⟩
   ·exact f.elim
  ·exact f.elim
def Cd (neg : Bool) (x y : Vl) (S : aM) : Res Vl := match FB S x, FB S y with
 | some p, some (.list qs) => if Md p (.list qs) = true then .ok (.dat (.bl (if neg then !(qs.any fun z => PyData.eqv z p) else (qs.any fun z => PyData.eqv z p)))) S else .stuck
 | _, _ => .stuck
theorem KE : fZ K (rInD K) (Cd false) := fun {W σ B φ S H x y d e Q} I r1 r2 f => by
 unfold Cd at f;split at f
 ·rename_i p qs h1 h2
  split at f
  ·rename_i h
   obtain ⟨h3, h4⟩ := He.ba h;exact ⟨p, qs, pF I h1 r1, pF I h2 r2, h3, h4, Fin.now f I rfl⟩
  ·exact f.elim
 ·exact f.elim
theorem Dz : fZ K (rNotInD K) (Cd true) := fun {W σ B φ S H x y d e Q} I r1 r2 f => by
 unfold Cd at f;split at f
 ·rename_i p qs h1 h2
  split at f
  ·rename_i h
   obtain ⟨h3, h4⟩ := He.ba h;exact ⟨p, qs, pF I h1 r1, pF I h2 r2, h3, h4, Fin.now f I rfl⟩
  ·exact f.elim
 ·exact f.elim
def isNon : Vl -> Bool
 | .dat .non => true
 | _ => false
def lH (neg : Bool) (x y : Vl) (S : aM) : Res Vl := match y with
 | .dat .non => .ok (.dat (.bl (if neg then !(isNon x) else isNon x))) S
 | _ => .stuck
theorem FU {d : Vl} {v : V} (r : RepV K B φ S H d v) : decide (v = .non) = isNon d := by
 cases d with
 | dat d =>
  cases d with
  | non => cases r; rfl
  | bl b => cases r; rfl
  | int b => cases r; rfl
  | str b => cases r; rfl
  | lst xs => obtain ⟨a, vs, rfl, _⟩ := r; rfl
  | tup xs => obtain ⟨a, vs, rfl, _⟩ := r; rfl
  | ins C ns xs => obtain ⟨a, dx, vs, rfl, _⟩ := r; rfl
  | dct => obtain ⟨a, rfl, _⟩ := r; rfl
  | opq k => cases k with
   | none => obtain ⟨a, rfl⟩ := r; rfl
   | some k => obtain ⟨a, rfl, _⟩ := r; rfl
 | cel n => obtain ⟨a, rfl, _⟩ := r; rfl
 | cels ns => obtain ⟨a, as, rfl, _⟩ := r; rfl
 | scr ns => obtain ⟨a, rfl, _⟩ := r; rfl
 | tc xs => obtain ⟨a, vs, rfl, _⟩ := r; rfl
theorem Hi : fZ K Ol (lH false) := fun {W σ B φ S H x y d e Q} I r1 r2 f => by
 unfold lH at f;split at f
 ·cases r2
  show Q (.bl (decide (x = .non))) H
  rw [FU r1];exact Fin.now f I rfl
 ·exact f.elim
theorem zD : fZ K KJ (lH true) := fun {W σ B φ S H x y d e Q} I r1 r2 f => by
 unfold lH at f;split at f
 ·cases r2
  show Q (.bl (!decide (x = .non))) H
  rw [FU r1];exact Fin.now f I rfl
 ·exact f.elim
def unB : Vl -> aM -> Res Bool
 | .dat (.bl b), S => .ok b S
 | _, _ => .stuck
def mB (a : FE) : FT := fun ρ S => (a ρ S).bind unB
theorem K8 {Q : Bool -> Hp -> Prop} (h : tN K W (mB ma) σ H Q) : cY K W ma σ H fun x H' => (match x with | .bl k => Q k H' | _ => False) :=
 cA (k := fun x _ S => unB x S) h fun B φ S ρ d v H1 I E r f => by
  unfold unB at f;split at f
  ·cases r; exact Fin.now f I rfl
  ·exact f.elim
theorem aU {op : CmpOp} {r : R2} {f : Vl -> Vl -> aM -> Res Vl} (o : OpR X (compareOp op) r) (s : fZ X.K r f) (ha : PE X a (cY X.K W ma)) (hb : PE X b (cY X.K W mb)) (hm : behindInMarks op b = false := by rfl) : PT X (.Compare a [op] [b] pos) (tN X.K W (mB (aX f ma mb))) :=
 CI (Oc o ha hb hm) fun σ H Q h => B7 s (K8 h)
def B0 (x : Vl) (S : aM) : Res Bool := match x with
 | .dat .non => .ok false S
 | .dat (.bl b) => .ok b S
 | .dat (.int i) => .ok (i != 0) S
 | .dat (.str y) => if y.length <= sizeLine then .ok ((y.length : Int) != 0) S else .stuck
 | .dat (.tup xs) => .ok (!xs.isEmpty) S
 | x => match hG S x with
  | some xs => .ok (!xs.isEmpty) S
  | none => .stuck
theorem RepL.emp {Bk : Addr -> Prop} {ds : List D} {vs : List V} (h : RepL K Bk H ds vs) : (!ds.isEmpty) = !vs.isEmpty := by
 have := h.len;cases ds <;> cases vs <;> simp at this ⊢
theorem Dm {d : Vl} {v : V} {Q : Bool -> Hp -> Prop} (I : GInv K B φ S H) (r : RepV K B φ S H d v) (f : Fin K W σ RB B φ S H (B0 d S) Q) : cT K v H Q := by
 unfold B0 at f;split at f
 ·cases r; exact Fin.now f I rfl
 ·cases r; exact Fin.now f I rfl
 ·cases r; exact Fin.now f I rfl
 ·cases r
  split at f
  ·rename_i h; exact ⟨_, ⟨h, rfl⟩, Fin.now f I rfl⟩
  ·exact f.elim
 ·obtain ⟨a, vs, rfl, h1, l1⟩ := r
  exact ⟨_, .inr (.inl ⟨vs, h1, l1.emp⟩), Fin.now f I rfl⟩
 ·split at f
  ·rename_i xs q1
   obtain ⟨a, vs, rfl, h1, l1⟩ := kQ I q1 r;exact ⟨_, .inl ⟨vs, SqL.of h1, l1.emp⟩, Fin.now f I rfl⟩
  ·exact f.elim
def bY (a : FE) : FT := fun ρ S => (a ρ S).bind B0
theorem bP (ha : PE X a (cY X.K W ma)) (he : ∀ whole, isTrue a X.env whole = (do let v <- whole; standAt a.pos; holding [v] (truthy v)) := by intro _; rfl) : PT X a (tN X.K W (bY ma)) :=
 CI (t_val ha he) fun σ H Q h => cA (k := fun x _ S => B0 x S) h fun B φ S ρ d v H1 I E r f => Dm I r f
def xQ (a b : FT) : FT := fun ρ S => (a ρ S).bind fun c S1 => if c = true then b ρ S1 else .ok false S1
def pK (a b : FT) : FT := fun ρ S => (a ρ S).bind fun c S1 => if c = true then .ok true S1 else b ρ S1
def dY (a : FT) : FT := fun ρ S => (a ρ S).bind fun c S1 => .ok (!c) S1
theorem MM {e : Expr} {t u : TT} (h : PW X e t) (i : ∀ σ H Q, u σ H Q -> t σ H Q) : PW X e u := ⟨fun whole pins s σ H Q I q => h.run whole pins s σ H Q I (i σ H Q q)⟩
theorem Mb {Q : Bool -> Hp -> Prop} (h : tN K W (xQ mt mu) σ H Q) : tAnd (tN K W mt) (tN K W mu) σ H Q :=
 cA (k := fun c ρ S => if c = true then mu ρ S else .ok false S) h fun B φ S ρ d v H1 I E r f => by
  have r : v = d := r;subst r;cases v with
  | true => exact ⟨B, φ, S, ρ, I, E, f⟩
  | false => exact Fin.now f I rfl
theorem Pa {Q : Bool -> Hp -> Prop} (h : tN K W (pK mt mu) σ H Q) : tOr (tN K W mt) (tN K W mu) σ H Q :=
 cA (k := fun c ρ S => if c = true then .ok true S else mu ρ S) h fun B φ S ρ d v H1 I E r f => by
  have r : v = d := r;subst r;cases v with
  | false => exact ⟨B, φ, S, ρ, I, E, f⟩
  | true => exact Fin.now f I rfl
theorem qJ (ha : PT X a (tN X.K W mt)) (hb : PW X (.BoolOp .And (b :: rest) pos) (tN X.K W mu)) : PW X (.BoolOp .And (a :: b :: rest) pos) (tN X.K W (xQ mt mu)) := MM (pw_and ha hb) fun σ H Q h => Mb h
theorem dU (ha : PT X a (tN X.K W mt)) (hb : PW X (.BoolOp .Or (b :: rest) pos) (tN X.K W mu)) : PW X (.BoolOp .Or (a :: b :: rest) pos) (tN X.K W (pK mt mu)) := MM (pw_or ha hb) fun σ H Q h => Pa h
theorem bX (ha : PT X a (tN X.K W mt)) : PT X (.UnaryOp .Not a pos) (tN X.K W (dY mt)) := CI (pt_not ha) fun σ H Q h =>
 cA (k := fun c _ S => .ok (!c) S) h fun B φ S ρ d v H1 I E r f => by cases r; exact Fin.now f I rfl
def iF (a b : FE) : FE := fun ρ S => (a ρ S).bind fun x S1 => match x with
 | .dat (.bl c) => if c = true then b ρ S1 else .ok (.dat (.bl false)) S1
 | _ => .stuck
def Pr (a b : FE) : FE := fun ρ S => (a ρ S).bind fun x S1 => match x with
 | .dat (.bl c) => if c = true then .ok (.dat (.bl true)) S1 else b ρ S1
 | _ => .stuck
def Hs (a : FE) : FE := fun ρ S => (a ρ S).bind fun x S1 => (B0 x S1).bind fun k S2 => .ok (.dat (.bl (!k))) S2
theorem fW (ha : PE X a (cY X.K W ma)) (hb : PE X (.BoolOp .And (b :: rest) pos) (cY X.K W mb)) : PE X (.BoolOp .And (a :: b :: rest) pos) (cY X.K W (iF ma mb)) := cP (e_and ha hb) fun σ H Q h =>
 cA (k := fun x ρ S1 => match x with | .dat (.bl c) => if c = true then mb ρ S1 else .ok (.dat (.bl false)) S1 | _ => .stuck) h fun B φ S ρ d v H1 I E r f => by
  split at f
  ·rename_i c
   cases r;cases c with
   | true => exact ⟨B, φ, S, ρ, I, E, f⟩
   | false => exact Fin.now f I rfl
  ·exact f.elim
theorem fe_or (ha : PE X a (cY X.K W ma)) (hb : PE X (.BoolOp .Or (b :: rest) pos) (cY X.K W mb)) : PE X (.BoolOp .Or (a :: b :: rest) pos) (cY X.K W (Pr ma mb)) := cP (e_or ha hb) fun σ H Q h =>
 cA (k := fun x ρ S1 => match x with | .dat (.bl c) => if c = true then .ok (.dat (.bl true)) S1 else mb ρ S1 | _ => .stuck) h fun B φ S ρ d v H1 I E r f => by
  split at f
  ·rename_i c
   cases r;cases c with
   | false => exact ⟨B, φ, S, ρ, I, E, f⟩
   | true => exact Fin.now f I rfl
  ·exact f.elim
def Pt (a b : FE) : FE := fun ρ S => (a ρ S).bind fun x S1 => (B0 x S1).bind fun k S2 => if k = true then .ok x S2 else b ρ S2
theorem Et {x : Vl} {k : Bool} {S' : aM} (h : B0 x S = .ok k S') : S' = S := by
 unfold B0 at h;split at h
 ·cases h; rfl
 ·cases h; rfl
 ·cases h; rfl
 ·split at h <;> cases h; rfl
 ·cases h; rfl
 ·split at h <;> cases h; rfl
theorem tru_V {d : Vl} {v : V} {k : Bool} (I : GInv K B φ S H) (r : RepV K B φ S H d v) (h : B0 d S = .ok k S) : TruV K v H k := by
 obtain ⟨k', h1, h2⟩ := MB v H (fun b _ => b = k) (Dm (W := Dk) (σ := []) I r (by
  rw [h];exact fun φ' v' H' _ _ r => r))
 rw [<- h2]; exact h1
theorem RF (ha : PE X a (cY X.K W ma)) (hb : PE X (.BoolOp .Or (b :: rest) pos) (cY X.K W mb)) : PE X (.BoolOp .Or (a :: b :: rest) pos) (cY X.K W (Pt ma mb)) := cP (pe_orT ha hb) fun σ H Q h =>
 cA (k := fun x ρ S1 => (B0 x S1).bind fun k S2 => if k = true then .ok x S2 else mb ρ S2) h fun B φ S ρ d v H1 I E r f => by
  cases q : B0 d S with
  | stuck => rw [q] at f; exact f.elim
  | err e S' =>
   exfalso
   unfold B0 at q;split at q <;> first | cases q | (split at q <;> cases q)
  | ok k S' =>
   have e := Et q;subst e;rw [q] at f;refine ⟨k, tru_V I r q, ?_⟩
   cases k with
   | true => exact Fin.now f I r
   | false => exact ⟨B, φ, S', ρ, I, E, f⟩
theorem Lv (ha : PE X a (cY X.K W ma)) : PE X (.UnaryOp .Not a pos) (cY X.K W (Hs ma)) := cP (e_not ha) fun σ H Q h =>
 cA (k := fun x _ S1 => (B0 x S1).bind fun k S2 => Res.ok (Vl.dat (D.bl (!k))) S2) h fun B φ S ρ d v H1 I E r f => by
  cases q : B0 d S with
  | stuck => rw [q] at f; exact f.elim
  | err e S' =>
   exfalso
   unfold B0 at q;split at q <;> first | cases q | (split at q <;> cases q)
  | ok k S' =>
   have e := Et q;subst e;rw [q] at f;refine Dm (W := W) (σ := σ) I r ?_
   rw [q];intro φ' v' H' I' X' r';cases r';exact Fin.now (Fin.ext f X') I' rfl
def jD (f g : Vl -> Vl -> aM -> Res Vl) (a b c : FE) : FE := fun ρ S => (a ρ S).bind fun x S1 => (b ρ S1).bind fun y S2 => (f x y S2).bind fun z S3 => match z with
 | .dat (.bl k) => if k = true then (c ρ S3).bind fun w S4 => g y w S4 else .ok (.dat (.bl false)) S3
 | _ => .stuck
theorem Co {r r' : R2} {f g : Vl -> Vl -> aM -> Res Vl} (s : fZ K r f) (s' : fZ K r' g) (h : cY K W (jD f g ma mb mc) σ H Q) : EZ r r' (cY K W ma) (cY K W mb) (cY K W mc) σ H Q := by
 refine cA (k := fun x ρ S1 => (mb ρ S1).bind fun y S2 => (f x y S2).bind fun z S3 => match z with | .dat (.bl k) => if k = true then (mc ρ S3).bind fun w S4 => g y w S4 else .ok (.dat (.bl false)) S3 | _ => .stuck) h fun B φ S ρ d v H1 I E r1 f' => iJ I E f' fun φ' S' e w H2 I2 X2 E2 r2 f2 => ?_
 have r1' := r1.ext X2 I;refine s (W := W) (σ := σ) I2 r1' r2 ?_
 cases q : f d e S' with
 | stuck => rw [q] at f2; exact f2
 | err x S3 => rw [q] at f2; exact f2
 | ok z S3 =>
  rw [q] at f2;intro φ3 v3 H3 I3 X3 r3;have f3 := Fin.ext f2 X3;dsimp only [Res.bind] at f3;split at f3
  ·rename_i k
   cases r3;cases k with
   | false => exact Fin.now f3 I3 rfl
   | true => exact iJ I3 (E2.ext X3 I2) f3 fun φ4 S4 d4 v4 H4 I4 X4 E4 r4 f4 => s' I4 ((r2.ext X3 I2).ext X4 I3) r4 f4
  ·exact f3.elim
theorem ES {op op' : CmpOp} {r r' : R2} {f g : Vl -> Vl -> aM -> Res Vl} (ho : OpR X (compareOp op) r) (s : fZ X.K r f) (ho' : OpR X (compareOp op') r') (s' : fZ X.K r' g) (ha : PE X a (cY X.K W ma)) (hb : PE X b (cY X.K W mb)) (hc : PE X c (cY X.K W mc))
  (hm : lastMarks [op, op'] [b, c] = false := by with_unfolding_all rfl) : PE X (.Compare a [op, op'] [b, c] pos) (cY X.K W (jD f g ma mb mc)) := cP (OO ho ho' ha hb hc hm) fun σ H Q h => Co s s' h
theorem Bv {op op' : CmpOp} {r r' : R2} {f g : Vl -> Vl -> aM -> Res Vl} (ho : OpR X (compareOp op) r) (s : fZ X.K r f) (ho' : OpR X (compareOp op') r') (s' : fZ X.K r' g) (ha : PE X a (cY X.K W ma)) (hb : PE X b (cY X.K W mb)) (hc : PE X c (cY X.K W mc))
  (hm : lastMarks [op, op'] [b, c] = false := by with_unfolding_all rfl) : PT X (.Compare a [op, op'] [b, c] pos) (tN X.K W (mB (jD f g ma mb mc))) := CI (MW ho ho' ha hb hc hm) fun σ H Q h => Co s s' (K8 h)
def mIf (t : FT) (a b : FE) : FE := fun ρ S => (t ρ S).bind fun c S1 => if c = true then a ρ S1 else b ρ S1
def aI : FA := fun _ S => .ok [] S
def aB (a : FE) (r : FA) : FA := fun ρ S => (a ρ S).bind fun x S1 => (r ρ S1).bind fun xs S2 => .ok (x :: xs) S2
theorem MO {t u : TA} (h : PA X es t) (i : ∀ σ H Q, u σ H Q -> t σ H Q) : PA X es u := ⟨fun pos pins s σ H Q I q => h.run pos pins s σ H Q I (i σ H Q q)⟩
theorem aF : PA X [] (GG X.K W aI) := MO pa_nil fun σ H Q h => by
 obtain ⟨B, φ, S, ρ, I, E, f⟩ := h;exact Fin.now (v := []) f I rfl
theorem aA (ha : PE X a (cY X.K W ma)) (hr : PA X es (GG X.K W mas)) (hs : starEach (a :: es) X.env = (false, eval a X.env) :: starEach es X.env := by rfl) : PA X (a :: es) (GG X.K W (aB ma mas)) := MO (pa_cons ha hr hs) fun σ H Q h =>
 cA (k := fun x ρ S1 => (mas ρ S1).bind fun xs S2 => .ok (x :: xs) S2) h fun B φ S ρ d v H1 I E r f => iJ I E f fun φ' S' ds vs H2 I2 X2 E2 r2 f2 => Fin.now f2 I2 ⟨v, vs, rfl, r.ext X2 I, r2⟩
def bK (cl : Bool) (r : FA) : FE := fun ρ S => (r ρ S).bind fun xs S1 => match wR xs with
 | some ds => if ds.length <= sizeLine then newL cl ds S1 else .stuck
 | none => .stuck
def cE (r : FA) : FE := fun ρ S => (r ρ S).bind fun xs S1 => match wR xs with
 | some ds => if ds.length <= sizeLine then .ok (.dat (.tup ds)) S1 else .stuck
 | none => .stuck
theorem bC {cl : Bool} (h : PA X es (GG X.K W mas)) : PE X (.List es pos) (cY X.K W (bK cl mas)) := cP (pe_lst h) fun σ H Q h =>
 cA (k := fun xs ρ S1 => match wR xs with | some ds => if ds.length <= sizeLine then newL cl ds S1 else .stuck | none => .stuck) h fun B φ S ρ d v H1 I E r f => by
  split at f
  ·rename_i ds q
   have l := vF q r;split at f
   ·rename_i hl
    exact ⟨by rw [l.len]; exact hl, fun p hp => Fin.newL f I l hp⟩
   ·exact f.elim
  ·exact f.elim
theorem bU (h : PA X es (GG X.K W mas)) : PE X (.Tuple es x1 pos) (cY X.K W (cE mas)) := cP (pe_tup h) fun σ H Q h =>
 cA (k := fun xs ρ S1 => match wR xs with | some ds => if ds.length <= sizeLine then Res.ok (Vl.dat (D.tup ds)) S1 else .stuck | none => .stuck) h fun B φ S ρ d v H1 I E r f => by
  split at f
  ·rename_i ds q
   have l := vF q r;split at f
   ·rename_i hl
    exact ⟨by rw [l.len]; exact hl, fun p hp => Fin.newT f I l hp⟩
   ·exact f.elim
  ·exact f.elim
end
section
variable {X : Cx} {W : WX} {e a b c : Expr} {es rest : List Expr} {pos p q p2 : Pos} {x y z : Str} {K : aD} {ma mb mc : FE} {mt mu : FT} {mas : FA} {B : Addr -> Prop} {φ : List Addr} {S : aM} {H : Hp} {σ : L2.St} {Q : VK}
theorem B9 {r : V -> Hp -> VK -> Prop} {f : Vl -> aM -> Res Vl} (s : G8 K r f) (h : cY K W (m1 f ma) σ H Q) : tCB (c1 r) (tCons (cY K W ma) tNil) σ H Q := K9 s h
def cK (x : Vl) (S : aM) : Res Vl := match x with
 | .dat (.tup xs) => .ok (.dat (.int xs.length)) S
 | .dat (.str z) => if z.length <= sizeLine then .ok (.dat (.int z.length)) S else .stuck
 | .cels ns => .ok (.dat (.int ns.length)) S
 | x => match hG S x with
  | some xs => .ok (.dat (.int xs.length)) S
  | none => .stuck
theorem s_len : G8 K (cLen K) cK := fun {W σ B φ S H x d Q} I r f => by
 unfold cK at f;split at f
 ·obtain ⟨a, vs, rfl, h1, l1⟩ := r
  refine ⟨vs, .inr h1, ?_⟩
  rw [l1.len];exact Fin.now f I rfl
 ·cases r
  split at f
  ·rename_i h; exact ⟨h, Fin.now f I rfl⟩
  ·exact f.elim
 ·rename_i ns
  obtain ⟨a, as, rfl, h1, h2, h3⟩ := r;refine ⟨as.map V.ref, .inl (SqL.of h2), ?_⟩
  have e : as.length = ns.length := by
   have := congrArg Jr h3
   simpa using this.symm
  rw [bB, e];exact Fin.now f I rfl
 ·split at f
  ·rename_i xs q1
   obtain ⟨a, vs, rfl, h1, l1⟩ := kQ I q1 r;refine ⟨vs, .inl (SqL.of h1), ?_⟩
   rw [l1.len];exact Fin.now f I rfl
  ·exact f.elim
theorem cS (hm : X.mg "len" = none) (ha : PE X a (cY X.K W ma)) (hg : Gl X "len" := by rfl) (hs : starEach [a] X.env = [(false, eval a X.env)] := by rfl) : PE X (.Call (.Name "len" p) [a] [] pos) (cY X.K W (m1 cK ma)) := cP (e_len hm ha hg hs) fun σ H Q h => B9 s_len h
def Ae (x : Vl) (S : aM) : Res Vl := match x with
 | .dat (.int i) => .ok (.dat (.int i)) S
 | .dat (.bl k) => .ok (.dat (.int (if k then 1 else 0))) S
 | _ => .stuck
theorem s_int : G8 K cInt Ae := fun {W σ B φ S H x d Q} I r f => by
 unfold Ae at f;split at f
 ·cases r; exact Fin.now f I rfl
 ·cases r; exact Fin.now f I rfl
 ·exact f.elim
theorem zZ (hm : X.mg "int" = none) (ha : PE X a (cY X.K W ma)) (hg : Gl X "int" := by rfl) (hs : starEach [a] X.env = [(false, eval a X.env)] := by rfl) : PE X (.Call (.Name "int" p) [a] [] pos) (cY X.K W (m1 Ae ma)) := cP (e_int hm ha hg hs) fun σ H Q h => B9 s_int h
def yP : List D -> Option (List Bool)
 | [] => some []
 | .bl b :: r => match yP r with
  | some bs => some (b :: bs)
  | none => none
 | _ :: _ => none
theorem G6 {Bk : Addr -> Prop} : ∀ {ds : List D} {bs : List Bool} {vs : List V}, yP ds = some bs -> RepL K Bk H ds vs -> vs = bs.map V.bl
 | [], bs, vs, h, r => by cases h; exact r
 | d :: ds, bs, vs, h, ⟨v, ws, e, h1, h2⟩ => by
  subst e;cases d with
  | bl b =>
   unfold yP at h;cases q : yP ds with
   | none => rw [q] at h; cases h
   | some es => rw [q] at h; cases h; cases h1; rw [G6 q h2]; rfl
  | _ => cases h
def CD : List D -> Option (List Int)
 | [] => some []
 | .int b :: r => match CD r with
  | some bs => some (b :: bs)
  | none => none
 | _ :: _ => none
theorem Da {Bk : Addr -> Prop} : ∀ {ds : List D} {bs : List Int} {vs : List V}, CD ds = some bs -> RepL K Bk H ds vs -> vs = bs.map V.int
 | [], bs, vs, h, r => by cases h; exact r
 | d :: ds, bs, vs, h, ⟨v, ws, e, h1, h2⟩ => by
  subst e;cases d with
  | int b =>
   unfold CD at h;cases q : CD ds with
   | none => rw [q] at h; cases h
   | some es => rw [q] at h; cases h; cases h1; rw [Da q h2]; rfl
  | _ => cases h
def wJ (x : Vl) (S : aM) : Res Vl := match hG S x with
 | some xs => (match yP xs with
  | some bs => .ok (.dat (.bl (bs.all id))) S
  | none => .stuck)
 | none => .stuck
theorem s_all : G8 K (cAll K) wJ := fun {W σ B φ S H x d Q} I r f => by
 unfold wJ at f;split at f
 ·rename_i xs q1
  obtain ⟨a, vs, rfl, h1, l1⟩ := kQ I q1 r;split at f
  ·rename_i bs q2
   rw [G6 q2 l1] at h1;exact ⟨bs, SqL.of h1, Fin.now f I rfl⟩
  ·exact f.elim
 ·exact f.elim
theorem Fp (hm : X.mg "all" = none) (ha : PE X a (cY X.K W ma)) (hc : X.calm = true := by rfl) (hg : Gl X "all" := by rfl) (hs : starEach [a] X.env = [(false, eval a X.env)] := by rfl) : PE X (.Call (.Name "all" p) [a] [] pos) (cY X.K W (m1 wJ ma)) := cP (e_all hm ha hc hg hs) fun σ H Q h => B9 s_all h
def oU (cl : Bool) (x : Vl) (S : aM) : Res Vl := match x with
 | .dat (.tup xs) => newL cl xs S
 | x => match hG S x with
  | some xs => newL cl xs S
  | none => .stuck
theorem Pc {cl : Bool} : G8 K (PD K) (oU cl) := fun {W σ B φ S H x d Q} I r f => by
 unfold oU at f;split at f
 ·obtain ⟨a, vs, rfl, h1, l1⟩ := r
  exact ⟨vs, .inr h1, fun l hl => Fin.newL f I l1 hl⟩
 ·split at f
  ·rename_i xs q1
   obtain ⟨a, vs, rfl, h1, l1⟩ := kQ I q1 r;exact ⟨vs, .inl (SqL.of h1), fun l hl => Fin.newL f I l1 hl⟩
  ·exact f.elim
theorem HI {cl : Bool} (hm : X.mg "list" = none) (ha : PE X a (cY X.K W ma)) (hg : Gl X "list" := by rfl) (hs : starEach [a] X.env = [(false, eval a X.env)] := by rfl) : PE X (.Call (.Name "list" p) [a] [] pos) (cY X.K W (m1 (oU cl) ma)) := cP (RL hm ha hg hs) fun σ H Q h => B9 Pc h
def fTuple (x : Vl) (S : aM) : Res Vl := match hG S x with
 | some xs => .ok (.dat (.tup xs)) S
 | none => .stuck
theorem Mh : G8 K (MA K) fTuple := fun {W σ B φ S H x d Q} I r f => by
 unfold fTuple at f;split at f
 ·rename_i xs q1
  obtain ⟨a, vs, rfl, h1, l1⟩ := kQ I q1 r;exact ⟨vs, SqL.of h1, fun l hl => Fin.newT f I l1 hl⟩
 ·exact f.elim
theorem uX (hm : X.mg "tuple" = none) (ha : PE X a (cY X.K W ma)) (hg : Gl X "tuple" := by rfl) (hs : starEach [a] X.env = [(false, eval a X.env)] := by rfl) : PE X (.Call (.Name "tuple" p) [a] [] pos) (cY X.K W (m1 fTuple ma)) := cP (ON hm ha hg hs) fun σ H Q h => B9 Mh h
def fAbs (x : Vl) (S : aM) : Res Vl := match x with
 | .dat (.int i) => .ok (.dat (.int (if i < 0 then -i else i))) S
 | _ => .stuck
theorem FN {a : Addr} {xs : List V} (h : SqT K H a xs) : CJ K H a "tuple" := by
 refine ⟨by decide, ?_⟩
 rcases h with (h | ⟨o, h⟩) | ⟨o, its, n, h, hc, _⟩
 ·exact .base (.tup h)
 ·exact .fTuple h
 ·exact .kTuple h hc
theorem tW {a : Addr} {xs : List V} (h : SqL K H a xs) : CJ K H a "list" := by
 refine ⟨by decide, ?_⟩
 rcases h with (h | ⟨o, h⟩) | ⟨o, its, n, h, hc, _⟩
 ·exact .base (.lst h)
 ·exact .base (.frz h)
 ·exact .kList h hc
def kindOf (S : aM) : Vl -> Option String
 | .dat .non => some "NoneType"
 | .dat (.bl _) => some "bool"
 | .dat (.int _) => some "int"
 | .dat (.str _) => some "str"
 | .dat (.lst _) => some "list"
 | .dat (.tup _) => some "tuple"
 | .dat .dct => some "dict"
 | .dat (.opq _) => none
 | .dat (.ins _ _ _) => none
 | .cels _ => some "list"
 | .scr _ => some "list"
 | .tc _ => some "tuple"
 | .cel n => match S[n]? with
  | some (.lst _) => some "list"
  | some (.dct _) => some "dict"
  | some (.lv _) => some "list"
  | _ => none
def fIsi (T : String) (x : Vl) (S : aM) : Res Vl := match kindOf S x with
 | some n => .ok (.dat (.bl (isTy T n))) S
 | none => .stuck
theorem zS {d : Vl} {v : V} {n : String} (I : GInv K B φ S H) (r : RepV K B φ S H d v) (h : kindOf S d = some n) : (v = .non /\ n = "NoneType") \/ (∃ b, v = .bl b /\ n = "bool") \/ (∃ b, v = .int b /\ n = "int") \/ (∃ b, v = .str b /\ n = "str") \/ ∃ a, v = .ref a /\ CJ K H a n := by
 cases d with
 | dat d =>
  cases d with
  | non => cases h; cases r; exact .inl ⟨rfl, rfl⟩
  | bl b => cases h; cases r; exact .inr (.inl ⟨b, rfl, rfl⟩)
  | int b => cases h; cases r; exact .inr (.inr (.inl ⟨b, rfl, rfl⟩))
  | str b => cases h; cases r; exact .inr (.inr (.inr (.inl ⟨b, rfl, rfl⟩)))
  | lst xs => cases h; obtain ⟨a, vs, rfl, _, h1, _⟩ := r; exact .inr (.inr (.inr (.inr ⟨a, rfl, tW (SqL.of h1)⟩)))
  | tup xs => cases h; obtain ⟨a, vs, rfl, h1, _⟩ := r; exact .inr (.inr (.inr (.inr ⟨a, rfl, FN h1⟩)))
  | ins C ns xs => cases h
  | opq _ => cases h
  | dct => cases h; obtain ⟨a, rfl, _, h1⟩ := r; exact .inr (.inr (.inr (.inr ⟨a, rfl, by decide, .base (.dK h1)⟩)))
 | cels ns => cases h; obtain ⟨a, as, rfl, _, h1, _⟩ := r; exact .inr (.inr (.inr (.inr ⟨a, rfl, tW (SqL.of h1)⟩)))
 | scr ns => cases h; obtain ⟨a, rfl, h1⟩ := r; exact .inr (.inr (.inr (.inr ⟨a, rfl, tW h1.sq⟩)))
 | tc xs => cases h; obtain ⟨a, vs, rfl, h1, _⟩ := r; exact .inr (.inr (.inr (.inr ⟨a, rfl, FN h1⟩)))
 | cel n =>
  obtain ⟨a, rfl, h1⟩ := r;have h : (match S[n]? with | some (.lst _) => some "list" | some (.dct _) => some "dict" | some (.lv _) => some "list" | _ => none) = some _ := h
  split at h
  ·rename_i q
   cases h;obtain ⟨vs, h2, _⟩ := I.ok n _ a q h1;exact .inr (.inr (.inr (.inr ⟨a, rfl, tW (SqL.of h2)⟩)))
  ·rename_i q
   cases h;obtain ⟨vs, h2, _⟩ := I.ok n _ a q h1;exact .inr (.inr (.inr (.inr ⟨a, rfl, by decide, .base (.dK h2)⟩)))
  ·rename_i q
   cases h;obtain ⟨vs, h2, _⟩ := I.ok n _ a q h1;exact .inr (.inr (.inr (.inr ⟨a, rfl, tW (SqL.of h2)⟩)))
  ·cases h
theorem s_isi {T : String} (hT : T ∈ targets) : G8 K (MD K T) (fIsi T) := fun {W σ B φ S H x d Q} I r f => by
 unfold fIsi at f;have h6 : T = "int" \/ T = "bool" \/ T = "str" \/ T = "list" \/ T = "tuple" \/ T = "dict" := by simpa [targets] using hT
 split at f
 ·rename_i n h
  have q : ∀ b, b = isTy T n -> Q (.bl b) H := fun b e => by rw [e]; exact Fin.now f I rfl
  rcases zS I r h with ⟨rfl, rfl⟩ | ⟨b, rfl, rfl⟩ | ⟨b, rfl, rfl⟩ | ⟨b, rfl, rfl⟩ | ⟨a, rfl, hk⟩
  ·exact q false (by rcases h6 with e | e | e | e | e | e <;> subst e <;> decide)
  ·exact q _ (by rcases h6 with e | e | e | e | e | e <;> subst e <;> decide)
  ·exact q _ (by rcases h6 with e | e | e | e | e | e <;> subst e <;> decide)
  ·exact q _ (by rcases h6 with e | e | e | e | e | e <;> subst e <;> decide)
  ·have h3 : n = "list" \/ n = "tuple" \/ n = "dict" := by simpa using hk.1
   exact ⟨n, hk, q _ (by rcases h6 with e | e | e | e | e | e <;> rcases h3 with e' | e' | e' <;> subst e <;> subst e' <;> decide)⟩
 ·exact f.elim
theorem cW {T : String} (hm : X.mg "isinstance" = none) (hmT : X.mg y = none) (ha : PE X a (cY X.K W ma)) (hT : T ∈ targets := by decide) (hv : bootBuiltins y = some (.type T) := by decide +kernel)
  (hg : Gl X "isinstance" := by rfl) (hgT : Gl X y := by rfl) (hn : y ≠ "__name__" := by decide) (hd : (y == ("__debug__" : Str)) = false := by decide) (hs : starEach [a, .Name y q] X.env = (false, eval a X.env) :: starEach [.Name y q] X.env := by rfl) :
  PE X (.Call (.Name "isinstance" p) [a, .Name y q] [] pos) (cY X.K W (m1 (fIsi T) ma)) := cP (e_isi hm hmT ha hT hv hg hgT hn hd hs) fun σ H Q h => K9 (s_isi hT) h
def fIsi2 (T U : String) (x : Vl) (S : aM) : Res Vl := match kindOf S x with
 | some n => .ok (.dat (.bl (isTy T n || isTy U n))) S
 | none => .stuck
theorem Pd {T U : String} (hT : T ∈ targets) (hU : U ∈ targets) {x : V} {d : Vl} (I : GInv K B φ S H) (r : RepV K B φ S H d x) (f : Fin K W σ (RepV K) B φ S H (fIsi2 T U d S) Q) {tp : Addr} {H' : Hp} (ntp : H tp = none) (hH : H' = upd H tp (.tup [.ty T, .ty U])) : PF K T U x H' fun b => Q (.bl b) H' := by
 unfold fIsi2 at f;split at f
 ·rename_i n h
  have X1 := Ext.new (o := .tup [.ty T, .ty U]) I ntp;have I1 := I.new (o := .tup [.ty T, .ty U]) ntp;have hq : Q (.bl (isTy T n || isTy U n)) H' := by subst hH; exact f φ _ _ I1 X1 rfl
  have r' : RepV K B φ S H' d x := by subst hH; exact r.ext X1 I
  rcases zS I r h with ⟨rfl, rfl⟩ | ⟨b, rfl, rfl⟩ | ⟨b, rfl, rfl⟩ | ⟨b, rfl, rfl⟩ | ⟨a, rfl, hk⟩
  ·have : ∀ T ∈ targets, isTy T "NoneType" = false := by decide
   rw [this T hT, this U hU] at hq;exact hq
  ·exact hq
  ·exact hq
  ·exact hq
  ·have I1' : GInv K B φ S H' := by subst hH; exact I1
   rcases zS I1' r' h with ⟨z, _⟩ | ⟨b, z, _⟩ | ⟨b, z, _⟩ | ⟨b, z, _⟩ | ⟨a', z, hk'⟩ <;> cases z
   exact ⟨n, hk', hq⟩
 ·exact f.elim
theorem M0 {q1 q2 tpos : Pos} {j : Nat} {T U : String} (hm : X.mg "isinstance" = none) (hmT : X.mg y = none) (hmU : X.mg z = none) (ha : PE X a (cY X.K W ma)) (hT : T ∈ targets := by decide) (hU : U ∈ targets := by decide)
  (hv : bootBuiltins y = some (.type T) := by decide +kernel) (hw : bootBuiltins z = some (.type U) := by decide +kernel) (hg : Gl X "isinstance" := by rfl) (hgT : Gl X y := by rfl) (hgU : Gl X z := by rfl) (hn : y ≠ "__name__" := by decide) (hd : (y == ("__debug__" : Str)) = false := by decide) (hn2 : z ≠ "__name__" := by decide) (hd2 : (z == ("__debug__" : Str)) = false := by decide)
  (hs : starEach [a, .Tuple [.Name y q1, .Name z q2] j tpos] X.env = (false, eval a X.env) :: starEach [.Tuple [.Name y q1, .Name z q2] j tpos] X.env := by rfl) :
  PE X (.Call (.Name "isinstance" p) [a, .Tuple [.Name y q1, .Name z q2] j tpos] [] pos) (cY X.K W (m1 (fIsi2 T U) ma)) :=
 cP (RM hm hmT hmU ha hT hU hv hw hg hgT hgU hn hd hn2 hd2 hs) fun σ H Q h => cA (k := fun x _ S => fIsi2 T U x S) h fun B φ S ρ d v H1 I E r f => by
  show _ /\ _
  exact ⟨(by show 2 <= sizeLine; decide), fun tp htp => ⟨upd_same, Pd hT hU I r f htp rfl⟩⟩
def cutD (xs : List D) (lo hi : Option Int) : List D := (xs.drop (HT.sIx xs.length 0 lo)).take (HT.sIx xs.length xs.length hi - HT.sIx xs.length 0 lo)
theorem RepL.cut {Bk : Addr -> Prop} {ds : List D} {vs : List V} {lo hi : Option Int} (h : RepL K Bk H ds vs) : RepL K Bk H (cutD ds lo hi) (cutV vs lo hi) := by
 unfold cutD cutV;rw [h.len];exact (h.drop _).take _
def IH (cl : Bool) (x : Vl) (lo hi : Option Int) (S : aM) : Res Vl := match x with
 | .dat (.tup xs) => .ok (.dat (.tup (cutD xs lo hi))) S
 | .dat (.str z) => if z.length <= sizeLine then .ok (.dat (.str (cutS z lo hi))) S else .stuck
 | .scr ns => newL cl (cutD (ns.map D.int) lo hi) S
 | x => match hG S x with
  | some xs => newL cl (cutD xs lo hi) S
  | none => .stuck
def Bm : FO := fun _ S => .ok none S
def tV (a : FE) : FO := fun ρ S => (a ρ S).bind fun x S1 => match x with
 | .dat (.int i) => .ok (some i) S1
 | _ => .stuck
theorem MN {e : Option Expr} {t u : TO} (h : PO X e t) (i : ∀ σ H Q, u σ H Q -> t σ H Q) : PO X e u := ⟨fun pins s σ H Q I q => h.run pins s σ H Q I (i σ H Q q)⟩
theorem nW : PO X none (rdO X.K W Bm) := MN po_none fun σ H Q h => by
 obtain ⟨B, φ, S, ρ, I, E, f⟩ := h;exact Fin.now (v := none) f I rfl
theorem nV (ha : PE X a (cY X.K W ma)) : PO X (some a) (rdO X.K W (tV ma)) := MN (KN ha) fun σ H Q h =>
 cA (k := fun x _ S1 => match x with | .dat (.int i) => .ok (some i) S1 | _ => .stuck) h fun B φ S ρ d v H1 I E r f => by
  split at f
  ·cases r; exact Fin.now f I rfl
  ·exact f.elim
theorem zM {Bk : Addr -> Prop} : ∀ ns : List Int, RepL K Bk H (ns.map D.int) (ns.map V.int)
 | [] => rfl
 | n :: ns => ⟨_, _, rfl, rfl, zM ns⟩
theorem Jf {xs : List D} {lo hi : Option Int} (h : HT.sIx xs.length 0 lo = 0 /\ HT.sIx xs.length xs.length hi = xs.length) : cutD xs lo hi = xs := by
 unfold cutD;rw [h.1, h.2];simp
def Ka (cl : Bool) (a : FE) (l h : FO) : FE := fun ρ S => (a ρ S).bind fun x S1 => (l ρ S1).bind fun lo S2 => (h ρ S2).bind fun hi S3 => IH cl x lo hi S3
theorem EO {cl : Bool} {lo hi : Option Expr} {ml mh : FO} (ha : PE X a (cY X.K W ma)) (hl : PO X lo (rdO X.K W ml)) (hh : PO X hi (rdO X.K W mh)) : PE X (.Subscript a (.Slice lo hi none p2) pos) (cY X.K W (Ka cl ma ml mh)) := cP (pe_slice sl_C ha hl hh) fun σ H Q h =>
 cA (k := fun x ρ S1 => (ml ρ S1).bind fun lo S2 => (mh ρ S2).bind fun hi S3 => IH cl x lo hi S3) h fun B φ S ρ d v H1 I E r f => iJ I E f fun φ1 S1 d1 v1 H2 I1 X1 E1 r1 f1 => iJ I1 E1 f1 fun φ2 S2 d2 v2 H3 I2 X2 E2 r2 f2 => by
  cases r1;cases r2
  replace r := (r.ext X1 I).ext X2 I1
  unfold IH at f2;split at f2
  ·rename_i xs
   obtain ⟨a, vs, rfl, h1, l1⟩ := r;refine Ah ⟨vs, h1, fun hw => ?_, fun hw p hp => Fin.newT f2 I2 l1.cut hp⟩
   rw [l1.len] at hw;have e := Jf (xs := xs) hw;rw [e] at f2;exact Fin.now f2 I2 ⟨a, vs, rfl, h1, l1⟩
  ·cases r
   split at f2
   ·rename_i hz; exact ⟨hz, Fin.now f2 I2 rfl⟩
   ·exact f2.elim
  ·obtain ⟨a, rfl, h1⟩ := r
   exact Cm ⟨_, h1.sq, fun p hp => Fin.newL f2 I2 (zM _).cut hp⟩
  ·split at f2
   ·rename_i xs q1
    obtain ⟨a, vs, rfl, h1, l1⟩ := kQ I2 q1 r;exact Cm ⟨vs, SqL.of h1, fun p hp => Fin.newL f2 I2 l1.cut hp⟩
   ·exact f2.elim
def Ca (a : FE) : FE := fun ρ S => (a ρ S).bind fun x S1 => match x with
 | .cel n => (match S1[n]? with
  | some (.lst ds) => .ok (.dat (.lst ds)) (S1.set n .dead)
  | _ => .stuck)
 | _ => .stuck
theorem AO (ha : PE X a (cY X.K W ma)) : PE X a (cY X.K W (Ca ma)) := cP ha fun σ H Q h =>
 cA (k := fun x _ S1 => match x with | .cel n => (match S1[n]? with | some (Cell.lst ds) => Res.ok (Vl.dat (D.lst ds)) (S1.set n Cell.dead) | _ => Res.stuck) | _ => Res.stuck) h fun B φ S ρ d v H1 I E r f => by
  split at f
  ·rename_i n
   obtain ⟨a, rfl, h1⟩ := r;split at f
   ·rename_i ds q
    obtain ⟨vs, h2, l⟩ := I.ok n _ a q h1;have X1 := Ext.kill (φ := φ) (S := S) (H := H1) (n := n);exact f φ _ H1 I.kill X1 ⟨a, vs, rfl, I.killed q (by simp) h1, h2, X1.repL I l⟩
   ·exact f.elim
  ·exact f.elim
def mStar (a : FE) (r : FA) : FA := fun ρ S => (a ρ S).bind fun x S1 => match (match x with | .dat (.tup xs) => some xs | x => hG S1 x) with
 | some xs => (r ρ S1).bind fun ys S2 => .ok (xs.map Vl.dat ++ ys) S2
 | none => .stuck
end
inductive Out where
 | next (ρ : Ev) (S : aM) | ret (d : Vl) (S : aM) | brk (ρ : Ev) (S : aM) | cnt (ρ : Ev) (S : aM) | err (e : Er) (ρ : Ev) (S : aM) | stuck
abbrev FS := Ev -> aM -> Out
def Res.toS {α : Type} (r : Res α) (ρ : Ev) (k : α -> aM -> Out) : Out := match r with
 | .ok a S => k a S
 | .err e S => .err e ρ S
 | .stuck => .stuck
def FinS (K : aD) (W : WX) (D : Ends) (B : Addr -> Prop) (φ : List Addr) (S : aM) (H : Hp) (o : Out) : Prop := match o with
 | .next ρ' S' => ∀ φ' σ' H', GInv K B φ' S' H' -> Ext φ S H φ' S' H' -> RepE K B φ' S' H' ρ' σ' -> D.nx σ' H'
 | .ret d S' => ∀ φ' v H', GInv K B φ' S' H' -> Ext φ S H φ' S' H' -> RepV K B φ' S' H' d v -> D.rt v H'
 | .brk ρ' S' => ∀ φ' σ' H', GInv K B φ' S' H' -> Ext φ S H φ' S' H' -> RepE K B φ' S' H' ρ' σ' -> D.bk σ' H'
 | .cnt ρ' S' => ∀ φ' σ' H', GInv K B φ' S' H' -> Ext φ S H φ' S' H' -> RepE K B φ' S' H' ρ' σ' -> D.ct σ' H'
 | .err e ρ' S' => ∀ φ' σ' c x H', GInv K B φ' S' H' -> Ext φ S H φ' S' H' -> RepE K B φ' S' H' ρ' σ' -> Jm K B φ' S' H' e c x -> W c x σ' H'
 | .stuck => False
def hW (K : aD) (W : WX) (m : FS) : TS := fun D σ H => ∃ B φ S ρ, GInv K B φ S H /\ RepE K B φ S H ρ σ /\ FinS K W D B φ S H (m ρ S)
section
variable {X : Cx} {W : WX} {e a b c : Expr} {es rest : List Expr} {pos p q p2 : Pos} {x y z : Str} {K : aD} {ma mb mc : FE} {mt mu : FT} {mas : FA} {B : Addr -> Prop} {φ φ' : List Addr} {S S' : aM} {H H' : Hp} {σ : L2.St} {Q : VK} {m n : FS} {st : Stmt} {sts : List Stmt} {D : Ends}
theorem fE {t u : TS} (h : PS X st t) (i : ∀ D σ H, u D σ H -> t D σ H) : PS X st u := ⟨fun pins s σ H D I q => h.run pins s σ H D I (i D σ H q)⟩
theorem yS {t u : TS} (h : PSs X sts t) (i : ∀ D σ H, u D σ H -> t D σ H) : PSs X sts u := ⟨fun pins s σ H D I q => h.run pins s σ H D I (i D σ H q)⟩
theorem FinS.ext {o : Out} (f : FinS K W D B φ S H o) (e : Ext φ S H φ' S' H') : FinS K W D B φ' S' H' o := by
 cases o with
 | next ρ S1 => exact fun φ1 v H1 I1 X r => f φ1 v H1 I1 (e.trans X) r
 | ret d S1 => exact fun φ1 v H1 I1 X r => f φ1 v H1 I1 (e.trans X) r
 | brk ρ S1 => exact fun φ1 v H1 I1 X r => f φ1 v H1 I1 (e.trans X) r
 | cnt ρ S1 => exact fun φ1 v H1 I1 X r => f φ1 v H1 I1 (e.trans X) r
 | err x ρ S1 => exact fun φ1 σ1 c x H1 I1 X r => f φ1 σ1 c x H1 I1 (e.trans X) r
 | stuck => exact f
theorem cN {α β : Type} {R : Rl α β} {ρ : Ev} {m : Ev -> aM -> Res α} {k : α -> aM -> Out} {Q1 : β -> Hp -> Prop} (I : GInv K B φ S H) (E : RepE K B φ S H ρ σ) (f : FinS K W D B φ S H ((m ρ S).toS ρ k))
  (hk : ∀ φ' S' d v H1, GInv K B φ' S' H1 -> Ext φ S H φ' S' H1 -> RepE K B φ' S' H1 ρ σ -> R B φ' S' H1 d v -> FinS K W D B φ' S' H1 (k d S') -> Q1 v H1) : rd K W R m σ H Q1 := by
 refine ⟨B, φ, S, ρ, I, E, ?_⟩
 cases e : m ρ S with
 | stuck => rw [e] at f; exact f
 | err x S' =>
  rw [e] at f;exact fun φ' c d H' I' X r => f φ' σ c d H' I' X (E.ext X I) r
 | ok d S' =>
  rw [e] at f;exact fun φ' v H' I' X r => hk φ' S' d v H' I' X (E.ext X I) r (FinS.ext f X)
def aK (m n : FS) : FS := fun ρ S => match m ρ S with
 | .next ρ' S' => n ρ' S'
 | o => o
def aZ : FS := fun ρ S => .next ρ S
def bI (a : FE) : FS := fun ρ S => (a ρ S).toS ρ fun d S1 => .ret d S1
def eV (a : FE) : FS := fun ρ S => (a ρ S).toS ρ fun _ S1 => .next ρ S1
def bJ (t : FT) (m n : FS) : FS := fun ρ S => (t ρ S).toS ρ fun c S1 => if c = true then m ρ S1 else n ρ S1
theorem MY (h : hW K W (aK m n) D σ H) : tSeq (hW K W m) (hW K W n) D σ H := by
 obtain ⟨B, φ, S, ρ, I, E, f⟩ := h;refine ⟨B, φ, S, ρ, I, E, ?_⟩
 unfold aK at f;cases e : m ρ S with
 | next ρ' S' =>
  rw [e] at f;exact fun φ' σ' H' I' X r => ⟨B, φ', S', ρ', I', r, FinS.ext f X⟩
 | ret d S' => rw [e] at f; exact f
 | brk d S' => rw [e] at f; exact f
 | cnt d S' => rw [e] at f; exact f
 | err x d S' => rw [e] at f; exact f
 | stuck => rw [e] at f; exact f
theorem aL : PSs X [] (hW X.K W aZ) := yS pss_nil fun D σ H h => by
 obtain ⟨B, φ, S, ρ, I, E, f⟩ := h;exact f φ σ H I Ext.refl E
theorem aH (h : PS X st (hW X.K W m)) : PSs X [st] (hW X.K W m) := pss_one h
theorem aE (h : PS X st (hW X.K W m)) (hr : PSs X sts (hW X.K W n)) : PSs X (st :: sts) (hW X.K W (aK m n)) := yS (pss_cons h hr) fun D σ H h => MY h
theorem jM : PS X st (hW X.K W fun _ _ => .stuck) := fE ps_never fun D σ H h => by
 obtain ⟨B, φ, S, ρ, I, E, f⟩ := h;exact f
theorem aP (ha : PE X a (cY X.K W ma)) : PS X (.Return (some a) pos) (hW X.K W (bI ma)) := fE (ps_ret ha) fun D σ H h => by
 obtain ⟨B, φ, S, ρ, I, E, f⟩ := h;exact cN I E f fun φ' S' d v H1 I1 X1 E1 r f1 => f1 φ' v H1 I1 Ext.refl r
theorem iW (ha : PE X a (cY X.K W ma)) (hs : swapsWith a none pos.line X.env = pure false := by rfl) : PS X (.Expr a pos) (hW X.K W (eV ma)) := fE (ps_expr ha hs) fun D σ H h => by
 obtain ⟨B, φ, S, ρ, I, E, f⟩ := h;exact cN I E f fun φ' S' d v H1 I1 X1 E1 r f1 => f1 φ' σ H1 I1 Ext.refl E1
theorem bD {s1 s2 : List Stmt} (ht : PT X c (tN X.K W mt)) (ha : PSs X s1 (hW X.K W m)) (hb : PSs X s2 (hW X.K W n)) : PS X (.If c s1 s2 pos) (hW X.K W (bJ mt m n)) := fE (ps_if ht ha hb) fun D σ H h => by
 obtain ⟨B, φ, S, ρ, I, E, f⟩ := h;refine cN I E f fun φ' S' d v H1 I1 X1 E1 r f1 => ?_
 have r : v = d := r;subst r;cases v with
 | true => exact ⟨B, φ', S', ρ, I1, E1, f1⟩
 | false => exact ⟨B, φ', S', ρ, I1, E1, f1⟩
inductive Tg where
 | nm (i : Nat) | tp (is : List Nat) | tn (i : Nat) (is : List Nat)
def EN : List Nat -> TGs
 | [] => gNil
 | i :: r => gCons (gName i) (EN r)
def HY (K : aD) : Tg -> TG
 | .nm i => gName i
 | .tp is => gTup K is.length (EN is)
 | .tn i is => gTup K 2 (gCons (gName i) (gCons (gTup K is.length (EN is)) gNil))
def putAll : List Nat -> List L2.V -> L2.St -> L2.St
 | i :: r, v :: vs, σ => putAll r vs (σ.set i (some v))
 | _, _, σ => σ
def pG : List Nat -> List PH.D -> Ev -> Ev
 | i :: r, v :: vs, σ => pG r vs (σ.set i (some (.dat v)))
 | _, _, σ => σ
def sJ : Tg -> Vl -> Ev -> Option Ev
 | .nm i, d, ρ => some (ρ.set i (some d))
 | .tp is, .dat (.tup ds), ρ => if ds.length = is.length then some (pG is ds ρ) else none
 | .tp _, _, _ => none
 | .tn i is, .dat (.tup [d, .tup ds]), ρ => if ds.length = is.length then some (pG is ds (ρ.set i (some (.dat d)))) else none
 | .tn _ _, _, _ => none
def Jz : Tg -> List Nat
 | .nm i => [i]
 | .tp is => is
 | .tn i is => i :: is
theorem zX {Q : L2.St -> Hp -> Prop} : ∀ {is : List Nat} {vs : List L2.V} {σ : L2.St} {H : Hp}, vs.length = is.length -> Q (putAll is vs σ) H -> EN is vs σ H Q
 | [], [], σ, H, _, q => ⟨rfl, q⟩
 | i :: is, v :: vs, σ, H, h, q => ⟨v, vs, rfl, zX (is := is) (by simpa using h) q⟩
 | [], _ :: _, _, _, h, _ => by simp at h
 | _ :: _, [], _, _, h, _ => by simp at h
theorem BV : ∀ {is : List Nat} {ds : List PH.D} {vs : List L2.V} {ρ : Ev} {σ : L2.St}, RepL K (jA B φ S) H ds vs -> RepE K B φ S H ρ σ -> RepE K B φ S H (pG is ds ρ) (putAll is vs σ)
 | [], ds, vs, ρ, σ, h, E => by cases ds <;> cases vs <;> exact E
 | i :: is, [], vs, ρ, σ, h, E => by cases h; exact E
 | i :: is, d :: ds, vs, ρ, σ, ⟨v, ws, e, h1, h2⟩, E => by subst e; exact BV (is := is) h2 (E.set (d := .dat d) h1 i)
def K1 : Tg -> L2.V -> List L2.V -> L2.St -> L2.St
 | .nm i, v, _, σ => σ.set i (some v)
 | .tp is, _, vs, σ => putAll is vs σ
 | .tn i is, _, v :: vs, σ => putAll is vs (σ.set i (some v))
 | .tn _ _, _, [], σ => σ
theorem B4 {t : Tg} {d : Vl} {v : L2.V} {ρ ρ' : Ev} {Q : L2.St -> Hp -> Prop} (E : RepE K B φ S H ρ σ) (r : RepV K B φ S H d v) (h : sJ t d ρ = some ρ') (q : ∀ vs, RepE K B φ S H ρ' (K1 t v vs σ) -> Q (K1 t v vs σ) H) : HY K t v σ H Q := by
 cases t with
 | nm i => cases h; exact q [] (E.set r i)
 | tp is =>
  cases d with
  | dat d =>
   cases d with
   | tup ds =>
    have h : (if ds.length = is.length then some (pG is ds ρ) else none) = some ρ' := h
    split at h
    ·rename_i hl
     cases h;obtain ⟨a, vs, rfl, h1, l⟩ := r;exact ⟨a, vs, rfl, h1, by rw [l.len, hl], zX (by rw [l.len, hl]) (q vs (BV l E))⟩
    ·cases h
   | _ => cases h
  | _ => cases h
 | tn i is =>
  cases d with
  | dat d =>
   cases d with
   | tup xs =>
    cases xs with
    | nil => cases h
    | cons d0 xs =>
     cases xs with
     | nil => cases h
     | cons d1 xs =>
      cases xs with
      | cons _ _ => cases d1 <;> cases h
      | nil =>
       cases d1 with
       | tup ds =>
        have h : (if ds.length = is.length then some (pG is ds (ρ.set i (some (.dat d0)))) else none) = some ρ' := h
        split at h
        ·rename_i hl
         cases h;obtain ⟨a, vs, rfl, h1, v0, ws, rfl, r0, v1, us, rfl, ⟨b, zs, rfl, h2, l⟩, rfl⟩ := r;refine ⟨a, [v0, .ref b], rfl, h1, rfl, v0, _, rfl, .ref b, _, rfl, b, zs, rfl, h2, by rw [l.len, hl], ?_⟩
         refine zX (Q := fun σ' H' => gNil [] σ' H' Q) (by rw [l.len, hl]) ⟨rfl, ?_⟩
         exact q (v0 :: zs) (BV l (E.set (d := .dat d0) r0 i))
        ·cases h
       | _ => cases h
   | _ => cases h
  | _ => cases h
def bL (a : FE) (t : Tg) : FS := fun ρ S => (a ρ S).toS ρ fun d S1 => match sJ t d ρ with
 | some ρ' => .next ρ' S1
 | none => .stuck
theorem Ha {t : Tg} (h : hW K W (bL ma t) D σ H) : tAsg (cY K W ma) (HY K t) D σ H := by
 obtain ⟨B, φ, S, ρ, I, E, f⟩ := h;refine cN I E f fun φ' S' d v H1 I1 X1 E1 r f1 => ?_
 split at f1
 ·rename_i ρ' q
  exact B4 E1 r q fun vs E2 => f1 φ' _ H1 I1 Ext.refl E2
 ·exact f1.elim
theorem Bw {tg e : Expr} {t : Tg} (he : PE X e (cY X.K W ma)) (hg : PG X tg (HY X.K t)) (hs : swapsWithSole [tg] e pos.line X.env = pure false := by rfl) (hw : swappedStores [tg] e X.env = pure none := by rfl)
  (h1 : (assignEach [tg] X.env).map (·.2) = [assign tg X.env] := by rfl) : PS X (.Assign [tg] e pos) (hW X.K W (bL ma t)) := fE (ps_asg he hg hs hw h1) fun D σ H h => Ha h
theorem aT {i : Nat} {x : Str} {e : Expr} {pos' : Pos} (hN : X.N.Nodup) (hi : X.N[i]? = some x) (hx : Loc X.env.scope x) (he : PE X e (cY X.K W ma)) (hs : swapsWith e (some (.Name x pos')) pos.line X.env = pure false := by rfl) (hf : X.fn x = true \/ X.env.scope.names.lookup x = some .local := by first | exact .inl rfl | exact .inr rfl | assumption) :
  PS X (.Assign [.Name x pos'] e pos) (hW X.K W (bL ma (.nm i))) := fE (ps_set hN hi hx he hs hf) fun D σ H h => Ha (t := .nm i) h
def wipeE (ρ : Ev) : List Nat -> Ev
 | [] => ρ
 | v :: vs => (wipeE ρ vs).set v none
theorem RepE.wipeE {ρ : Ev} (E : RepE K B φ S H ρ σ) : ∀ is : List Nat, RepE K B φ S H (wipeE ρ is) σ
 | [] => E
 | i :: is => (RepE.wipeE E is).forget i
def eU (is : List Nat) (m : FS) : FS := fun ρ S => match m ρ S with
 | .next ρ' S' => .next (wipeE ρ' is) S'
 | .cnt ρ' S' => .cnt (wipeE ρ' is) S'
 | .brk ρ' S' => .brk (wipeE ρ' is) S'
 | o => o
theorem K4 {is : List Nat} (h : hW K W (eU is m) D σ H) : hW K W m D σ H := by
 obtain ⟨B, φ, S, ρ, I, E, f⟩ := h;refine ⟨B, φ, S, ρ, I, E, ?_⟩
 unfold eU at f;cases e : m ρ S with
 | next ρ' S' => rw [e] at f; exact fun φ' σ' H' I' X r => f φ' σ' H' I' X (r.wipeE is)
 | ret d S' => rw [e] at f; exact f
 | brk ρ' S' => rw [e] at f; exact fun φ' σ' H' I' X r => f φ' σ' H' I' X (r.wipeE is)
 | cnt ρ' S' => rw [e] at f; exact fun φ' σ' H' I' X r => f φ' σ' H' I' X (r.wipeE is)
 | err x d S' => rw [e] at f; exact f
 | stuck => rw [e] at f; exact f
theorem dJ (is : List Nat) (h : PSs X sts (hW X.K W m)) : PSs X sts (hW X.K W (eU is m)) := yS h fun D σ H h => K4 h
abbrev FI := Ev -> aM -> Res (List PH.D)
def MP (K : aD) (B : Addr -> Prop) (φ : List Addr) (S : aM) (H : Hp) (J : It) (ds : List PH.D) : Prop := ∀ φ1 S1 H1 B1, GInv K B1 φ1 S1 H1 -> Kp (jA B φ S) H (jA B1 φ1 S1) H1 ->
 (∀ i, i < ds.length -> J.go i H1) /\ J.stop ds.length H1 /\ ∀ i x H2 d, ds[i]? = some d -> J.yld i H1 x H2 -> GInv K B1 φ1 S1 H2 /\ Ext φ1 S1 H1 φ1 S1 H2 /\ Rep K (jA B1 φ1 S1) H2 d x
def RI (K : aD) : Rl (List PH.D) It := fun B φ S H ds J => MP K B φ S H J ds
abbrev Hk (K : aD) (W : WX) (m : FI) : TI := rd K W (RI K) m
theorem HR {tg iter : Expr} {t u : TI} (h : PI X tg iter t) (i : ∀ σ H R, u σ H R -> t σ H R) : PI X tg iter u := ⟨fun pins s σ H R I q => h.run pins s σ H R I (i σ H R q)⟩
theorem Kp.trans {B1 B2 B3 : Addr -> Prop} {H1 H2 H3 : Hp} (a : Kp B1 H1 B2 H2) (b : Kp B2 H2 B3 H3) : Kp B1 H1 B3 H3 := ⟨fun c o h n => b.old c o (a.old c o h n).1 (a.old c o h n).2, fun c u h => b.tup c u (a.tup c u h)⟩
theorem Ext.kpB {B1 : Addr -> Prop} {φ1 : List Addr} {S1 : aM} {H1 : Hp} (h1 : ∀ a, B a -> B1 a) (h2 : ∀ a, H a ≠ none -> B1 a -> B a) (I : GInv K B φ S H) (x : Ext φ S H φ1 S1 H1) : Kp (jA B φ S) H (jA B1 φ1 S1) H1 where
 old := fun b o h n => by
  obtain ⟨h3, h4⟩ := x.old b o h (fun q => n (.inr q))
  exact ⟨h3, fun q => by
   rcases q with q | q
   ·exact n (.inl (h2 b (by rw [h]; simp) q))
   ·exact h4 q⟩
 tup := (x.kp I).tup
theorem NH {v : L2.V} {ds : List PH.D} (I : GInv K B φ S H) (r : Rep K (jA B φ S) H (.lst ds) v) : ∃ a, v = .ref a /\ (∃ xs, SqL K H a xs) /\ MP K B φ S H (Itl K a) ds := by
 obtain ⟨a, vs, rfl, nb, h1, l⟩ := r;refine ⟨a, rfl, ⟨vs, SqL.of h1⟩, fun φ1 S1 H1 B1 I1 X1 => ?_⟩
 have h2 := (X1.old a _ h1 nb).1;have l2 := RepL.kp X1 ds vs l;have hl := l.len;refine ⟨fun i hi => ⟨vs, vs[i], SqL.of h2, by simp [hl, hi]⟩, ⟨vs, SqL.of h2, by omega⟩, fun i x H2 d hd y => ?_⟩
 obtain ⟨rfl, y⟩ := y;obtain ⟨v', h3, h4⟩ := l2.get hd;rw [y vs (SqL.of h2)] at h3;cases h3;exact ⟨I1, Ext.refl, h4⟩
theorem QN {v : L2.V} {ds : List PH.D} (I : GInv K B φ S H) (r : Rep K (jA B φ S) H (.tup ds) v) : ∃ a, v = .ref a /\ (∃ xs, SqT K H a xs) /\ MP K B φ S H (Itt K a) ds := by
 obtain ⟨a, vs, rfl, h1, l⟩ := r;refine ⟨a, rfl, ⟨vs, h1⟩, fun φ1 S1 H1 B1 I1 X1 => ?_⟩
 have h2 : SqT K H1 a vs := SqT.kp X1.tup h1;have l2 := RepL.kp X1 ds vs l;have hl := l.len;refine ⟨fun i hi => ⟨vs, vs[i], h2, by simp [hl, hi]⟩, ⟨vs, h2, by omega⟩, fun i x H2 d hd y => ?_⟩
 obtain ⟨rfl, y⟩ := y;obtain ⟨v', h3, h4⟩ := l2.get hd;rw [y vs h2] at h3;cases h3;exact ⟨I1, Ext.refl, h4⟩
def itemsOf : Vl -> aM -> Res (List PH.D)
 | .dat (.lst ds), S => .ok ds S
 | .dat (.tup ds), S => .ok ds S
 | _, _ => .stuck
def jL (a : FE) : FI := fun ρ S => (a ρ S).bind itemsOf
theorem hJ {tg : Expr} (ha : PE X a (cY X.K W ma)) : PI X tg a (Hk X.K W (jL ma)) := HR (Pi ha) fun σ H R h =>
 cA (k := fun x _ S => itemsOf x S) h fun B φ S ρ d v H1 I E r f => by
  unfold itemsOf at f;split at f
  ·obtain ⟨a, rfl, h1, h2⟩ := NH I r
   exact Cm ⟨h1, Fin.now f I h2⟩
  ·obtain ⟨a, rfl, h1, h2⟩ := QN I r
   exact Ah ⟨h1, Fin.now f I h2⟩
  ·exact f.elim
def jH (lo : Int) (n : Nat) : List PH.D := (bV n).map fun (k : Nat) => PH.D.int (lo + (k : Int))
theorem QO {lo : Int} {n : Nat} : MP K B φ S H (Itr lo n) (jH lo n) := fun φ1 S1 H1 B1 I1 X1 => by
 refine ⟨fun i hi => by show i < n; simpa [jH] using hi, by show n <= _; simp [jH], fun i x H2 d hd y => ?_⟩
 obtain ⟨rfl, rfl⟩ := y;have : d = .int (lo + (i : Int)) := by
  unfold jH at hd;rw [eN] at hd;cases q : (bV n)[i]? with
  | none => rw [q] at hd; cases hd
  | some k =>
   rw [q] at hd;have := aJ.mp q;obtain ⟨_, e⟩ := this;simp at e;subst e;cases hd;rfl
 subst this;exact ⟨I1, Ext.refl, rfl⟩
def gX (a : FE) : FI := fun ρ S => (a ρ S).bind fun x S1 => match x with
 | .dat (.int j) => if -(2 ^ 62) <= j /\ j < 2 ^ 62 then .ok (jH 0 j.toNat) S1 else .stuck
 | _ => .stuck
theorem gQ {tg : Expr} (hg : Gl X "range") (hm : X.mg "range" = none) (ha : PE X a (cY X.K W ma)) (hs : starEach [a] X.env = [(false, eval a X.env)] := by rfl) : PI X tg (.Call (.Name "range" p) [a] [] pos) (Hk X.K W (gX ma)) := HR (pi_range1 hg hm (pa_cons ha pa_nil hs) hs) fun σ H R h =>
 cA (k := fun x _ S1 => match x with | Vl.dat (PH.D.int j) => if -(2 ^ 62) <= j /\ j < 2 ^ 62 then Res.ok (jH 0 j.toNat) S1 else .stuck | _ => .stuck) h fun B φ S ρ d v H1 I E r f => by
  split at f
  ·rename_i j
   cases r;split at f
   ·rename_i hj
    exact ⟨j, rfl, hj.1, hj.2, Fin.now f I QO⟩
   ·exact f.elim
  ·exact f.elim
def cJ : Nat -> List PH.D -> List PH.D
 | _, [] => []
 | n, d :: r => .tup [.int (n : Nat), d] :: cJ (n + 1) r
theorem DL : ∀ (n : Nat) (ds : List PH.D), (cJ n ds).length = ds.length
 | _, [] => rfl
 | n, d :: r => by simp [cJ, DL (n + 1) r]
theorem DM : ∀ (n : Nat) (ds : List PH.D) (i : Nat), (cJ n ds)[i]? = (ds[i]?).map fun d => PH.D.tup [.int ((n + i : Nat) : Int), d]
 | n, [], i => by simp [cJ]
 | n, d :: r, 0 => by simp [cJ]
 | n, d :: r, i + 1 => by
  simp only [cJ, List.getElem?_cons_succ]
  rw [DM (n + 1) r i, show n + 1 + i = n + (i + 1) by omega]
def sO (a : FE) : FI := fun ρ S => (a ρ S).bind fun x S1 => match x with
 | .dat (.lst ds) => .ok (cJ 0 ds) S1
 | _ => .stuck
theorem NI {a : Addr} {vs : List L2.V} {ds : List PH.D} (I : GInv K B φ S H) (nb : ¬ jA B φ S a) (h1 : H a = some (.lst vs)) (l : RepL K (jA B φ S) H ds vs) : MP K B φ S H (Ite K a) (cJ 0 ds) := fun φ1 S1 H1 B1 I1 X1 => by
 have h2 := (X1.old a _ h1 nb).1;have l2 := RepL.kp X1 ds vs l;have hl := l.len;rw [DL];refine ⟨fun i hi => ⟨vs, vs[i], SqL.of h2, by simp [hl, hi]⟩, ⟨vs, SqL.of h2, by omega⟩, fun i x H2 d hd y => ?_⟩
 obtain ⟨T, x', rfl, nT, rfl, y⟩ := y;rw [DM, mL] at hd;cases q : ds[i]? with
 | none => rw [q] at hd; cases hd
 | some d' =>
  rw [q] at hd;cases hd;obtain ⟨v', h3, h4⟩ := l2.get q;rw [y vs (SqL.of h2)] at h3;cases h3;have X2 := Ext.new (o := .tup [.int (i : Nat), x']) I1 nT;exact ⟨I1.new nT, X2, T, _, rfl, .inl (.inl upd_same), _, _, rfl, rfl, _, _, rfl, Rep.kp (X2.kp I1) _ _ h4, rfl⟩
theorem pN {elts : List Expr} {kk : Nat} {tpos : Pos} (hg : Gl X "enumerate") (hm : X.mg "enumerate" = none) (ha : PE X a (cY X.K W ma)) (hs : starEach [a] X.env = [(false, eval a X.env)] := by rfl) : PI X (.Tuple elts kk tpos) (.Call (.Name "enumerate" p) [a] [] pos) (Hk X.K W (sO ma)) := HR (pi_enum hg hm (pa_cons ha pa_nil hs) hs) fun σ H R h =>
 cA (k := fun x _ S1 => match x with | Vl.dat (PH.D.lst ds) => Res.ok (cJ 0 ds) S1 | _ => .stuck) h fun B φ S ρ d v H1 I E r f => by
  split at f
  ·obtain ⟨a, vs, rfl, nb, h1, l⟩ := r
   exact ⟨a, vs, rfl, SqL.of h1, Fin.now f I (NI I nb h1 l)⟩
  ·exact f.elim
def PQ : List PH.D -> List PH.D -> List PH.D
 | a :: r, b :: s => .tup [a, b] :: PQ r s
 | _, _ => []
end
section
variable {X : Cx} {W : WX} {e a b c : Expr} {es rest : List Expr} {pos p q p2 : Pos} {x y z : Str} {K : aD} {ma mb mc : FE} {mt mu : FT} {mas : FA} {mi : FI} {B : Addr -> Prop} {φ φ' : List Addr} {S S' : aM} {H H' : Hp} {σ : L2.St} {Q : VK} {m n : FS} {st : Stmt} {sts : List Stmt} {D : Ends} {t : Tg}
def loop (t : Tg) (mb : FS) : List PH.D -> Ev -> aM -> Out
 | [], ρ, S => .next ρ S
 | d :: r, ρ, S => match sJ t (.dat d) ρ with
  | none => .stuck
  | some ρ1 => match mb ρ1 S with
   | .next ρ2 S2 => loop t mb r ρ2 S2
   | .cnt ρ2 S2 => loop t mb r ρ2 S2
   | .brk ρ2 S2 => .next ρ2 S2
   | .ret d S2 => .ret d S2
   | .err e ρ2 S2 => .err e ρ2 S2
   | .stuck => .stuck
def kP (mi : FI) (t : Tg) (mb : FS) : FS := fun ρ S => (mi ρ S).toS ρ fun ds S1 => loop t mb ds ρ S1
theorem MZ (h : hW K W (kP mi t m) D σ H) : tFor (Hk K W mi) (HY K t) (hW K W m) D σ H := by
 obtain ⟨B, φ, S, ρ, I, E, f⟩ := h;refine cN I E f fun φ0 S0 ds J H0 I0 X0 E0 r f0 => ?_
 refine ⟨fun i k σ' H' => i <= ds.length /\ k = ds.length - i /\ ∃ φ1 S1 ρ1, GInv K B φ1 S1 H' /\ Ext φ0 S0 H0 φ1 S1 H' /\ RepE K B φ1 S1 H' ρ1 σ' /\ FinS K W D B φ1 S1 H' (loop t m (ds.drop i) ρ1 S1), ⟨_, dQ _, rfl, φ0, S0, ρ, I0, Ext.refl, E0, f0⟩, ?_⟩
 rintro i k σ' H' ⟨hi, rfl, φ1, S1, ρ1, I1, X1, E1, f1⟩
 obtain ⟨hgo, hstop, hyld⟩ := r φ1 S1 H' B I1 (X1.kp I0)
 by_cases hlt : i < ds.length
 ·refine .inr ⟨hgo i hlt, fun σ2 H2 => i + 1 <= ds.length /\ ∃ φ2 S2 ρ2, GInv K B φ2 S2 H2 /\ Ext φ0 S0 H0 φ2 S2 H2 /\ RepE K B φ2 S2 H2 ρ2 σ2 /\ FinS K W D B φ2 S2 H2 (loop t m (ds.drop (i + 1)) ρ2 S2), fun σ2 H2 ⟨h1, h2⟩ => ⟨ds.length - (i + 1), by omega, h1, rfl, h2⟩, fun x H2 y => ?_⟩
  have hd : ds[i]? = some ds[i] := by simp [hlt]
  obtain ⟨I2, X2, r2⟩ := hyld i x H2 ds[i] hd y;rw [fY hlt] at f1;unfold loop at f1;have E2 := E1.ext X2 I1;have f2 := FinS.ext f1 X2;split at f2
  ·exact f2.elim
  ·rename_i ρ2 q2
   refine B4 E2 (d := .dat ds[i]) r2 q2 fun vs E3 => ⟨B, φ1, S1, ρ2, I2, E3, ?_⟩
   cases q3 : m ρ2 S1 with
   | next ρ3 S3 =>
    rw [q3] at f2;exact fun φ3 σ3 H3 I3 X3 E4 => ⟨hlt, φ3, S3, ρ3, I3, X1.trans (X2.trans X3), E4, FinS.ext f2 X3⟩
   | cnt ρ3 S3 =>
    rw [q3] at f2;exact fun φ3 σ3 H3 I3 X3 E4 => ⟨hlt, φ3, S3, ρ3, I3, X1.trans (X2.trans X3), E4, FinS.ext f2 X3⟩
   | brk ρ3 S3 => rw [q3] at f2; exact f2
   | ret d S3 => rw [q3] at f2; exact f2
   | err e ρ3 S3 => rw [q3] at f2; exact f2
   | stuck => rw [q3] at f2; exact f2
 ·have e : i = ds.length := by omega
  subst e;rw [sW] at f1;exact .inl ⟨hstop, f1 φ1 σ' H' I1 Ext.refl E1⟩
theorem fV {tg iter : Expr} (hp : PassesOwn (model X.prog X.w) X.A X.env X.xe) (hc : X.calm = true) (hi : PI X tg iter (Hk X.K W mi)) (hg : PG X tg (HY X.K t)) (hb : PSs X sts (hW X.K W m))
  (hs : ∀ x, foldedSetIterable iter X.env x = pure x := by intro _; rfl) : PS X (.For tg iter sts [] pos) (hW X.K W (kP mi t m)) := fE (ps_for hp hc hi hg hb hs) fun D σ H h => MZ h
def Em (mt : FT) (mb : FS) : Nat -> Ev -> aM -> Out
 | 0, _, _ => .stuck
 | n + 1, ρ, S => (mt ρ S).toS ρ fun c S1 => if c = true then (match mb ρ S1 with
   | .next ρ2 S2 => Em mt mb n ρ2 S2
   | .cnt ρ2 S2 => Em mt mb n ρ2 S2
   | .brk ρ2 S2 => .next ρ2 S2
   | .ret d S2 => .ret d S2
   | .err e ρ2 S2 => .err e ρ2 S2
   | .stuck => .stuck) else .next ρ S1
def Gg (k : Nat) (mt : FT) (mb : FS) : FS := fun ρ S => Em mt mb k ρ S
theorem Ib {k : Nat} (h : hW K W (Gg k mt m) D σ H) : tWhile (tN K W mt) (hW K W m) D σ H := by
 obtain ⟨B, φ, S, ρ, I, E, f⟩ := h;refine ⟨fun k σ' H' => ∃ φ1 S1 ρ1, GInv K B φ1 S1 H' /\ RepE K B φ1 S1 H' ρ1 σ' /\ FinS K W D B φ1 S1 H' (Em mt m k ρ1 S1), ⟨k, φ, S, ρ, I, E, f⟩, ?_⟩
 rintro k σ' H' ⟨φ1, S1, ρ1, I1, E1, f1⟩
 cases k with
 | zero => exact f1.elim
 | succ k =>
  refine cN I1 E1 f1 fun φ2 S2 d v H2 I2 X2 E2 r f2 => ?_
  have r : v = d := r;subst r;cases v with
  | false => exact f2 φ2 σ' H2 I2 Ext.refl E2
  | true =>
   refine ⟨fun σ3 H3 => ∃ φ1 S1 ρ1, GInv K B φ1 S1 H3 /\ RepE K B φ1 S1 H3 ρ1 σ3 /\ FinS K W D B φ1 S1 H3 (Em mt m k ρ1 S1), fun σ3 H3 h3 => ⟨k, Nat.lt_succ_self _, h3⟩, ⟨B, φ2, S2, ρ1, I2, E2, ?_⟩⟩
   rw [if_pos rfl] at f2;cases q3 : m ρ1 S2 with
   | next ρ3 S3 =>
    rw [q3] at f2;exact fun φ3 σ3 H3 I3 X3 E4 => ⟨φ3, S3, ρ3, I3, E4, FinS.ext f2 X3⟩
   | cnt ρ3 S3 =>
    rw [q3] at f2;exact fun φ3 σ3 H3 I3 X3 E4 => ⟨φ3, S3, ρ3, I3, E4, FinS.ext f2 X3⟩
   | brk ρ3 S3 => rw [q3] at f2; exact f2
   | ret d S3 => rw [q3] at f2; exact f2
   | err e ρ3 S3 => rw [q3] at f2; exact f2
   | stuck => rw [q3] at f2; exact f2
theorem Lm {k : Nat} (hp : PassesOwn (model X.prog X.w) X.A X.env X.xe) (hc : PT X c (tN X.K W mt)) (hb : PSs X sts (hW X.K W m)) : PS X (.While c sts [] pos) (hW X.K W (Gg k mt m)) := fE (ps_while hp hc hb) fun D σ H h => Ib h
theorem uP : ∀ (vs : List Nat) (σ : L2.St) (j : Nat), (wipe σ vs)[j]? = if j ∈ vs then (σ[j]?).map (fun _ => none) else σ[j]?
 | [], σ, j => by simp [wipe]
 | v :: vs, σ, j => by
  unfold wipe;rw [aQ, uP vs σ j, wipe_length]
  by_cases e : v = j
  ·subst e
   rw [if_pos rfl, if_pos (aY ..)]
   by_cases hl : v < σ.length
   ·rw [if_pos hl]; simp [hl]
   ·rw [if_neg hl]; simp [sZ hl]
  ·rw [if_neg e]
   by_cases hm : j ∈ vs
   ·rw [if_pos hm, if_pos (aV _ hm)]
   ·rw [if_neg hm, if_neg]
    intro h;rcases bN.mp h with h | h
    ·exact e h.symm
    ·exact hm h
theorem Az {vs : List Nat} {σ : L2.St} {i : Nat} {v : Option L2.V} (hi : i ∈ vs) : wipe (σ.set i v) vs = wipe σ vs := by
 apply iN
 intro j;rw [uP, uP]
 by_cases hj : j ∈ vs
 ·rw [if_pos hj, if_pos hj, aQ]
  by_cases e : i = j
  ·subst e
   rw [if_pos rfl]
   by_cases hl : i < σ.length
   ·rw [if_pos hl]; simp [hl]
   ·rw [if_neg hl]; simp [sZ hl]
  ·rw [if_neg e]
 ·rw [if_neg hj, if_neg hj, aQ, if_neg]
  intro e;subst e;exact hj hi
theorem yV {vs : List Nat} {σ : L2.St} : wipe (wipe σ vs) vs = wipe σ vs := by
 apply iN
 intro j;rw [uP]
 by_cases hj : j ∈ vs
 ·rw [if_pos hj, uP, if_pos hj]
  cases σ[j]? <;> rfl
 ·rw [if_neg hj]
theorem tA {vs : List Nat} : ∀ {is : List Nat} {ws : List L2.V} {σ : L2.St}, (∀ i ∈ is, i ∈ vs) -> wipe (putAll is ws σ) vs = wipe σ vs
 | [], ws, σ, _ => by cases ws <;> rfl
 | i :: is, [], σ, _ => rfl
 | i :: is, w :: ws, σ, h => by
  unfold putAll;rw [tA (is := is) fun j hj => h j (aV _ hj), Az (h i (aY ..))]
theorem yW {vs : List Nat} {v : L2.V} {ws : List L2.V} (h : ∀ i ∈ Jz t, i ∈ vs) : wipe (K1 t v ws σ) vs = wipe σ vs := by
 cases t with
 | nm i => exact Az (h i (by simp [Jz]))
 | tp is => exact tA h
 | tn i is =>
  cases ws with
  | nil => rfl
  | cons w ws =>
   show wipe (putAll is ws (σ.set i (some w))) vs = _
   rw [tA fun j hj => h j (aV _ hj), Az (h i (aY ..))]
theorem RepE.wipes {ρ : Ev} (E : RepE K B φ S H ρ σ) (vs : List Nat) : RepE K B φ S H (PH.wipeE ρ vs) (wipe σ vs) := by
 have hl : ∀ vs : List Nat, (PH.wipeE ρ vs).length = ρ.length := fun vs => by
  induction vs with
  | nil => rfl
  | cons v vs ih => simp [PH.wipeE, ih]
 have hg : ∀ (vs : List Nat) (i : Nat) (d : Vl), (PH.wipeE ρ vs)[i]? = some (some d) -> i ∉ vs /\ ρ[i]? = some (some d) := fun vs => by
  induction vs with
  | nil => intro i d h; exact ⟨by simp, h⟩
  | cons v vs ih =>
   intro i d h;unfold PH.wipeE at h;rw [aQ] at h
   by_cases e : v = i
   ·rw [if_pos e] at h
    by_cases hv : v < (PH.wipeE ρ vs).length
    ·rw [if_pos hv] at h; cases h
    ·rw [if_neg hv] at h; cases h
   ·rw [if_neg e] at h
    obtain ⟨h1, h2⟩ := ih i d h;exact ⟨fun q => by
     rcases bN.mp q with q | q
     ·exact e q.symm
     ·exact h1 q, h2⟩
 refine ⟨by rw [hl, wipe_length]; exact E.1, fun i d h => ?_⟩
 obtain ⟨h1, h2⟩ := hg vs i d h;obtain ⟨v, h3, h4⟩ := E.2 i d h2;exact ⟨v, by rw [uP, if_neg h1]; exact h3, h4⟩
def iZ (B : Addr -> Prop) (a : Addr) : Addr -> Prop := fun b => B b \/ b = a
theorem GInv.plus {a : Addr} {o : HO} (I : GInv K B φ S H) (ha : H a = none) : GInv K (iZ B a) φ S (upd H a o) where
 len := I.len
 ok := fun n c b h1 h2 => by
  have q := I.ok n c b h1 h2;have k : Kp (jA B φ S) H (jA (iZ B a) φ S) (upd H a o) := Ext.kpB (B1 := iZ B a) (fun _ h => .inl h) (fun b hb h => by
   rcases h with h | h
   ·exact h
   ·exact absurd (by rw [h]; exact ha) hb) I (Ext.new I ha)
  have hb : c ≠ .dead -> upd H a o b = H b := fun hc => upd_ne fun e => by
   subst e;exact I.fresh ha ⟨n, c, h1, hc, h2⟩
  have hV : ∀ {d : Vl} {v : L2.V}, RepV K B φ S H d v -> RepV K (iZ B a) φ S (upd H a o) d v := fun {d v} r => by
   cases d with
   | dat d => exact Rep.kp k d v r
   | cel n => exact r
   | cels ns => obtain ⟨a', as, e1, e2, e3, e4⟩ := r; exact ⟨a', as, e1, (k.old _ _ e3 e2).2, (k.old _ _ e3 e2).1, e4⟩
   | scr ns => obtain ⟨a', e1, e2⟩ := r; exact ⟨a', e1, e2.keep fun o u h => by rw [upd_ne (ne_of_none h ha)]; exact h⟩
   | tc xs => obtain ⟨a', vs, e1, e2, e3⟩ := r; exact ⟨a', vs, e1, SqT.kp k.tup e2, e3.kp k (fun _ _ h => h)⟩
  have hF : ∀ {fs : List (Str × Vl)} {vs : List (Str × L2.V)}, RepF K B φ S H fs vs -> RepF K (iZ B a) φ S (upd H a o) fs vs := fun {fs} => by
   induction fs with
   | nil => intro vs r; exact r
   | cons f fs ih => rintro vs ⟨v, ws, e, h1, h2⟩; exact ⟨v, ws, e, hV h1, ih h2⟩
  cases c with
  | dead => trivial
  | lst ds => obtain ⟨vs, e, r⟩ := q; exact ⟨vs, by rw [hb (by simp)]; exact e, RepL.kp k ds vs r⟩
  | ins C fs => obtain ⟨dx, vs, e, r⟩ := q; exact ⟨dx, vs, by rw [hb (by simp)]; exact e, hF r⟩
  | dct fs => obtain ⟨vs, e, r⟩ := q; exact ⟨vs, by rw [hb (by simp)]; exact e, hF r⟩
  | lv xs => obtain ⟨vs, e, r⟩ := q; exact ⟨vs, by rw [hb (by simp)]; exact e, eX hV r⟩
  | dki ks xs => obtain ⟨vs, e, r⟩ := q; exact ⟨vs, by rw [hb (by simp)]; exact e, eX hV r⟩
  | dkt ks xs => obtain ⟨vs, e, r⟩ := q; exact ⟨vs, by rw [hb (by simp)]; exact e, eX hV r⟩
 inj := I.inj
 blk := fun b h q => by
  rcases q with q | q
  ·exact I.blk b h q
  ·subst q; exact I.fresh ha h
 btr := fun b h => by
  rcases h with h | h
  ·obtain ⟨u, e⟩ := I.btr b h
   exact ⟨u, by rw [upd_ne (ne_of_none e ha)]; exact e⟩
  ·subst h; exact ⟨o, upd_same⟩
theorem RepV.less {a : Addr} {d : Vl} {v : L2.V} (r : RepV K (iZ B a) φ S H d v) : RepV K B φ S H d v := by
 have k : Kp (jA (iZ B a) φ S) H (jA B φ S) H := ⟨fun b o h n => ⟨h, fun q => n (by
  rcases q with q | q
  ·exact .inl (.inl q)
  ·exact .inr q)⟩, fun _ _ h => h⟩
 cases d with
 | dat d => exact Rep.kp k d v r
 | cel n => exact r
 | cels ns => obtain ⟨a', as, e1, e2, e3, e4⟩ := r; exact ⟨a', as, e1, (k.old _ _ e3 e2).2, e3, e4⟩
 | scr ns => exact r
 | tc xs => obtain ⟨a', vs, e1, e2, e3⟩ := r; exact ⟨a', vs, e1, SqT.kp k.tup e2, e3.kp k (fun _ _ h => h)⟩
theorem RepL.less {a : Addr} {ds : List PH.D} {vs : List L2.V} (r : RepL K (jA (iZ B a) φ S) H ds vs) : RepL K (jA B φ S) H ds vs :=
 RepL.kp ⟨fun b o h n => ⟨h, fun q => n (by
  rcases q with q | q
  ·exact .inl (.inl q)
  ·exact .inr q)⟩, fun _ _ h => h⟩ ds vs r
theorem RepF.less {a : Addr} : ∀ {fs : List (Str × Vl)} {vs : List (Str × L2.V)}, RepF K (iZ B a) φ S H fs vs -> RepF K B φ S H fs vs
 | [], vs, r => r
 | f :: fs, vs, ⟨v, ws, e, h1, h2⟩ => ⟨v, ws, e, h1.less, RepF.less h2⟩
theorem GInv.less {a : Addr} (I : GInv K (iZ B a) φ S H) : GInv K B φ S H where
 len := I.len
 ok := fun n c b h1 h2 => by
  have q := I.ok n c b h1 h2;cases c with
  | dead => trivial
  | lst ds => obtain ⟨vs, e, r⟩ := q; exact ⟨vs, e, r.less⟩
  | ins C fs => obtain ⟨dx, vs, e, r⟩ := q; exact ⟨dx, vs, e, r.less⟩
  | dct fs => obtain ⟨vs, e, r⟩ := q; exact ⟨vs, e, r.less⟩
  | lv xs => obtain ⟨vs, e, r⟩ := q; exact ⟨vs, e, eX RepV.less r⟩
  | dki ks xs => obtain ⟨vs, e, r⟩ := q; exact ⟨vs, e, eX RepV.less r⟩
  | dkt ks xs => obtain ⟨vs, e, r⟩ := q; exact ⟨vs, e, eX RepV.less r⟩
 inj := I.inj
 blk := fun b h q => I.blk b h (.inl q)
 btr := fun b h => I.btr b (.inl h)
theorem Kp.plusPut {a : Addr} {acc : List L2.V} {o : HO} (ha : H a = some (.lst acc)) : Kp (jA (iZ B a) φ S) H (jA (iZ B a) φ S) (upd H a o) :=
 ⟨fun b o' h n => ⟨by
  rw [upd_ne]
  ·exact h
  ·intro e; subst e; exact n (.inl (.inr rfl)), n⟩, fun b w h => by
  have ne : b ≠ a := fun e => by
   subst e;rcases h with h | ⟨o', h⟩
   ·rw [ha] at h; cases h
   ·rw [ha] at h; cases h
  rcases h with h | ⟨o', h⟩
  ·exact .inl (by rw [upd_ne ne]; exact h)
  ·exact .inr ⟨o', by rw [upd_ne ne]; exact h⟩⟩
theorem RepV.plusPut {a : Addr} {acc : List L2.V} {o : HO} (ha : H a = some (.lst acc)) {d : Vl} {v : L2.V} (r : RepV K (iZ B a) φ S H d v) : RepV K (iZ B a) φ S (upd H a o) d v := by
 have k := Kp.plusPut (B := B) (φ := φ) (S := S) (o := o) ha;cases d with
 | dat d => exact Rep.kp k d v r
 | cel n => exact r
 | cels ns => obtain ⟨a', as, e1, e2, e3, e4⟩ := r; exact ⟨a', as, e1, (k.old _ _ e3 e2).2, (k.old _ _ e3 e2).1, e4⟩
 | scr ns =>
  obtain ⟨a', e1, e2⟩ := r;refine ⟨a', e1, e2.keep fun o u h => ?_⟩
  rw [upd_ne]
  ·exact h
  ·intro e; subst e; rw [ha] at h; cases h
 | tc xs => obtain ⟨a', vs, e1, e2, e3⟩ := r; exact ⟨a', vs, e1, SqT.kp k.tup e2, e3.kp k (fun _ _ h => h)⟩
theorem RepF.plusPut {a : Addr} {acc : List L2.V} {o : HO} (ha : H a = some (.lst acc)) : ∀ {fs : List (Str × Vl)} {vs : List (Str × L2.V)}, RepF K (iZ B a) φ S H fs vs -> RepF K (iZ B a) φ S (upd H a o) fs vs
 | [], vs, r => r
 | f :: fs, vs, ⟨v, ws, e, h1, h2⟩ => ⟨v, ws, e, h1.plusPut ha, RepF.plusPut ha h2⟩
theorem GInv.plusPut {a : Addr} {acc : List L2.V} {o : HO} (I : GInv K (iZ B a) φ S H) (ha : H a = some (.lst acc)) : GInv K (iZ B a) φ S (upd H a o) where
 len := I.len
 ok := fun n c b h1 h2 => by
  have q := I.ok n c b h1 h2;have k := Kp.plusPut (B := B) (φ := φ) (S := S) (o := o) ha;have hb : c ≠ .dead -> upd H a o b = H b := fun hc => upd_ne fun e => by
   subst e;exact I.blk b ⟨n, c, h1, hc, h2⟩ (.inr rfl)
  cases c with
  | dead => trivial
  | lst ds => obtain ⟨vs, e, r⟩ := q; exact ⟨vs, by rw [hb (by simp)]; exact e, RepL.kp k ds vs r⟩
  | ins C fs => obtain ⟨dx, vs, e, r⟩ := q; exact ⟨dx, vs, by rw [hb (by simp)]; exact e, r.plusPut ha⟩
  | dct fs => obtain ⟨vs, e, r⟩ := q; exact ⟨vs, by rw [hb (by simp)]; exact e, r.plusPut ha⟩
  | lv xs => obtain ⟨vs, e, r⟩ := q; exact ⟨vs, by rw [hb (by simp)]; exact e, eX (RepV.plusPut ha) r⟩
  | dki ks xs => obtain ⟨vs, e, r⟩ := q; exact ⟨vs, by rw [hb (by simp)]; exact e, eX (RepV.plusPut ha) r⟩
  | dkt ks xs => obtain ⟨vs, e, r⟩ := q; exact ⟨vs, by rw [hb (by simp)]; exact e, eX (RepV.plusPut ha) r⟩
 inj := I.inj
 blk := I.blk
 btr := fun b h => by
  by_cases e : b = a
  ·subst e; exact ⟨o, upd_same⟩
  ·obtain ⟨u, h1⟩ := I.btr b h
   exact ⟨u, by rw [upd_ne e]; exact h1⟩
theorem RepV.plus {a : Addr} {o : HO} (I : GInv K B φ S H) (ha : H a = none) {d : Vl} {v : L2.V} (r : RepV K B φ S H d v) : RepV K (iZ B a) φ S (upd H a o) d v := by
 have k : Kp (jA B φ S) H (jA (iZ B a) φ S) (upd H a o) := Ext.kpB (B1 := iZ B a) (fun _ h => .inl h) (fun b hb h => by
  rcases h with h | h
  ·exact h
  ·exact absurd (by rw [h]; exact ha) hb) I (Ext.new I ha)
 cases d with
 | dat d => exact Rep.kp k d v r
 | cel n => exact r
 | cels ns => obtain ⟨a', as, e1, e2, e3, e4⟩ := r; exact ⟨a', as, e1, (k.old _ _ e3 e2).2, (k.old _ _ e3 e2).1, e4⟩
 | scr ns => obtain ⟨a', e1, e2⟩ := r; exact ⟨a', e1, e2.keep fun o u h => by rw [upd_ne (ne_of_none h ha)]; exact h⟩
 | tc xs => obtain ⟨a', vs, e1, e2, e3⟩ := r; exact ⟨a', vs, e1, SqT.kp k.tup e2, e3.kp k (fun _ _ h => h)⟩
theorem RepE.plus {a : Addr} {o : HO} {ρ : Ev} (I : GInv K B φ S H) (ha : H a = none) (E : RepE K B φ S H ρ σ) : RepE K (iZ B a) φ S (upd H a o) ρ σ :=
 ⟨E.1, fun i d h => by
  obtain ⟨v, h1, h2⟩ := E.2 i d h;exact ⟨v, h1, h2.plus I ha⟩⟩
theorem RepE.plusPut {a : Addr} {acc : List L2.V} {o : HO} {ρ : Ev} (ha : H a = some (.lst acc)) (E : RepE K (iZ B a) φ S H ρ σ) : RepE K (iZ B a) φ S (upd H a o) ρ σ :=
 ⟨E.1, fun i d h => by
  obtain ⟨v, h1, h2⟩ := E.2 i d h;exact ⟨v, h1, h2.plusPut ha⟩⟩
theorem Fin.done {cl : Bool} {a : Addr} {ds : List PH.D} {vs : List L2.V} {H0 : Hp} {φ0 : List Addr} {S0 : aM} (f : Fin K W σ (RepV K) B φ0 S0 H0 (PH.newL cl ds S) Q) (I : GInv K (iZ B a) φ S H) (X0 : Ext φ0 S0 H0 φ S H) (h0 : H0 a = none) (nB : ¬ B a) (ha : H a = some (.lst vs)) (l : RepL K (jA (iZ B a) φ S) H ds vs) : Q (.ref a) H := by
 have na : ¬ lP φ S a := fun q => I.blk a q (.inr rfl)
 unfold PH.newL at f;cases cl with
 | false =>
  refine f φ _ H I.less X0 ⟨a, vs, rfl, fun q => ?_, ha, l.less⟩
  rcases q with q | q
  ·exact nB q
  ·exact na q
 | true =>
  have X1 : Ext φ0 S0 H0 (φ ++ [a]) (S ++ [.lst ds]) H := {
   old := fun b o h n => by
    obtain ⟨h1, h2⟩ := X0.old b o h n;refine ⟨h1, fun q => ?_⟩
    rcases (rF I.len).mp q with q | ⟨_, q⟩
    ·exact h2 q
    ·subst q; rw [h0] at h; cases h
   ids := fun n b h => by
    have := X0.ids n b h;rw [aR (aJ.mp this).1]; exact this }
  have hS : ∀ b, jA B (φ ++ [a]) (S ++ [.lst ds]) b -> jA (iZ B a) φ S b := fun b q => by
   rcases q with q | q
   ·exact .inl (.inl q)
   ·rcases (rF I.len).mp q with q | ⟨_, q⟩
    ·exact .inr q
    ·exact .inl (.inr q)
  have k : Kp (jA (iZ B a) φ S) H (jA B (φ ++ [a]) (S ++ [.lst ds])) H := ⟨fun b o h n => ⟨h, fun q => n (hS b q)⟩, fun _ _ h => h⟩
  have hφ : ∀ (n : Nat) (b : Addr), φ[n]? = some b -> (φ ++ [a])[n]? = some b := fun n b h => by rw [aR (aJ.mp h).1]; exact h
  have hV : ∀ {d : Vl} {v : L2.V}, RepV K (iZ B a) φ S H d v -> RepV K B (φ ++ [a]) (S ++ [.lst ds]) H d v := fun {d v} r => by
   cases d with
   | dat d => exact Rep.kp k d v r
   | cel n => obtain ⟨b, e1, e2⟩ := r; exact ⟨b, e1, hφ _ _ e2⟩
   | cels ns => obtain ⟨a', as, e1, e2, e3, e4⟩ := r; exact ⟨a', as, e1, (k.old _ _ e3 e2).2, e3, EG hφ ns as e4⟩
   | scr ns => exact r
   | tc xs => obtain ⟨a', vs, e1, e2, e3⟩ := r; exact ⟨a', vs, e1, SqT.kp k.tup e2, e3.kp k hφ⟩
  have hF : ∀ {fs : List (Str × Vl)} {vs : List (Str × L2.V)}, RepF K (iZ B a) φ S H fs vs -> RepF K B (φ ++ [a]) (S ++ [.lst ds]) H fs vs := fun {fs} => by
   induction fs with
   | nil => intro vs r; exact r
   | cons f fs ih => rintro vs ⟨v, ws, e, h1, h2⟩; exact ⟨v, ws, e, hV h1, ih h2⟩
  refine f (φ ++ [a]) _ H ?_ X1 ⟨a, rfl, by rw [<- I.len]; exact mV⟩
  exact {
   len := by simp [I.len]
   ok := fun n c b h1 h2 => by
    by_cases hn : n < S.length
    ·rw [aR hn] at h1
     rw [aR (by rw [I.len]; exact hn)] at h2
     have q := I.ok n c b h1 h2;cases c with
     | dead => trivial
     | lst es => obtain ⟨us, e, r⟩ := q; exact ⟨us, e, RepL.kp k es us r⟩
     | ins C fs => obtain ⟨dx, us, e, r⟩ := q; exact ⟨dx, us, e, hF r⟩
     | dct fs => obtain ⟨us, e, r⟩ := q; exact ⟨us, e, hF r⟩
     | lv xs => obtain ⟨us, e, r⟩ := q; exact ⟨us, e, eX hV r⟩
     | dki ks xs => obtain ⟨us, e, r⟩ := q; exact ⟨us, e, eX hV r⟩
     | dkt ks xs => obtain ⟨us, e, r⟩ := q; exact ⟨us, e, eX hV r⟩
    ·have e : n = S.length := by
      have := (aJ.mp h1).1;simp at this;omega
     subst e;rw [bE (bR _)] at h1;rw [<- I.len, bE (bR _)] at h2;simp at h1 h2;subst h1 h2;exact ⟨vs, ha, RepL.kp k ds vs l⟩
   inj := fun n m c c' b h1 h2 h3 h4 h5 h6 => by
    have key : ∀ (n : Nat) (c : Cell), (S ++ [.lst ds])[n]? = some c -> (n < S.length /\ S[n]? = some c) \/ n = S.length := fun n c h => by
     by_cases hn : n < S.length
     ·rw [aR hn] at h; exact .inl ⟨hn, h⟩
     ·have := (aJ.mp h).1
      simp at this;exact .inr (by omega)
    have kφ : ∀ n : Nat, n < S.length -> (φ ++ [a])[n]? = φ[n]? := fun n hn => aR (by rw [I.len]; exact hn)
    have kp : (φ ++ [a])[S.length]? = some a := by rw [<- I.len]; simp
    rcases key n c h1 with ⟨hn, e1⟩ | e1 <;> rcases key m c' h3 with ⟨hm, e2⟩ | e2
    ·rw [kφ n hn] at h5
     rw [kφ m hm] at h6;exact I.inj n m c c' b e1 h2 e2 h4 h5 h6
    ·subst e2
     rw [kp] at h6;cases h6;rw [kφ n hn] at h5;exact absurd ⟨n, c, e1, h2, h5⟩ na
    ·subst e1
     rw [kp] at h5;cases h5;rw [kφ m hm] at h6;exact absurd ⟨m, c', e2, h4, h6⟩ na
    ·omega
   blk := fun b h => by
    rcases (rF I.len).mp h with h | ⟨_, h⟩
    ·exact fun q => I.blk b h (.inl q)
    ·subst h; exact nB
   btr := fun b h => I.btr b (.inl h) }
end
section
variable {X : Cx} {W : WX} {e a b c : Expr} {es rest : List Expr} {pos p q p2 : Pos} {x y z : Str} {K : aD} {ma mb mc : FE} {mt mu : FT} {mas : FA} {mi mj : FI} {B : Addr -> Prop} {φ φ' : List Addr} {S S' : aM} {H H' : Hp} {σ : L2.St} {Q : VK} {m n : FS} {st : Stmt} {sts : List Stmt} {D : Ends} {t t1 : Tg}
def gK : FT := fun _ S => .ok true S
theorem MX {Q : Bool -> Hp -> Prop} (h : tN K W gK σ H Q) : tYes σ H Q := by
 obtain ⟨B, φ, S, ρ, I, E, f⟩ := h;exact Fin.now (v := true) f I rfl
theorem Oa {es : List Expr} {t u : TT} (h : PTs X es t) (i : ∀ σ H Q, u σ H Q -> t σ H Q) : PTs X es u := ⟨fun pins s σ H Q I q => h.run pins s σ H Q I (i σ H Q q)⟩
theorem eR : PTs X [] (tN X.K W gK) := Oa pts_nil fun σ H Q h => MX h
theorem OA {c : Expr} (h : PT X c (tN X.K W mt)) : PTs X [c] (tN X.K W mt) := pts_one h
def nQ (t : Tg) (mt : FT) (me : FE) (ρ : Ev) : List PH.D -> aM -> Res (List PH.D)
 | [], S => .ok [] S
 | d :: r, S => match sJ t (.dat d) ρ with
  | none => .stuck
  | some ρ1 => match mt ρ1 S with
   | .ok b S1 => if b = true then (match me ρ1 S1 with
     | .ok (.dat e) S2 => (match nQ t mt me ρ r S2 with
      | .ok es S3 => .ok (e :: es) S3
      | _ => .stuck)
     | _ => .stuck) else nQ t mt me ρ r S1
   | _ => .stuck
def Bn (cl : Bool) (mi : FI) (t : Tg) (mt : FT) (me : FE) (vs : List Nat) : FE := fun ρ S => (mi ρ S).bind fun ds S1 => if ds.length <= sizeLine then (match nQ t mt me (wipeE ρ vs) ds S1 with
 | .ok es S2 => newL cl es S2
 | _ => .stuck) else .stuck
theorem K7 {cl : Bool} {me : FE} {vs : List Nat} (ht : ∀ i ∈ Jz t, i ∈ vs) (h : cY K W (Bn cl mi t mt me vs) σ H Q) : tLc (Hk K W mi) (HY K t) (tN K Dk mt) (cY K Dk me) vs σ H Q := by
 refine cA (k := fun ds ρ S1 => if ds.length <= sizeLine then (match nQ t mt me (wipeE ρ vs) ds S1 with | .ok es S2 => newL cl es S2 | _ => .stuck) else .stuck) h fun B φ0 S0 ρ ds J H0 I0 E0 r f0 => ?_
 intro A hA;split at f0
 case isFalse => exact f0.elim
 rename_i hsz;cases q0 : nQ t mt me (wipeE ρ vs) ds S0 with
 | stuck => rw [q0] at f0; exact f0.elim
 | err e S' => rw [q0] at f0; exact f0.elim
 | ok es0 Sz =>
 rw [q0] at f0;have nB : ¬ B A := fun q => by obtain ⟨u, e⟩ := I0.btr A q; rw [hA] at e; cases e
 have IA : GInv K (iZ B A) φ0 S0 (upd H0 A (.lst [])) := I0.plus hA;have b2 : ∀ a, H0 a ≠ none -> iZ B A a -> B a := fun b hb h => by
  rcases h with h | h
  ·exact h
  ·exact absurd (by rw [h]; exact hA) hb
 -- what is known at a turn
 refine ⟨fun i k H' => i <= ds.length /\ k = ds.length - i /\ ∃ φ1 S1 us acc rest, GInv K (iZ B A) φ1 S1 H' /\ Ext φ0 S0 H0 φ1 S1 H' /\ RepE K (iZ B A) φ1 S1 H' (wipeE ρ vs) (wipe σ vs) /\ H' A = some (.lst us) /\ us.length <= i /\ RepL K (jA (iZ B A) φ1 S1) H' acc us /\ nQ t mt me (wipeE ρ vs) (ds.drop i) S1 = .ok rest Sz /\ acc ++ rest = es0,
  ⟨_, dQ _, rfl, φ0, S0, [], [], es0, IA, Ext.new I0 hA, (E0.wipes vs).plus I0 hA, upd_same, bR _, rfl, q0, rfl⟩, ?_⟩
 rintro i k H' ⟨hi, rfl, φ1, S1, us, acc, rs, I1, X1, E1, hA1, hul, l1, g1, ea⟩
 obtain ⟨hgo, hstop, hyld⟩ := r φ1 S1 H' (iZ B A) I1 (X1.kpB (fun _ h => .inl h) b2 I0)
 by_cases hlt : i < ds.length
 ·refine .inr ⟨hgo i hlt, fun H2 => i + 1 <= ds.length /\ ∃ φ1 S1 us acc rest, GInv K (iZ B A) φ1 S1 H2 /\ Ext φ0 S0 H0 φ1 S1 H2 /\ RepE K (iZ B A) φ1 S1 H2 (wipeE ρ vs) (wipe σ vs) /\ H2 A = some (.lst us) /\ us.length <= i + 1 /\ RepL K (jA (iZ B A) φ1 S1) H2 acc us /\ nQ t mt me (wipeE ρ vs) (ds.drop (i + 1)) S1 = .ok rest Sz /\ acc ++ rest = es0, fun H2 ⟨h1, h2⟩ => ⟨ds.length - (i + 1), by omega, h1, rfl, h2⟩, fun x H2 y => ?_⟩
  have hd : ds[i]? = some ds[i] := by simp [hlt]
  obtain ⟨I2, X2, r2⟩ := hyld i x H2 ds[i] hd y;rw [fY hlt] at g1;unfold nQ at g1;split at g1
  case h_1 => cases g1
  rename_i ρ2 q2;have hA2 := (X2.old A _ hA1 fun q => I1.blk A q (.inr rfl)).1
  refine B4 (E1.ext X2 I1) (d := .dat ds[i]) r2 q2 fun ws E3 => ⟨by rw [yW ht, yV], iZ B A, φ1, S1, ρ2, I2, E3, ?_⟩
  split at g1
  case h_2 => cases g1
  rename_i b S3 q3;rw [q3];intro φ3 b' H3 I3 X3 rb;have rb : b' = b := rb;subst rb;have hA3 := (X3.old A _ hA2 fun q => I2.blk A q (.inr rfl)).1
  have Xa := X1.trans (X2.trans X3);cases b' with
  | false =>
   exact ⟨hlt, φ3, S3, us, acc, rs, I3, Xa, (E1.ext X2 I1).ext X3 I2, hA3, Nat.le_succ_of_le hul, X3.repL I2 (X2.repL I1 l1), g1, ea⟩
  | true =>
   rw [if_pos rfl];rw [if_pos rfl] at g1;refine ⟨iZ B A, φ3, S3, ρ2, I3, E3.ext X3 I2, ?_⟩
   split at g1
   case h_2 => cases g1
   rename_i e S4 q4;rw [q4];intro φ4 v4 H4 I4 X4 r4;have hA4 := (X4.old A _ hA3 fun q => I3.blk A q (.inr rfl)).1
   split at g1
   case h_2 => cases g1
   rename_i es S5 q5;cases g1;have l4 : RepL K (jA (iZ B A) φ4 S4) H4 (acc ++ [e]) (us ++ [v4]) := (X4.repL I3 (X3.repL I2 (X2.repL I1 l1))).snoc r4;refine ⟨us, hA4, by omega, hlt, φ4, S4, us ++ [v4], acc ++ [e], es, I4.plusPut hA4, ?_, (((E1.ext X2 I1).ext X3 I2).ext X4 I3).plusPut hA4, upd_same, by simp; omega, RepL.kp (Kp.plusPut hA4) _ _ l4, q5, by rw [<- ea]; simp⟩
   exact ⟨fun b o h nb => by
    obtain ⟨h1, h2⟩ := (Xa.trans X4).old b o h nb;exact ⟨by rw [upd_ne (fun e => by subst e; rw [hA] at h; cases h)]; exact h1, h2⟩, (Xa.trans X4).ids⟩
 ·have e : i = ds.length := by omega
  subst e;rw [sW] at g1;cases g1;rw [dN] at ea;subst ea;exact .inl ⟨hstop, Fin.done f0 I1 X1 hA nB hA1 l1⟩
theorem wG {cl : Bool} {me : FE} {elt tg iter : Expr} {ifs : List Expr} {scope : Scope} {own : List (Str × Nat)} (hc : X.calm = true) (hN : X.N.Nodup) (hi : PI X tg iter (Hk X.K W mi)) (ok : BlkOk X.N X.env.scope scope own)
  (hg : ∀ (s : Shared) (H : Hp) (C : Addr) (cl : List (Str × Addr)) (fp : List Addr), PG (X.blk s H scope (compEnvC scope cl C X.env) fp) tg (HY X.K t)) (ht : ∀ (s : Shared) (H : Hp) (C : Addr) (cl : List (Str × Addr)) (fp : List Addr), PTs (X.blk s H scope (compEnvC scope cl C X.env) fp) ifs (tN X.K Dk mt))
  (he : ∀ (s : Shared) (H : Hp) (C : Addr) (cl : List (Str × Addr)) (fp : List Addr), PE (X.blk s H scope (compEnvC scope cl C X.env) fp) elt (cY X.K Dk me)) (hs : ∀ x, foldedSetIterable iter X.env x = pure x := by intro _; rfl) (hv : ∀ i ∈ Jz t, i ∈ own.map (·.2) := by decide) :
  PE X (.ListComp elt [⟨tg, iter, ifs, 0⟩] scope pos) (cY X.K W (Bn cl mi t mt me (own.map (·.2)))) := cP (pe_lc hc hN hi ok hg ht he hs) fun σ H Q h => K7 hv h
theorem Ln {i : Nat} {y : Str} {py : Pos} {cl : Bool} {me : FE} {elt tg iter : Expr} {ifs : List Expr} {scope : Scope} {own : List (Str × Nat)} {spos : Pos} (hc : X.calm = true) (hN : X.N.Nodup) (hy : X.N[i]? = some y) (hyl : X.env.scope.names.lookup y = some .local)
  (hsw : swapsWith (.ListComp elt [⟨tg, iter, ifs, 0⟩] scope pos) (some (.Name y py)) spos.line X.env = pure true) (hi : PI X tg iter (Hk X.K W mi)) (ok : BlkOk X.N X.env.scope scope own)
  (hg : ∀ (s : Shared) (H : Hp) (C : Addr) (cl : List (Str × Addr)) (fp : List Addr), PG (X.blk s H scope (compEnvC scope cl C X.env) fp) tg (HY X.K t)) (ht : ∀ (s : Shared) (H : Hp) (C : Addr) (cl : List (Str × Addr)) (fp : List Addr), PTs (X.blk s H scope (compEnvC scope cl C X.env) fp) ifs (tN X.K Dk mt))
  (he : ∀ (s : Shared) (H : Hp) (C : Addr) (cl : List (Str × Addr)) (fp : List Addr), PE (X.blk s H scope (compEnvC scope cl C X.env) fp) elt (cY X.K Dk me)) (hs : ∀ x, foldedSetIterable iter X.env x = pure x := by intro _; rfl) (hv : ∀ i ∈ Jz t, i ∈ own.map (·.2) := by decide) :
  PS X (.Assign [.Name y py] (.ListComp elt [⟨tg, iter, ifs, 0⟩] scope pos) spos) (hW X.K W (bL (Bn cl mi t mt me (own.map (·.2))) (.nm i))) := fE (ps_setLc hc hN hy hyl hsw hi ok hg ht he hs) fun D σ H h => by
 obtain ⟨B, φ, S, ρ, I, E, f⟩ := h;refine K7 hv (cN I E f fun φ' S' d v H1 I1 X1 E1 r f1 => ?_)
 exact f1 φ' _ H1 I1 Ext.refl (E1.set r i)
end
section
variable {X : Cx} {W : WX} {e a b c o i : Expr} {es rest : List Expr} {pos p q p2 tpos apos cpos : Pos} {x y z : Str} {K : aD} {ma mb mc mo mx : FE} {mt mt1 mu : FT} {mas : FA} {mi mj : FI} {B : Addr -> Prop} {φ φ' : List Addr} {S S' : aM} {H H' : Hp} {σ : L2.St} {Q : VK} {m n : FS} {st : Stmt} {sts : List Stmt} {D : Ends} {t t1 : Tg}
def AK (t : Tg) (mt : FT) (mj : FI) (t1 : Tg) (mt1 : FT) (me : FE) (vs1 : List Nat) (ρ : Ev) : List PH.D -> aM -> Res (List PH.D)
 | [], S => .ok [] S
 | d :: r, S => match sJ t (.dat d) ρ with
  | none => .stuck
  | some ρ1 => match mt ρ1 S with
   | .ok b S1 => if b = true then (match mj ρ1 S1 with
     | .ok ds1 S2 => (match nQ t1 mt1 me (wipeE ρ1 vs1) ds1 S2 with
      | .ok xs S3 => (match AK t mt mj t1 mt1 me vs1 ρ r S3 with
       | .ok ys S4 => .ok (xs ++ ys) S4
       | _ => .stuck)
      | _ => .stuck)
     | _ => .stuck) else AK t mt mj t1 mt1 me vs1 ρ r S1
   | _ => .stuck
def J3 (cl : Bool) (mi : FI) (t : Tg) (mt : FT) (mj : FI) (t1 : Tg) (mt1 : FT) (me : FE) (vs vs1 : List Nat) : FE := fun ρ S => (mi ρ S).bind fun ds S1 => match AK t mt mj t1 mt1 me vs1 (wipeE ρ vs) ds S1 with
 | .ok es S2 => if es.length <= sizeLine then newL cl es S2 else .stuck
 | _ => .stuck
theorem HZ {cl : Bool} {me : FE} {vs vs1 : List Nat} (ht : ∀ i ∈ Jz t, i ∈ vs) (ht1 : ∀ i ∈ Jz t1, i ∈ vs1) (h : cY K W (J3 cl mi t mt mj t1 mt1 me vs vs1) σ H Q) : tLc2 (Hk K W mi) (HY K t) (tN K Dk mt) (Hk K Dk mj) (HY K t1) (tN K Dk mt1) (cY K Dk me) vs vs1 σ H Q := by
 refine cA (k := fun ds ρ S1 => match AK t mt mj t1 mt1 me vs1 (wipeE ρ vs) ds S1 with | .ok es S2 => if es.length <= sizeLine then newL cl es S2 else .stuck | _ => .stuck) h fun B φ0 S0 ρ ds J H0 I0 E0 r f0 => ?_
 intro A hA;cases q0 : AK t mt mj t1 mt1 me vs1 (wipeE ρ vs) ds S0 with
 | stuck => rw [q0] at f0; exact f0.elim
 | err e S' => rw [q0] at f0; exact f0.elim
 | ok es0 Sz =>
 rw [q0] at f0;dsimp only at f0;split at f0
 case isFalse => exact f0.elim
 rename_i hsz;have nB : ¬ B A := fun q => by obtain ⟨u, e⟩ := I0.btr A q; rw [hA] at e; cases e
 have IA : GInv K (iZ B A) φ0 S0 (upd H0 A (.lst [])) := I0.plus hA;have b2 : ∀ a, H0 a ≠ none -> iZ B A a -> B a := fun b hb h => by
  rcases h with h | h
  ·exact h
  ·exact absurd (by rw [h]; exact hA) hb
 refine ⟨fun i k H' => i <= ds.length /\ k = ds.length - i /\ ∃ φ1 S1 us acc rest, GInv K (iZ B A) φ1 S1 H' /\ Ext φ0 S0 H0 φ1 S1 H' /\ RepE K (iZ B A) φ1 S1 H' (wipeE ρ vs) (wipe σ vs) /\ H' A = some (.lst us) /\ RepL K (jA (iZ B A) φ1 S1) H' acc us /\ AK t mt mj t1 mt1 me vs1 (wipeE ρ vs) (ds.drop i) S1 = .ok rest Sz /\ acc ++ rest = es0,
  ⟨_, dQ _, rfl, φ0, S0, [], [], es0, IA, Ext.new I0 hA, (E0.wipes vs).plus I0 hA, upd_same, rfl, q0, rfl⟩, ?_⟩
 rintro i k H' ⟨hi, rfl, φ1, S1, us, acc, rs, I1, X1, E1, hA1, l1, g1, ea⟩
 obtain ⟨hgo, hstop, hyld⟩ := r φ1 S1 H' (iZ B A) I1 (X1.kpB (fun _ h => .inl h) b2 I0)
 by_cases hlt : i < ds.length
 ·refine .inr ⟨hgo i hlt, fun H2 => i + 1 <= ds.length /\ ∃ φ1 S1 us acc rest, GInv K (iZ B A) φ1 S1 H2 /\ Ext φ0 S0 H0 φ1 S1 H2 /\ RepE K (iZ B A) φ1 S1 H2 (wipeE ρ vs) (wipe σ vs) /\ H2 A = some (.lst us) /\ RepL K (jA (iZ B A) φ1 S1) H2 acc us /\ AK t mt mj t1 mt1 me vs1 (wipeE ρ vs) (ds.drop (i + 1)) S1 = .ok rest Sz /\ acc ++ rest = es0, fun H2 ⟨h1, h2⟩ => ⟨ds.length - (i + 1), by omega, h1, rfl, h2⟩, fun x H2 y => ?_⟩
  have hd : ds[i]? = some ds[i] := by simp [hlt]
  obtain ⟨I2, X2, r2⟩ := hyld i x H2 ds[i] hd y;rw [fY hlt] at g1;unfold AK at g1;split at g1
  case h_1 => cases g1
  rename_i ρ2 q2;have hA2 := (X2.old A _ hA1 fun q => I1.blk A q (.inr rfl)).1
  refine B4 (E1.ext X2 I1) (d := .dat ds[i]) r2 q2 fun ws E3 => ⟨by rw [yW ht, yV], iZ B A, φ1, S1, ρ2, I2, E3, ?_⟩
  split at g1
  case h_2 => cases g1
  rename_i b S3 q3;rw [q3];intro φ3 b' H3 I3 X3 rb;have rb : b' = b := rb;subst rb;have hA3 := (X3.old A _ hA2 fun q => I2.blk A q (.inr rfl)).1
  have Xa := X1.trans (X2.trans X3);cases b' with
  | false =>
   exact ⟨hlt, φ3, S3, us, acc, rs, I3, Xa, (E1.ext X2 I1).ext X3 I2, hA3, X3.repL I2 (X2.repL I1 l1), g1, ea⟩
  | true =>
   rw [if_pos rfl];rw [if_pos rfl] at g1;refine ⟨iZ B A, φ3, S3, ρ2, I3, E3.ext X3 I2, ?_⟩
   split at g1
   case h_2 => cases g1
   rename_i ds1 S4 q4;rw [q4];intro φ4 J1 H4 I4 X4 rJ;split at g1
   case h_2 => cases g1
   rename_i xs S5 q5;split at g1
   case h_2 => cases g1
   rename_i ys S6 q6;cases g1;have hA4 := (X4.old A _ hA3 fun q => I3.blk A q (.inr rfl)).1
   have Xb := Xa.trans X4;have Eo := (((E1.ext X2 I1).ext X3 I2).ext X4 I3);have Ei := ((E3.ext X3 I2).ext X4 I3);refine ⟨fun j k H' => j <= ds1.length /\ k = ds1.length - j /\ ∃ φ5 S5' us acc rest, GInv K (iZ B A) φ5 S5' H' /\ Kp (jA (iZ B A) φ4 S4) H4 (jA (iZ B A) φ5 S5') H' /\ Ext φ0 S0 H0 φ5 S5' H' /\ RepE K (iZ B A) φ5 S5' H' (wipeE ρ vs) (wipe σ vs) /\ RepE K (iZ B A) φ5 S5' H' (wipeE ρ2 vs1) (wipe (K1 t x ws (wipe σ vs)) vs1) /\ H' A = some (.lst us) /\ RepL K (jA (iZ B A) φ5 S5') H' acc us /\ nQ t1 mt1 me (wipeE ρ2 vs1) (ds1.drop j) S5' = .ok rest S5 /\ acc ++ rest ++ ys = es0,
    ⟨_, dQ _, rfl, φ4, S4, us, acc, xs, I4, Ext.refl.kp I4, Xb, Eo, Ei.wipes vs1, hA4, X4.repL I3 (X3.repL I2 (X2.repL I1 l1)), q5, by rw [<- ea]; simp⟩, ?_⟩
   rintro j k H5 ⟨hj, rfl, φ5, S5', us5, acc5, rs5, I5, X5, X5', E5, E5', hA5, l5, g5, ea5⟩
   obtain ⟨hgo1, hstop1, hyld1⟩ := rJ φ5 S5' H5 (iZ B A) I5 X5
   by_cases hlt1 : j < ds1.length
   ·refine .inr ⟨hgo1 j hlt1, fun H6 => j + 1 <= ds1.length /\ ∃ φ5 S5' us acc rest, GInv K (iZ B A) φ5 S5' H6 /\ Kp (jA (iZ B A) φ4 S4) H4 (jA (iZ B A) φ5 S5') H6 /\ Ext φ0 S0 H0 φ5 S5' H6 /\ RepE K (iZ B A) φ5 S5' H6 (wipeE ρ vs) (wipe σ vs) /\ RepE K (iZ B A) φ5 S5' H6 (wipeE ρ2 vs1) (wipe (K1 t x ws (wipe σ vs)) vs1) /\ H6 A = some (.lst us) /\ RepL K (jA (iZ B A) φ5 S5') H6 acc us /\ nQ t1 mt1 me (wipeE ρ2 vs1) (ds1.drop (j + 1)) S5' = .ok rest S5 /\ acc ++ rest ++ ys = es0, fun H6 ⟨h1, h2⟩ => ⟨ds1.length - (j + 1), by omega, h1, rfl, h2⟩, fun x1 H6 y1 => ?_⟩
    have hd1 : ds1[j]? = some ds1[j] := by simp [hlt1]
    obtain ⟨I6, X6, r6⟩ := hyld1 j x1 H6 ds1[j] hd1 y1;rw [fY hlt1] at g5;unfold nQ at g5;split at g5
    case h_1 => cases g5
    rename_i ρ7 q7;have hA6 := (X6.old A _ hA5 fun q => I5.blk A q (.inr rfl)).1
    refine B4 (E5'.ext X6 I5) (d := .dat ds1[j]) r6 q7 fun ws1 E7 => ⟨by rw [yW ht1, yV], iZ B A, φ5, S5', ρ7, I6, E7, ?_⟩
    split at g5
    case h_2 => cases g5
    rename_i b8 S8 q8;rw [q8];intro φ8 b8' H8 I8 X8 rb8;have rb8 : b8' = b8 := rb8;subst rb8;have hA8 := (X8.old A _ hA6 fun q => I6.blk A q (.inr rfl)).1
    have Xc := X6.trans X8;cases b8' with
    | false =>
     exact ⟨hlt1, φ8, S8, us5, acc5, rs5, I8, X5.trans (Xc.kp I5), X5'.trans Xc, (E5.ext X6 I5).ext X8 I6, (E5'.ext X6 I5).ext X8 I6, hA8, X8.repL I6 (X6.repL I5 l5), g5, ea5⟩
    | true =>
     rw [if_pos rfl];rw [if_pos rfl] at g5;refine ⟨iZ B A, φ8, S8, ρ7, I8, E7.ext X8 I6, ?_⟩
     split at g5
     case h_2 => cases g5
     rename_i e9 S9 q9;rw [q9];intro φ9 v9 H9 I9 X9 r9;have hA9 := (X9.old A _ hA8 fun q => I8.blk A q (.inr rfl)).1
     split at g5
     case h_2 => cases g5
     rename_i es10 S10 q10;cases g5;have l9 : RepL K (jA (iZ B A) φ9 S9) H9 (acc5 ++ [e9]) (us5 ++ [v9]) := (X9.repL I8 (X8.repL I6 (X6.repL I5 l5))).snoc r9;have hus : us5.length < sizeLine := by
      have := l5.len;have h2 := congrArg Jr ea5;simp at h2;omega
     have up : ∀ {φz Sz Hz}, Hz A = none -> Ext φz Sz Hz φ9 S9 H9 -> Ext φz Sz Hz φ9 S9 (upd H9 A (.lst (us5 ++ [v9]))) := fun {φz Sz Hz} hz Xz => ⟨fun b o h nb => by
      obtain ⟨h1, h2⟩ := Xz.old b o h nb;exact ⟨by rw [upd_ne (fun e => by subst e; rw [hz] at h; cases h)]; exact h1, h2⟩, Xz.ids⟩
     refine ⟨us5, hA9, hus, hlt1, φ9, S9, us5 ++ [v9], acc5 ++ [e9], es10, I9.plusPut hA9, (X5.trans ((Xc.trans X9).kp I5)).trans (Kp.plusPut hA9), up hA ((X5'.trans Xc).trans X9), (((E5.ext X6 I5).ext X8 I6).ext X9 I8).plusPut hA9, (((E5'.ext X6 I5).ext X8 I6).ext X9 I8).plusPut hA9, upd_same, RepL.kp (Kp.plusPut hA9) _ _ l9, q10, by rw [<- ea5]; simp⟩
   ·have e : j = ds1.length := by omega
    subst e;rw [sW] at g5;cases g5;rw [dN] at ea5;exact .inl ⟨hstop1, hlt, φ5, S5, us5, acc5, ys, I5, X5', E5, hA5, l5, q6, ea5⟩
 ·have e : i = ds.length := by omega
  subst e;rw [sW] at g1;cases g1;rw [dN] at ea;subst ea;exact .inl ⟨hstop, Fin.done f0 I1 X1 hA nB hA1 l1⟩
theorem f_lc2 {cl : Bool} {me : FE} {elt tg iter tg1 iter1 : Expr} {ifs ifs1 : List Expr} {scope : Scope} {own : List (Str × Nat)} {vs1 : List Nat} (hc : X.calm = true) (hN : X.N.Nodup) (hi : PI X tg iter (Hk X.K W mi)) (ok : BlkOk X.N X.env.scope scope own) (hv : ∀ i ∈ vs1, i ∈ own.map (·.2))
  (hg : ∀ (s : Shared) (H : Hp) (C : Addr) (cl : List (Str × Addr)) (fp : List Addr), PG (X.blk s H scope (compEnvC scope cl C X.env) fp) tg (HY X.K t)) (ht : ∀ (s : Shared) (H : Hp) (C : Addr) (cl : List (Str × Addr)) (fp : List Addr), PTs (X.blk s H scope (compEnvC scope cl C X.env) fp) ifs (tN X.K Dk mt))
  (hi1 : ∀ (s : Shared) (H : Hp) (C : Addr) (cl : List (Str × Addr)) (fp : List Addr), PI (X.blk s H scope (compEnvC scope cl C X.env) fp) tg1 iter1 (Hk X.K Dk mj))
  (hg1 : ∀ (s : Shared) (H : Hp) (C : Addr) (cl : List (Str × Addr)) (fp : List Addr), PG (X.blk s H scope (compEnvC scope cl C X.env) fp) tg1 (HY X.K t1)) (ht1 : ∀ (s : Shared) (H : Hp) (C : Addr) (cl : List (Str × Addr)) (fp : List Addr), PTs (X.blk s H scope (compEnvC scope cl C X.env) fp) ifs1 (tN X.K Dk mt1))
  (he : ∀ (s : Shared) (H : Hp) (C : Addr) (cl : List (Str × Addr)) (fp : List Addr), PE (X.blk s H scope (compEnvC scope cl C X.env) fp) elt (cY X.K Dk me)) (hs : ∀ x, foldedSetIterable iter X.env x = pure x := by intro _; rfl) (hs1 : ∀ env x, foldedSetIterable iter1 env x = pure x := by intro _ _; rfl)
  (hv0 : ∀ i ∈ Jz t, i ∈ own.map (·.2) := by decide) (hv1 : ∀ i ∈ Jz t1, i ∈ vs1 := by decide) :
  PE X (.ListComp elt [⟨tg, iter, ifs, 0⟩, ⟨tg1, iter1, ifs1, 0⟩] scope pos) (cY X.K W (J3 cl mi t mt mj t1 mt1 me (own.map (·.2)) vs1)) := cP (pe_lc2 hc hN hi ok hv hg ht hi1 hg1 ht1 he hs hs1) fun σ H Q h => HZ hv0 hv1 h
theorem JZ {i : Nat} {y : Str} {py : Pos} {cl : Bool} {me : FE} {elt tg iter tg1 iter1 : Expr} {ifs ifs1 : List Expr} {scope : Scope} {own : List (Str × Nat)} {vs1 : List Nat} {spos : Pos} (hc : X.calm = true) (hN : X.N.Nodup) (hy : X.N[i]? = some y) (hyl : X.env.scope.names.lookup y = some .local)
  (hsw : swapsWith (.ListComp elt [⟨tg, iter, ifs, 0⟩, ⟨tg1, iter1, ifs1, 0⟩] scope pos) (some (.Name y py)) spos.line X.env = pure true) (hi : PI X tg iter (Hk X.K W mi)) (ok : BlkOk X.N X.env.scope scope own) (hv : ∀ i ∈ vs1, i ∈ own.map (·.2))
  (hg : ∀ (s : Shared) (H : Hp) (C : Addr) (cl : List (Str × Addr)) (fp : List Addr), PG (X.blk s H scope (compEnvC scope cl C X.env) fp) tg (HY X.K t)) (ht : ∀ (s : Shared) (H : Hp) (C : Addr) (cl : List (Str × Addr)) (fp : List Addr), PTs (X.blk s H scope (compEnvC scope cl C X.env) fp) ifs (tN X.K Dk mt))
  (hi1 : ∀ (s : Shared) (H : Hp) (C : Addr) (cl : List (Str × Addr)) (fp : List Addr), PI (X.blk s H scope (compEnvC scope cl C X.env) fp) tg1 iter1 (Hk X.K Dk mj))
  (hg1 : ∀ (s : Shared) (H : Hp) (C : Addr) (cl : List (Str × Addr)) (fp : List Addr), PG (X.blk s H scope (compEnvC scope cl C X.env) fp) tg1 (HY X.K t1)) (ht1 : ∀ (s : Shared) (H : Hp) (C : Addr) (cl : List (Str × Addr)) (fp : List Addr), PTs (X.blk s H scope (compEnvC scope cl C X.env) fp) ifs1 (tN X.K Dk mt1))
  (he : ∀ (s : Shared) (H : Hp) (C : Addr) (cl : List (Str × Addr)) (fp : List Addr), PE (X.blk s H scope (compEnvC scope cl C X.env) fp) elt (cY X.K Dk me)) (hs : ∀ x, foldedSetIterable iter X.env x = pure x := by intro _; rfl) (hs1 : ∀ env x, foldedSetIterable iter1 env x = pure x := by intro _ _; rfl)
  (hv0 : ∀ i ∈ Jz t, i ∈ own.map (·.2) := by decide) (hv1 : ∀ i ∈ Jz t1, i ∈ vs1 := by decide) :
  PS X (.Assign [.Name y py] (.ListComp elt [⟨tg, iter, ifs, 0⟩, ⟨tg1, iter1, ifs1, 0⟩] scope pos) spos) (hW X.K W (bL (J3 cl mi t mt mj t1 mt1 me (own.map (·.2)) vs1) (.nm i))) := fE (ps_setLc2 hc hN hy hyl hsw hi ok hv hg ht hi1 hg1 ht1 he hs hs1) fun D σ H h => by
 obtain ⟨B, φ, S, ρ, I, E, f⟩ := h;refine HZ hv0 hv1 (cN I E f fun φ' S' d v H1 I1 X1 E1 r f1 => ?_)
 exact f1 φ' _ H1 I1 Ext.refl (E1.set r i)
def EV (x y : Vl) (S : aM) : Res Vl := match x, y with
 | .cel n, .dat d => (match S[n]? with
  | some (.lst ds) => if ds.length < sizeLine then .ok (.dat .non) (S.set n (.lst (ds ++ [d]))) else .stuck
  | _ => .stuck)
 | _, _ => .stuck
theorem yF {n : Nat} {ds ds' : List PH.D} {v v' : L2.V} {d' : Vl} {vs vs' : List L2.V} {a : Addr} (I : GInv K B φ S H) (hn : S[n]? = some (.lst ds)) (ha : φ[n]? = some a) (l : RepL K (jA B φ S) H ds' vs') (r : RepV K B φ S H d' v')
  (f : Fin K W σ (RepV K) B φ S H (.ok d' (S.set n (.lst ds'))) Q) : Q v' (upd H a (.lst vs')) := by
 have X1 := Ext.put (H := H) (o := .lst vs') (x := .lst ds') hn (by simp) ha (by simp)
 have I1 : GInv K B φ (S.set n (.lst ds')) (upd H a (.lst vs')) := I.put hn (by simp) ha (by simp) ⟨vs', upd_same, X1.repL I l⟩
 exact f φ v' _ I1 X1 (r.ext X1 I)
theorem Pp : ∀ {x : L2.V} {y : L2.V} {d e : Vl}, GInv K B φ S H -> RepV K B φ S H d x -> RepV K B φ S H e y -> Fin K W σ (RepV K) B φ S H (EV d e S) Q -> IQ x [y] H Q := fun {x y d e} I r1 r2 f => by
 unfold EV at f;split at f
 ·rename_i n d
  obtain ⟨a, rfl, h1⟩ := r1;split at f
  ·rename_i ds q
   obtain ⟨vs, h2, l⟩ := I.ok n _ a q h1;split at f
   ·rename_i hl
    exact ⟨vs, h2, by rw [l.len]; exact hl, yF (v := .non) (v' := .non) (d' := .dat .non) (vs := vs) I q h1 (l.snoc r2) rfl f⟩
   ·exact f.elim
  ·exact f.elim
 ·exact f.elim
theorem Eb {d e : Vl} {v : L2.V} (I : GInv K B φ S H) (r : RepV K B φ S H d v) (h : ∃ ds, hG S d = some ds) : tyV K "list" v H := by
 obtain ⟨ds, q⟩ := h;obtain ⟨a, vs, rfl, h1, l⟩ := kQ I q r;exact .inl ⟨rfl, vs, SqL.of h1⟩
def vK (a b : FE) : FE := fun ρ S => (a ρ S).bind fun x S1 => match hG S1 x with
 | some _ => (b ρ S1).bind fun y S2 => EV x y S2
 | none => .stuck
theorem Fo (ha : PE X a (cY X.K W ma)) (hb : PE X b (cY X.K W mb)) (hs : starEach [b] X.env = (false, eval b X.env) :: starEach [] X.env := by rfl) (hbase : attributeBase a "append" X.env (eval a X.env) = eval a X.env := by rfl) (hline : (apos.endLine == cpos.line) = true := by rfl)
  (hfew : ((backTo cpos (starEach [b] X.env)).all (fun x => !x.1) && (backToKw cpos (keywordEach [] X.env)).all (fun x => x.1.isSome)
   && decide ([b].length + ([] : List Keyword).length + (if ([] : List Keyword).isEmpty then 0 else 1) < 30)) = true := by rfl)
  (hpl : (backTo cpos (starEach ([] : List Expr) X.env)).any (·.1) = false := by rfl) : PE X (.Call (.Attribute a "append" apos) [b] [] cpos) (cY X.K W (vK ma mb)) :=
 cP (pe_bm PySem.F.plainAttrs_list PySem.F.slot_list_append PySem.F.type_list_append Gf ha (pa_cons hb pa_nil hs) hbase hfew hline hs hpl) fun σ H Q h =>
  cA (k := fun x ρ S1 => match hG S1 x with | some _ => (mb ρ S1).bind fun y S2 => EV x y S2 | none => .stuck) h fun B φ S ρ d v H1 I E r f => by
   split at f
   ·rename_i ds q
    exact ⟨Eb (e := d) I r ⟨ds, q⟩, iJ I E f fun φ' S' d2 v2 H2 I2 X2 E2 r2 f2 => Pp I2 (r.ext X2 I) r2 f2⟩
   ·exact f.elim
def fPop (x : Vl) (S : aM) : Res Vl := match x with
 | .cel n => (match S[n]? with
  | some (.lst ds) => (match ds[ds.length - 1]? with
   | some d => .ok (.dat d) (S.set n (.lst ds.dropLast))
   | none => .stuck)
  | _ => .stuck)
 | _ => .stuck
def setC (x : Vl) (k : Int) (d : PH.D) (S : aM) : Option aM := match x with
 | .cel n => (match S[n]? with
  | some (.lst ds) => if 0 <= k /\ k.toNat < ds.length then some (S.set n (.lst (ds.set k.toNat d))) else none
  | _ => none)
 | _ => none
theorem Hh {x : Vl} {k : Int} {d : PH.D} {v u : L2.V} {Qh : Hp -> Prop} (I : GInv K B φ S H) (r : RepV K B φ S H x v) (rd' : Rep K (jA B φ S) H d u) (h : setC x k d S = some S') (q : ∀ H', GInv K B φ S' H' -> Ext φ S H φ S' H' -> Qh H') : G0 v (.int k) u H Qh := by
 unfold setC at h;split at h
 ·rename_i n
  obtain ⟨a, rfl, h1⟩ := r;split at h
  ·rename_i ds q1
   split at h
   ·rename_i hk
    cases h;obtain ⟨vs, h2, l⟩ := I.ok n _ a q1 h1;have X1 := Ext.put (H := H) (o := .lst (vs.set k.toNat u)) (x := .lst (ds.set k.toNat d)) q1 (by simp) h1 (by simp)
    exact ⟨vs, h2, hk.1, by rw [l.len]; exact hk.2, q _ (I.put q1 (by simp) h1 (by simp) ⟨_, upd_same, X1.repL I (l.set rd' _)⟩) X1⟩
   ·cases h
  ·cases h
 ·cases h
def Hr (a o i : FE) : FS := fun ρ S => (a ρ S).toS ρ fun v S1 => (o ρ S1).toS ρ fun x S2 => (i ρ S2).toS ρ fun k S3 => match v, k with
 | .dat d, .dat (.int k) => (match setC x k d S3 with
  | some S4 => .next ρ S4
  | none => .stuck)
 | _, _ => .stuck
theorem OE (ha : PE X a (cY X.K W ma)) (ho : PE X o (cY X.K W mo)) (hi : PE X i (cY X.K W mx)) (hs : swapsWithSole [.Subscript o i tpos] a pos.line X.env = pure false := by rfl) (hw : swappedStores [.Subscript o i tpos] a X.env = pure none := by rfl)
  (h1 : (assignEach [.Subscript o i tpos] X.env).map (·.2) = [assign (.Subscript o i tpos) X.env] := by rfl)
  (hz : ∀ v, assign (.Subscript o i tpos) X.env v = (do
   let ov <- holding [v] (eval o X.env)
   let iv <- holding [v, ov] (eval i X.env)
   standAt tpos
   holding [v, ov, iv] (setItem ov iv v)
   release [v, ov, iv] []) := by intro _; rfl) : PS X (.Assign [.Subscript o i tpos] a pos) (hW X.K W (Hr ma mo mx)) := fE (ps_asg ha (pg_sub ho hi yY hz) hs hw h1) fun D σ H h => by
 obtain ⟨B, φ, S, ρ, I, E, f⟩ := h;refine cN I E f fun φ1 S1 d1 v1 H1 I1 X1 E1 r1 f1 => cN I1 E1 f1 fun φ2 S2 d2 v2 H2 I2 X2 E2 r2 f2 => cN I2 E2 f2 fun φ3 S3 d3 v3 H3 I3 X3 E3 r3 f3 => ?_
 split at f3
 ·rename_i d k
  cases r3;split at f3
  ·rename_i S4 q
   exact Hh I3 (r2.ext X3 I2) ((r1.ext X2 I1).ext X3 I2) q fun H' I' X' => f3 φ3 σ H' I' X' (E3.ext X' I3)
  ·exact f3.elim
 ·exact f3.elim
def L3 (x : Vl) (k : Int) (S : aM) : Option PH.D := match x with
 | .cel n => (match S[n]? with
  | some (.lst ds) => if 0 <= k then ds[k.toNat]? else none
  | _ => none)
 | _ => none
theorem NR {x : Vl} {k : Int} {d : PH.D} {v : L2.V} {Q' : VK} (I : GInv K B φ S H) (r : RepV K B φ S H x v) (h : L3 x k S = some d) (q : ∀ u, Rep K (jA B φ S) H d u -> Q' u H) : IP v (.int k) H Q' := by
 unfold L3 at h;split at h
 ·rename_i n
  obtain ⟨a, rfl, h1⟩ := r;split at h
  ·rename_i ds q1
   split at h
   ·rename_i hk
    obtain ⟨vs, h2, l⟩ := I.ok n _ a q1 h1;obtain ⟨u, h3, h4⟩ := l.get h;exact ⟨vs, u, h2, hk, h3, q u h4⟩
   ·cases h
  ·cases h
 ·cases h
def lB (g : Int -> Int -> Int) (o i e : FE) : FS := fun ρ S => (o ρ S).toS ρ fun x S1 => (i ρ S1).toS ρ fun k S2 => match k with
 | .dat (.int k) => (match L3 x k S2 with
  | some (.int u) => (e ρ S2).toS ρ fun w S3 => (match w with
   | .dat (.int w) => (match setC x k (.int (g u w)) S3 with
    | some S4 => .next ρ S4
    | none => .stuck)
   | _ => .stuck)
  | _ => .stuck)
 | _ => .stuck
theorem Ew {g : Int -> Int -> Int} {r : R2} {me : FE} (hr : ∀ i j H Q, Q (.int (g i j)) H -> r (.int i) (.int j) H Q) (h : hW K W (lB g mo mx me) D σ H) : tAugS (cY K W mo) (cY K W mx) (cY K W me) IP (cIp r) G0 D σ H := by
 obtain ⟨B, φ, S, ρ, I, E, f⟩ := h;refine cN I E f fun φ1 S1 d1 v1 H1 I1 X1 E1 r1 f1 => cN I1 E1 f1 fun φ2 S2 d2 v2 H2 I2 X2 E2 r2 f2 => ?_
 split at f2
 ·rename_i k
  cases r2;split at f2
  ·rename_i u q
   refine NR I2 (r1.ext X2 I1) q fun u' ru => ?_
   cases ru;refine cN I2 E2 f2 fun φ3 S3 d3 v3 H3 I3 X3 E3 r3 f3 => ?_
   split at f3
   ·rename_i w
    cases r3;split at f3
    ·rename_i S4 q4
     refine hr _ _ _ _ ?_
     exact Hh I3 ((r1.ext X2 I1).ext X3 I2) (d := .int (g u w)) rfl q4 fun H' I' X' => f3 φ3 σ H' I' X' (E3.ext X' I3)
    ·exact f3.elim
   ·exact f3.elim
  ·exact f2.elim
 ·exact f2.elim
theorem HH {me : FE} (ho : PE X o (cY X.K W mo)) (hi : PE X i (cY X.K W mx)) (he : PE X e (cY X.K W me)) (ha : ∀ ov iv new, augStore i ov iv new = (do holding [new, ov, iv] (setItem ov iv new); release [new, ov, iv] []; pure .next) := by intros; rfl) : PS X (.AugAssign (.Subscript o i tpos) .Add e pos) (hW X.K W (lB (fun x y => x + y) mo mx me)) :=
 fE (KF ho hi he ID ha) fun D σ H h => Ew (fun _ _ _ _ q => q) h
theorem oR {me : FE} (ho : PE X o (cY X.K W mo)) (hi : PE X i (cY X.K W mx)) (he : PE X e (cY X.K W me)) (ha : ∀ ov iv new, augStore i ov iv new = (do holding [new, ov, iv] (setItem ov iv new); release [new, ov, iv] []; pure .next) := by intros; rfl) : PS X (.AugAssign (.Subscript o i tpos) .Sub e pos) (hW X.K W (lB (fun x y => x - y) mo mx me)) :=
 fE (KF ho hi he NJ ha) fun D σ H h => Ew (fun _ _ _ _ q => q) h
def Kf (g : Int -> Int -> Int) (k : Nat) (e : FE) : FS := fun ρ S => match lk ρ k with
 | some (.dat (.int u)) => (e ρ S).toS ρ fun w S1 => (match w with
  | .dat (.int w) => .next (ρ.set k (some (.dat (.int (g u w))))) S1
  | _ => .stuck)
 | _ => .stuck
theorem Ma {g : Int -> Int -> Int} {k : Nat} {r : R2} {me : FE} (hr : ∀ i j H Q, Q (.int (g i j)) H -> r (.int i) (.int j) H Q) (h : hW K W (Kf g k me) D σ H) : tAug k (cY K W me) (cIp r) D σ H := by
 obtain ⟨B, φ, S, ρ, I, E, f⟩ := h;unfold Kf at f;split at f
 ·rename_i u q
  obtain ⟨v, h1, h2⟩ := E.2 k _ (FK q);cases h2;refine ⟨_, h1, cN I E f fun φ3 S3 d3 v3 H3 I3 X3 E3 r3 f3 => ?_⟩
  split at f3
  ·cases r3
   exact hr _ _ _ _ (f3 φ3 _ H3 I3 Ext.refl (E3.set (d := .dat (.int (g _ _))) (v := .int (g _ _)) rfl k))
  ·exact f3.elim
 ·exact f.elim
theorem Ja {k : Nat} {me : FE} {pos' : Pos} (hN : X.N.Nodup) (hi : X.N[k]? = some x) (hx : Loc X.env.scope x) (he : PE X e (cY X.K W me)) (hf : X.fn x = true \/ X.env.scope.names.lookup x = some .local := by first | exact .inl rfl | exact .inr rfl | assumption) : PS X (.AugAssign (.Name x pos') .Add e pos) (hW X.K W (Kf (fun x y => x + y) k me)) :=
 fE (ps_aug hN hi hx he ID hf) fun D σ H h => Ma (fun _ _ _ _ q => q) h
def mPar (i j : Nat) (a b : FE) : FS := fun ρ S => (a ρ S).toS ρ fun x S1 => (b ρ S1).toS ρ fun y S2 => .next ((ρ.set i (some x)).set j (some y)) S2
end
abbrev FD := List Vl -> aM -> Res Vl
def spF (K : aD) (m : FD) : Sp := fun vs H Q E => ∃ B φ S ds, GInv K B φ S H /\ RepVs K B φ S H ds vs /\ Fin K (fun c x _ H => E c x H) [] (RepV K) B φ S H (m ds S) Q
section
variable {X : Cx} {W : WX} {e a b c o i : Expr} {es rest : List Expr} {pos p q p2 tpos apos cpos : Pos} {x y z : Str} {K : aD} {ma mb mc mo mx : FE} {mt mt1 mu : FT} {mas : FA} {mi mj : FI} {B : Addr -> Prop} {φ φ' : List Addr} {S S' : aM} {H H' : Hp} {σ : L2.St} {Q : VK} {m n : FS} {st : Stmt} {sts : List Stmt} {D : Ends} {t t1 : Tg} {ps : List Str} {md : FD} {j k : Nat}
theorem Fin.toE {r : Res Vl} (f : Fin K W σ (RepV K) B φ S H r Q) : Fin K (fun c x _ H => WE W σ c x H) [] (RepV K) B φ S H r Q := by
 cases r with
 | ok d S' => exact f
 | err e S' => exact f
 | stuck => exact f
def aO (md : FD) (as : FA) : FE := fun ρ S => (as ρ S).bind md
theorem aN (F : lO X.prog X.w X.K X.mg X.base j x ps (spF X.K md)) (hr : Room k X.A) (tk : Takes X W) (ha : PA X (e :: es) (GG X.K W mas)) (hjk : j <= k := by decide) (hg : Gl X x := by rfl) (hdb : (x == ("__debug__" : Str)) = false := by decide)
  (he : starEach (e :: es) X.env = (false, eval e X.env) :: starEach es X.env := by rfl) (hpl : (backTo pos (starEach es X.env)).any (·.1) = false := by rfl) : PE X (.Call (.Name x p) (e :: es) [] pos) (cY X.K W (aO md mas)) := by
 obtain ⟨fd, F, hm, hk, hb⟩ := F;refine cP (pe_callS (E := WE W) F (hr.mono hjk) hg hm hk hb (fun σ => passAt tk σ) ha hdb he hpl) fun σ H Q h => ?_
 exact cA (k := fun ds _ S => md ds S) h fun B φ S ρ d v H1 I E r f => ⟨B, φ, S, d, I, r, f.toE⟩
def itB (n : Nat) : PH.D ⊕ Nat -> Bool
 | .inl _ => true
 | .inr m => decide (m < n)
def Vl.below (n : Nat) : Vl -> Bool
 | .dat _ => true
 | .cel m => decide (m < n)
 | .cels ms => ms.all fun m => decide (m < n)
 | .scr _ => true
 | .tc xs => xs.all (itB n)
def Cell.below (n : Nat) : Cell -> Bool
 | .dead => true
 | .lst _ => true
 | .ins _ fs => fs.all fun f => f.2.below n
 | .dct fs => fs.all fun f => f.2.below n
 | .lv xs => xs.all fun x => x.below n
 | .dki _ xs => xs.all fun x => x.below n
 | .dkt _ xs => xs.all fun x => x.below n
def trunc (n : Nat) (r : Res Vl) : Res Vl := match r with
 | .ok d S => if d.below n && ((S.take n).all fun c => c.below n) then .ok d (S.take n) else .stuck
 | .err e S => if (S.take n).all fun c => c.below n then .err e (S.take n) else .stuck
 | .stuck => .stuck
def cH : Out -> Res Vl
 | .ret d S => .ok d S
 | .next _ S => .ok (.dat .non) S
 | .err e _ S => .err e S
 | _ => .stuck
def envOf (n : Nat) (ds : List Vl) : Ev := ds.map some ++ wV (n - ds.length) none
def run (n np : Nat) (mb : FS) : FD := fun ds S => if ds.length = np then cH (mb (envOf n ds) S) else .stuck
def Ab (n np : Nat) (mb : FS) : FD := fun ds S => if ds.length = np then trunc S.length (cH (mb (envOf n ds) S)) else .stuck
theorem xA {α : Type} {n m : Nat} {l : List α} (h : m < n) : (l.take n)[m]? = l[m]? := by
 rw [dO, if_pos h]
theorem jY {n : Nat} {a : Addr} (h : lP (φ.take n) (S.take n) a) : lP φ S a := by
 obtain ⟨m, c, h1, h2, h3⟩ := h;rw [dO] at h1 h3
 by_cases hm : m < n
 ·rw [if_pos hm] at h1 h3; exact ⟨m, c, h1, h2, h3⟩
 ·rw [if_neg hm] at h1; cases h1
theorem RepIs.takeN {n : Nat} {K : aD} {Bk Bk' : Addr -> Prop} {φ : List Addr} {H : Hp} (k : Kp Bk H Bk' H) : ∀ {xs : List (PH.D ⊕ Nat)} {vs : List L2.V}, RepIs K Bk φ H xs vs -> xs.all (itB n) = true -> RepIs K Bk' (φ.take n) H xs vs
 | [], vs, r, _ => r
 | x :: xs, vs, ⟨v, ws, e, h1, h2⟩, h => by
  rw [fG, fJ] at h;refine ⟨v, ws, e, ?_, RepIs.takeN k h2 h.2⟩
  cases x with
  | inl d => exact Rep.kp k d v h1
  | inr m =>
   obtain ⟨b, q1, q2⟩ := h1;exact ⟨b, q1, by rw [xA (of_decide_eq_true h.1)]; exact q2⟩
theorem RepV.take {n : Nat} {d : Vl} {v : L2.V} (r : RepV K B φ S H d v) (h : d.below n = true) : RepV K B (φ.take n) (S.take n) H d v := by
 have k : Kp (jA B φ S) H (jA B (φ.take n) (S.take n)) H := ⟨fun b o h nb => ⟨h, fun q => nb (by
  rcases q with q | q
  ·exact .inl q
  ·exact .inr (jY q))⟩, fun _ _ h => h⟩
 cases d with
 | dat d => exact Rep.kp k d v r
 | cel m =>
  obtain ⟨a, e, h1⟩ := r;exact ⟨a, e, by rw [xA (of_decide_eq_true h)]; exact h1⟩
 | cels ms =>
  obtain ⟨a, as, e1, e2, e3, e4⟩ := r;refine ⟨a, as, e1, (k.old _ _ e3 e2).2, e3, ?_⟩
  rw [<- e4]
  apply kA
  intro m hm;exact xA (of_decide_eq_true (bZ.mp h m hm))
 | scr ns => exact r
 | tc xs => obtain ⟨a, vs, e1, e2, e3⟩ := r; exact ⟨a, vs, e1, SqT.kp k.tup e2, RepIs.takeN k e3 h⟩
theorem RepF.take {n : Nat} : ∀ {fs : List (Str × Vl)} {vs : List (Str × L2.V)}, RepF K B φ S H fs vs -> (fs.all fun f => f.2.below n) = true -> RepF K B (φ.take n) (S.take n) H fs vs
 | [], vs, r, _ => r
 | f :: fs, vs, ⟨v, ws, e, h1, h2⟩, h => by
  simp only [fG, fJ] at h;exact ⟨v, ws, e, h1.take h.1, RepF.take h2 h.2⟩
theorem RepVs.take {n : Nat} : ∀ {fs : List Vl} {vs : List L2.V}, RepVs K B φ S H fs vs -> (fs.all fun f => f.below n) = true -> RepVs K B (φ.take n) (S.take n) H fs vs
 | [], vs, r, _ => r
 | f :: fs, vs, ⟨v, ws, e, h1, h2⟩, h => by
  simp only [fG, fJ] at h;exact ⟨v, ws, e, h1.take h.1, RepVs.take h2 h.2⟩
theorem GInv.take {n : Nat} (I : GInv K B φ S H) (h : ((S.take n).all fun c => c.below n) = true) : GInv K B (φ.take n) (S.take n) H where
 len := by rw [nF, nF, I.len]
 ok := fun m c a h1 h2 => by
  have hc := bZ.mp h c (eK h1);rw [dO] at h1 h2
  by_cases hm : m < n
  ·rw [if_pos hm] at h1 h2
   have q := I.ok m c a h1 h2;have k : Kp (jA B φ S) H (jA B (φ.take n) (S.take n)) H := ⟨fun b o h nb => ⟨h, fun q => nb (by
    rcases q with q | q
    ·exact .inl q
    ·exact .inr (jY q))⟩, fun _ _ h => h⟩
   cases c with
   | dead => trivial
   | lst ds => obtain ⟨vs, e, r⟩ := q; exact ⟨vs, e, RepL.kp k ds vs r⟩
   | ins C fs => obtain ⟨dx, vs, e, r⟩ := q; exact ⟨dx, vs, e, r.take hc⟩
   | dct fs => obtain ⟨vs, e, r⟩ := q; exact ⟨vs, e, r.take hc⟩
   | lv xs => obtain ⟨vs, e, r⟩ := q; exact ⟨vs, e, r.take hc⟩
   | dki ks xs => obtain ⟨vs, e, r⟩ := q; exact ⟨vs, e, r.take hc⟩
   | dkt ks xs => obtain ⟨vs, e, r⟩ := q; exact ⟨vs, e, r.take hc⟩
  ·rw [if_neg hm] at h1; cases h1
 inj := fun i j d d' b h1 h2 h3 h4 h5 h6 => by
  rw [dO] at h1 h3 h5 h6
  by_cases hi : i < n
  ·by_cases hj : j < n
   ·rw [if_pos hi] at h1 h5
    rw [if_pos hj] at h3 h6;exact I.inj i j d d' b h1 h2 h3 h4 h5 h6
   ·rw [if_neg hj] at h3; cases h3
  ·rw [if_neg hi] at h1; cases h1
 blk := fun b h => I.blk b (jY h)
 btr := I.btr
theorem Ext.take {n : Nat} {φ0 : List Addr} {S0 : aM} {H0 : Hp} (x : Ext φ0 S0 H0 φ S H) (hn : φ0.length <= n) : Ext φ0 S0 H0 (φ.take n) (S.take n) H :=
 ⟨fun b o h nb => ⟨(x.old b o h nb).1, fun q => (x.old b o h nb).2 (jY q)⟩, fun m a h => by
  have := (aJ.mp h).1;rw [xA (by omega)]
  exact x.ids m a h⟩
theorem Fin.trunc {r : Res Vl} {n : Nat} (f : Fin K W σ (RepV K) B φ S H (PH.trunc n r) Q) (I : GInv K B φ S H) (hn : n = S.length) : Fin K W σ (RepV K) B φ S H r Q := by
 have hl : φ.length <= n := by rw [hn, I.len]; exact bR _
 cases r with
 | ok d S' =>
  unfold PH.trunc at f;dsimp only at f;split at f
  ·rename_i h
   obtain ⟨h1, h2⟩ := Bool.and_eq_true_iff.mp h;exact fun φ' v H' I' X' r' => f (φ'.take n) v H' (I'.take h2) (X'.take hl) (r'.take h1)
  ·exact f.elim
 | err e S' =>
  unfold PH.trunc at f;dsimp only at f;split at f
  ·rename_i h
   refine fun φ' c x H' I' X' r' => f (φ'.take n) c x H' (I'.take h) (X'.take hl) ⟨r'.1, ?_⟩
   rcases r'.2 with h0 | ⟨d, vs, e1, e2, e3⟩
   ·exact .inl h0
   ·refine .inr ⟨d, vs, e1, e2, RepL.kp ⟨fun b o h nb => ⟨h, fun q => nb (by
     rcases q with q | q
     ·exact .inl q
     ·exact .inr (jY q))⟩, fun _ _ h => h⟩ _ _ e3⟩
  ·exact f.elim
 | stuck => exact f
theorem M5 {ds : List Vl} {vs : List L2.V} {N : List Str} (r : RepVs K B φ S H ds vs) : RepE K B φ S H (envOf N.length ds) (start N vs) := by
 have hl := r.len;have hg : ∀ {ds : List Vl} {vs : List L2.V}, RepVs K B φ S H ds vs -> ∀ (i : Nat) (d : Vl), ds[i]? = some d -> ∃ v, vs[i]? = some v /\ RepV K B φ S H d v := fun {ds} => by
  induction ds with
  | nil => intro vs r i d h; simp at h
  | cons d ds ih =>
   rintro vs ⟨v, ws, e, h1, h2⟩ i d' h
   subst e;cases i with
   | zero => simp at h; subst h; exact ⟨v, rfl, h1⟩
   | succ i =>
    obtain ⟨v', h3, h4⟩ := ih h2 i d' (by simpa using h)
    exact ⟨v', by simpa using h3, h4⟩
 unfold envOf L2.start;refine ⟨by simp [hl], fun i d h => ?_⟩
 by_cases hi : i < ds.length
 ·rw [aR (by simpa using hi)] at h
  rw [aR (by simp [hl, hi])]
  rw [eN] at h ⊢;cases q : ds[i]? with
  | none => rw [q] at h; cases h
  | some d' =>
   rw [q] at h;have : d' = d := by simpa using h
   subst this;obtain ⟨v, h1, h2⟩ := hg r i d' q;exact ⟨v, by rw [h1]; rfl, h2⟩
 ·rw [bE (by simpa using sZ hi)] at h
  rw [List.getElem?_replicate] at h
  split at h <;> cases h
theorem Fm {mb : FS} {E : XK} {ds : List Vl} {vs : List L2.V} {N : List Str} (I : GInv K B φ S H) (r : RepVs K B φ S H ds vs) (f : Fin K (fun c x _ H => E c x H) [] (RepV K) B φ S H (cH (mb (envOf N.length ds) S)) Q) : hW K (fun c x _ H => E c x H) mb { nx := fun _ H' => Q .non H', rt := Q } (start N vs) H := by
 refine ⟨B, φ, S, envOf N.length ds, I, M5 r, ?_⟩
 unfold cH at f;cases q : mb (envOf N.length ds) S with
 | next ρ' S' => rw [q] at f; exact fun φ' σ' H' I' X' _ => f φ' _ H' I' X' rfl
 | ret d S' => rw [q] at f; exact f
 | brk ρ' S' => rw [q] at f; exact f.elim
 | cnt ρ' S' => rw [q] at f; exact f.elim
 | err e ρ' S' => rw [q] at f; exact fun φ' σ' c x H' I' X' _ r' => f φ' c x H' I' X' r'
 | stuck => rw [q] at f; exact f
end
section
variable {P : Program} {w : World} {K : aD} {mg : Str -> Option Value} {base : Heap}
structure Runs (md : FD) (n np : Nat) (mb : FS) : Prop where
 ok : ∀ ds S, ds.length = np -> md ds S = cH (mb (envOf n ds) S) \/ md ds S = trunc S.length (cH (mb (envOf n ds) S))
 no : ∀ ds S, ds.length ≠ np -> md ds S = .stuck
theorem Runs.plain {n np : Nat} {mb : FS} : Runs (run n np mb) n np mb := ⟨fun ds S h => .inl (by unfold run; rw [if_pos h]), fun ds S h => by unfold run; rw [if_neg h]⟩
theorem Runs.cut {n np : Nat} {mb : FS} : Runs (Ab n np mb) n np mb := ⟨fun ds S h => .inr (by unfold Ab; rw [if_pos h]), fun ds S h => by unfold Ab; rw [if_neg h]⟩
theorem An {md : FD} {n np : Nat} {mb : FS} (R : Runs md n np mb) : ∀ vs H Q E, spF K md vs H Q E -> vs.length = np := fun vs H Q E ⟨B, φ, S, ds, I, r, f⟩ => by
 rw [r.len]
 by_cases h : ds.length = np
 ·exact h
 ·rw [R.no ds S h] at f; exact f.elim
theorem xC {md : FD} {np : Nat} {mb : FS} {N : List Str} (R : Runs md N.length np mb) {vs : List L2.V} {H : Hp} {Q : VK} {E : XK} (h : spF K md vs H Q E) : hW K (fun c x _ H => E c x H) mb { nx := fun _ H' => Q .non H', rt := Q } (start N vs) H := by
 obtain ⟨B, φ, S, ds, I, r, f⟩ := h
 by_cases hl : ds.length = np
 ·rcases R.ok ds S hl with e | e
  ·rw [e] at f; exact Fm I r f
  ·rw [e] at f; exact Fm I r (Fin.trunc f I rfl)
 ·rw [R.no ds S hl] at f; exact f.elim
theorem okF {x : Str} {st : Stmt} {N ps : List Str} {k : Nat} {md : FD} {mb : FS} (F : mK K x st) (g : mg x = some (.ref (He.ga K x))) (S : FnScope N ps (defScope st)) (R : Runs md N.length ps.length mb)
  (bnd : ∀ (kV doc pm : Value) (an : Option Addr) (cdv ct : Value) (us : List Value), us.length = ps.length -> bindArgs (eW x x (defArgs st) (defBody st) (defScope st) .none kV doc pm an cdv ct) ⟨us, []⟩ = pure (ps.zip us))
  (hbody : ∀ (cdv : Value) (A : Around) (outer : List Env) (s : Shared) (H : Hp) (E : XK), Room k (A.deeper (envOfC x (defScope st) s.heap.objs.size (He.ga K x) cdv)) ->
   PSs (cxOf (L2.CX P w) P w K mg base N x (defScope st) (He.ga K x) cdv A outer s H E) (defBody st) (hW K (fun c x _ H => E c x H) mb)) : lO P w K mg base (k + 1) x ps (spF K md) :=
 KU F g S (An R) bnd fun cdv A outer s H vs Q E hr h => ⟨_, hbody cdv A outer s H E hr, xC R h⟩
theorem okFM {C m q : Str} {st : Stmt} {N ps : List Str} {k : Nat} {md : FD} {mb : FS} (F : Jt K C m q st) (g : Meth K (He.ga K C) m (He.ma K (He.ga K C) m)) (S : FnScope N ps (defScope st)) (R : Runs md N.length ps.length mb)
  (bnd : ∀ (kV doc pm : Value) (an : Option Addr) (cdv ct : Value) (us : List Value), us.length = ps.length -> bindArgs (eW m q (defArgs st) (defBody st) (defScope st) .none kV doc pm an cdv ct) ⟨us, []⟩ = pure (ps.zip us))
  (hbody : ∀ (cdv : Value) (A : Around) (outer : List Env) (s : Shared) (H : Hp) (E : XK), Room k (A.deeper (envOfC q (defScope st) s.heap.objs.size (He.ma K (He.ga K C) m) cdv)) ->
   PSs (cxOf (L2.CX P w) P w K mg base N q (defScope st) (He.ma K (He.ga K C) m) cdv A outer s H E) (defBody st) (hW K (fun c x _ H => E c x H) mb)) : OkMX P w K mg base (k + 1) C m ps (spF K md) :=
 My F g S (An R) bnd fun cdv A outer s H vs Q E hr h => ⟨_, hbody cdv A outer s H E hr, xC R h⟩
end
section
variable {X : Cx} {W : WX} {e a b c o i : Expr} {es rest : List Expr} {pos p q p2 tpos apos cpos pos' : Pos} {x y z f C mn : Str} {K : aD} {ma mb mc mo mx : FE} {mt mt1 mu : FT} {mas : FA} {B : Addr -> Prop} {φ φ' : List Addr} {S S' : aM} {H H' : Hp} {σ : L2.St} {Q : VK} {m n : FS} {D : Ends} {ps : List Str} {md : FD} {j k : Nat}
def qV (S : aM) (C mn : Str) : Vl -> Bool
 | .cel n => match S[n]? with
  | some (.ins C' fs) => decide (C' = C) && fs.all fun f => decide (f.1 ≠ mn)
  | _ => false
 | .dat (.ins C' ns _) => decide (C' = C) && ns.all fun f => decide (f ≠ mn)
 | _ => false
theorem RepF.miss : ∀ {fs : List (Str × Vl)} {vs : List (Str × L2.V)}, RepF K B φ S H fs vs -> (fs.all fun f => decide (f.1 ≠ mn)) = true -> vs.lookup mn = none
 | [], vs, r, _ => by cases r; rfl
 | d :: ds, vs, ⟨v, ws, e, h1, h2⟩, h => by
  subst e;simp only [fG, fJ, decide_eq_true_eq] at h;rw [gT, show (mn == d.1) = false by simpa using Ne.symm h.1]
  exact RepF.miss h2 h.2
theorem El : ∀ {ns : List Str} {vs : List L2.V}, (ns.all fun f => decide (f ≠ mn)) = true -> (ns.zip vs).lookup mn = none
 | [], vs, _ => by simp
 | d :: ds, [], _ => by simp
 | d :: ds, v :: vs, h => by
  simp only [fG, fJ, decide_eq_true_eq] at h;rw [A6, gT, show (mn == d) = false by simpa using Ne.symm h.1]
  exact El h.2
theorem Gx {d : Vl} {v : L2.V} (I : GInv K B φ S H) (r : RepV K B φ S H d v) (h : qV S C mn d = true) : ∃ a dx fs, v = .ref a /\ H a = some (.ins (He.ga K C) dx fs) /\ fs.lookup mn = none := by
 cases d with
 | cel n =>
  obtain ⟨a, rfl, h1⟩ := r;have h : (match S[n]? with | some (.ins C' fs) => decide (C' = C) && fs.all fun f => decide (f.1 ≠ mn) | _ => false) = true := h
  split at h
  ·rename_i C' fs q
   obtain ⟨h2, h3⟩ := He.ba h;have e : C' = C := of_decide_eq_true h2;subst e;obtain ⟨dx, vs, h4, h5⟩ := I.ok n _ a q h1;exact ⟨a, dx, vs, rfl, h4, h5.miss h3⟩
  ·cases h
 | dat d =>
  cases d with
  | ins C' ns xs =>
   obtain ⟨h2, h3⟩ := He.ba (show (decide (C' = C) && ns.all fun f => decide (f ≠ mn)) = true from h)
   have e : C' = C := of_decide_eq_true h2;subst e;obtain ⟨a, dx, vs, rfl, _, h4, _⟩ := r;exact ⟨a, dx, _, rfl, h4, El h3⟩
  | _ => cases h
 | cels ns => cases h
 | scr ns => cases h
 | tc _ => cases h
def pL (C mn : Str) (md : FD) (o : FE) (as : FA) : FE := fun ρ S => (o ρ S).bind fun x S1 => if qV S1 C mn x = true then (as ρ S1).bind fun ds S2 => md (x :: ds) S2 else .stuck
theorem OH {pl : Sem Bool} (F : OkMX X.prog X.w X.K X.mg X.base j C mn ps (spF X.K md)) (hr : Room k X.A) (tk : Takes X W) (c : Cls X.K (He.ga X.K C)) (ho : PE X o (cY X.K W mo)) (hjk : j <= k := by decide)
  (ht : eval (.Call (.Attribute o mn apos) [] [] pos) X.env = eval o X.env >>= fun ov => standAt apos.atName >>= fun _ => holding [ov] (getMethod ov mn pl) >>= fun q => callWith pos q.1 q.2 (backTo pos (starEach [] X.env)) (backToKw pos (keywordEach [] X.env)) := by rfl) :
  PE X (.Call (.Attribute o mn apos) [] [] pos) (cY X.K W (pL C mn md mo aI)) := by
 obtain ⟨⟨fd, F, hb⟩, mt⟩ := F;refine ⟨fun pins s σ H Q I h => ?_⟩
 have h' : cY X.K W mo σ H fun v H1 => ∃ a dx fs, v = .ref a /\ H1 a = some (.ins (He.ga X.K C) dx fs) /\ fs.lookup mn = none /\ spF X.K md [.ref a] H1 Q (WE W σ) :=
  cA (k := fun x ρ S1 => if qV S1 C mn x = true then md [x] S1 else .stuck) h fun B φ S ρ d v H1 I E r f => by
   split at f
   ·rename_i hi
    obtain ⟨a, dx, fs, rfl, h1, h2⟩ := Gx I r hi;exact ⟨a, dx, fs, rfl, h1, h2, B, φ, S, [d], I, ⟨_, _, rfl, r, rfl⟩, f.toE⟩
   ·exact f.elim
 refine PySem.W.methodCall_KW (pl := pl) (thn (ho.run pins s σ H _ I h') fun u s1 hh => ?_) ht
 obtain ⟨x, H1, I1, rx, a, dx, fs, rfl, ea, l, q⟩ := hh;obtain rfl : u = Value.ref a := rx;exact getmeth_ok I1 ea c mt l (PySem.W.callWith_K0 (first := [.ref a]) I1.kIn mt.kp (run_fnS (us := [.ref a]) (vs := [.ref a]) (E := WE W) F (hr.mono hjk) hb (passAt tk σ) I1 (.cons rfl .nil) q))
def Fl (S : aM) (C f : Str) : Vl -> Option Vl
 | .cel n => match S[n]? with
  | some (.ins C' fs) => if C' = C then fs.lookup f else none
  | _ => none
 | .dat (.ins C' ns xs) => if C' = C then ((ns.zip xs).lookup f).map Vl.dat else none
 | _ => none
theorem RepF.look {d : Vl} : ∀ {fs : List (Str × Vl)} {vs : List (Str × L2.V)}, RepF K B φ S H fs vs -> fs.lookup f = some d -> ∃ v, vs.lookup f = some v /\ RepV K B φ S H d v
 | [], vs, r, h => by cases h
 | g :: fs, vs, ⟨v, ws, e, h1, h2⟩, h => by
  subst e;obtain ⟨g1, g2⟩ := g;rw [gT] at h ⊢;cases q : f == g1 with
  | true => rw [q] at h; cases h; exact ⟨v, rfl, h1⟩
  | false => rw [q] at h; exact RepF.look h2 h
theorem Ax {Bk : Addr -> Prop} {d : PH.D} : ∀ {ns : List Str} {ds : List PH.D} {vs : List L2.V}, RepL K Bk H ds vs -> (ns.zip ds).lookup f = some d -> ∃ v, (ns.zip vs).lookup f = some v /\ Rep K Bk H d v
 | [], ds, vs, r, h => by simp at h
 | n :: ns, [], vs, r, h => by simp at h
 | n :: ns, d' :: ds, vs, ⟨v, ws, e, h1, h2⟩, h => by
  subst e;rw [A6, gT] at h ⊢;cases q : f == n with
  | true => rw [q] at h; cases h; exact ⟨v, rfl, h1⟩
  | false => rw [q] at h; exact Ax h2 h
def wB (C f : Str) (o : FE) : FE := fun ρ S => (o ρ S).bind fun x S1 => match Fl S1 C f x with
 | some d => .ok d S1
 | none => .stuck
theorem Lp {x d : Vl} {v : L2.V} (I : GInv K B φ S H) (r : RepV K B φ S H x v) (h : Fl S C f x = some d) : ∃ a dx fs u, v = .ref a /\ H a = some (.ins (He.ga K C) dx fs) /\ fs.lookup f = some u /\ RepV K B φ S H d u := by
 cases x with
 | cel n =>
  obtain ⟨a, rfl, h1⟩ := r
  replace h : (match S[n]? with | some (.ins C' fs) => if C' = C then fs.lookup f else none | _ => none) = some d := h
  split at h
  ·rename_i C' fs q
   split at h
   ·rename_i e
    subst e;obtain ⟨dx, vs, h4, h5⟩ := I.ok n _ a q h1;obtain ⟨u, h6, h7⟩ := h5.look h;exact ⟨a, dx, vs, u, rfl, h4, h6, h7⟩
   ·cases h
  ·cases h
 | dat d' =>
  cases d' with
  | ins C' ns xs =>
   replace h : (if C' = C then ((ns.zip xs).lookup f).map Vl.dat else none) = some d := h
   split at h
   ·rename_i e
    subst e;obtain ⟨a, dx, vs, rfl, _, h4, l⟩ := r;cases q : (ns.zip xs).lookup f with
    | none => rw [q] at h; cases h
    | some d0 =>
     rw [q] at h;cases h;obtain ⟨u, h6, h7⟩ := Ax l q;exact ⟨a, dx, _, u, rfl, h4, h6, h7⟩
   ·cases h
  | _ => cases h
 | cels ns => cases h
 | scr ns => cases h
 | tc _ => cases h
theorem P9 (c : Cls X.K (He.ga X.K C)) (n : NoAttr X.K (He.ga X.K C) f) (ho : PE X o (cY X.K W mo)) (hb : attributeBase o f X.env (eval o X.env) = eval o X.env := by rfl) : PE X (.Attribute o f pos) (cY X.K W (wB C f mo)) := cP (e_fld c n ho hb) fun σ H Q h =>
 cA (k := fun x _ S1 => match Fl S1 C f x with | some d => .ok d S1 | none => .stuck) h fun B φ S ρ d v H1 I E r f' => by
  split at f'
  ·rename_i d' q
   obtain ⟨a, dx, fs, u, rfl, h1, h2, h3⟩ := Lp I r q;exact ⟨dx, fs, u, h1, h2, Fin.now f' I h3⟩
  ·exact f'.elim
def Cr (f : Str) (v : Vl) : List (Str × Vl) -> List (Str × Vl)
 | [] => [(f, v)]
 | (g, x) :: r => if g = f then (g, v) :: r else (g, x) :: Cr f v r
theorem RepF.put {d : Vl} {v : L2.V} (r : RepV K B φ S H d v) : ∀ {fs : List (Str × Vl)} {vs : List (Str × L2.V)}, RepF K B φ S H fs vs -> RepF K B φ S H (Cr f d fs) (putF f v vs)
 | [], vs, h => by cases h; exact ⟨v, [], rfl, r, rfl⟩
 | (g, x) :: fs, vs, ⟨u, ws, e, h1, h2⟩ => by
  subst e;unfold Cr putF;split
  ·exact ⟨v, ws, rfl, r, h2⟩
  ·exact ⟨u, _, rfl, h1, RepF.put r h2⟩
theorem RepF.len : ∀ {fs : List (Str × Vl)} {vs : List (Str × L2.V)}, RepF K B φ S H fs vs -> vs.length = fs.length
 | [], vs, h => by cases h; rfl
 | d :: ds, vs, ⟨v, ws, e, _, h2⟩ => by subst e; simp [RepF.len h2]
def Mf (S : aM) (C f : Str) (x d : Vl) : Option aM := match x with
 | .cel n => (match S[n]? with
  | some (.ins C' fs) => if C' = C /\ fs.length < 1000 then some (S.set n (.ins C (Cr f d fs))) else none
  | _ => none)
 | _ => none
def Kb (C f : Str) (o v : FE) : FS := fun ρ S => (v ρ S).toS ρ fun d S1 => (o ρ S1).toS ρ fun x S2 => match Mf S2 C f x d with
 | some S3 => .next ρ S3
 | none => .stuck
theorem OF {value : Expr} {mv : FE} (c : Cls X.K (He.ga X.K C)) (na : NoAttr X.K (He.ga X.K C) f) (ho : PE X o (cY X.K W mo)) (hv : PE X value (cY X.K W mv)) (hs : swapsWith value (some (.Attribute o f pos')) pos.line X.env = pure false := by rfl) : PS X (.Assign [.Attribute o f pos'] value pos) (hW X.K W (Kb C f mo mv)) := fE (Pb c na ho hv hs) fun D σ H h => by
 obtain ⟨B, φ, S, ρ, I, E, f'⟩ := h;refine cN I E f' fun φ1 S1 d1 v1 H1 I1 X1 E1 r1 f1 => cN I1 E1 f1 fun φ2 S2 d2 v2 H2 I2 X2 E2 r2 f2 => ?_
 split at f2
 ·rename_i S3 q
  unfold Mf at q;split at q
  ·rename_i n
   obtain ⟨a, rfl, h1⟩ := r2;split at q
   ·rename_i C' fs q1
    split at q
    ·rename_i hc
     obtain ⟨e, hl⟩ := hc;subst e;cases q;obtain ⟨dx, vs, h4, h5⟩ := I2.ok n _ a q1 h1;have X3 := Ext.put (H := H2) (o := .ins (He.ga X.K C') dx (putF f v1 vs)) (x := .ins C' (Cr f d1 fs)) q1 (by simp) h1 (by simp)
     have r1' := r1.ext X2 I1;refine ⟨dx, vs, h4, by rw [h5.len]; exact hl, f2 φ2 σ _ (I2.put q1 (by simp) h1 (by simp) ⟨dx, _, upd_same, (h5.put r1').ext X3 I2⟩) X3 (E2.ext X3 I2)⟩
    ·cases q
   ·cases q
  ·cases q
 ·exact f2.elim
end
section
variable {X : Cx} {W : WX} {e a b c o i : Expr} {es rest : List Expr} {pos p q p2 tpos apos cpos pos' : Pos} {x y z f mn : Str} {K : aD} {ma mb mc mo mx : FE} {mas : FA} {B : Addr -> Prop} {φ φ' : List Addr} {S S' : aM} {H H' : Hp} {σ : L2.St} {Q : VK} {m n : FS} {D : Ends} {ps : List Str} {md : FD} {j k : Nat}
theorem Il {C fA : Addr} {fd : FuncData} {sp : Sp} {CX : CXT} {E : L2.St -> XK} {pins : List (Addr × Obj)} {s : Shared} {us : List Value} {vs : List L2.V} (M : Mk X.K C fA) (F : FnOk X.prog X.w X.K X.mg X.base CX k fA fd ps sp) (hr : Room (k + 1) X.A) (hb : Binds X.K fd ps [])
  (hx : PassesAt CX X σ (E σ)) (I : Inv X pins σ H s) (r : Vals vs us)
  (h : ∀ x dx, H x = none -> H dx = none -> dx ≠ x -> sp (.ref x :: vs) (upd (upd H dx (.own x)) x (.ins C dx [])) (fun v H2 => v = .non /\ Q (.ref x) H2) (E σ)) :
  wpAny (model X.prog X.w) X.A (call (.ref C) us) (EP X pins σ Q) X.xe s := by
 have hq := h (s.heap.objs.size + 1) s.heap.objs.size (I.hok.fresh (Nat.le_succ _)) (I.hok.fresh (bR _)) (Nat.ne_of_lt (Nat.lt_succ_self _));have I2 := Inv.made (C := C) I;have r2 : Vals (V.ref (s.heap.objs.size + 1) :: vs) (Value.ref (s.heap.objs.size + 1) :: us) := .cons rfl r;have hl : (Value.ref (s.heap.objs.size + 1) :: us ++ []).length = ps.length := by
  have e := r2.length;rw [F.len _ _ _ _ hq] at e;rw [dN];exact e.symm
 have b := hb _ (Value.ref (s.heap.objs.size + 1) :: us) I2.kIn hl;rw [dN] at b;refine wpAny_call (make_map (f := fA) I.kIn M.makes M.init (beq_iff_eq.mp M.fn) (codeAny_mono (F.run _ X.stack _ _ ⟨Value.ref (s.heap.objs.size + 1) :: us, []⟩ (Value.ref (s.heap.objs.size + 1) :: us) _ _ (E σ) (hr.make C us [])
  (I2.env0.make C us []) b r2 hq) fun r s' hq' => ?_))
 cases r with
 | error e => exact hx pins _ _ e s' I2 hq'
 | ok fl =>
  cases fl with
  | ret u =>
   obtain ⟨v, H', I3, rv, ev, q3⟩ := I2.after hq';subst ev;exact ⟨rv, ⟨V.ref (s.heap.objs.size + 1), H', I3, rfl, q3⟩⟩
  | next => exact False.elim hq'
  | brk => exact False.elim hq'
  | cont => exact False.elim hq'
def Dc : List (Str × Vl) -> Option (List PH.D)
 | [] => some []
 | (_, .dat d) :: r => match Dc r with
  | some ds => some (d :: ds)
  | none => none
 | _ :: _ => none
theorem G5 : ∀ {fs : List (Str × Vl)} {vs : List (Str × L2.V)} {ds : List PH.D}, Dc fs = some ds -> RepF K B φ S H fs vs -> ∃ ws, vs = (fs.map (·.1)).zip ws /\ RepL K (jA B φ S) H ds ws
 | [], vs, ds, h, r => by cases h; cases r; exact ⟨[], rfl, rfl⟩
 | (g, .dat d) :: fs, vs, ds, h, ⟨v, ws, e, h1, h2⟩ => by
  unfold Dc at h;cases q : Dc fs with
  | none => rw [q] at h; cases h
  | some es =>
   rw [q] at h;cases h;obtain ⟨us, e2, l⟩ := G5 q h2;subst e e2;exact ⟨v :: us, rfl, v, us, rfl, h1, l⟩
 | (_, .cel _) :: fs, vs, ds, h, _ => by cases h
 | (_, .cels _) :: fs, vs, ds, h, _ => by cases h
 | (_, .scr _) :: fs, vs, ds, h, _ => by cases h
 | (_, .tc _) :: fs, vs, ds, h, _ => by cases h
def made (kp : Bool) (n : Nat) (r : Res Vl) : Res Vl := match r with
 | .ok (.dat .non) S => if kp then .ok (.cel n) S else (match S[n]? with
  | some (.ins C fs) => (match Dc fs with
   | some ds => if ((S.take n).all fun c => c.below n) then .ok (.dat (.ins C (fs.map (·.1)) ds)) (S.take n) else .stuck
   | none => .stuck)
  | _ => .stuck)
 | .err e S => if ((S.take n).all fun c => c.below n) then .err e (S.take n) else .stuck
 | _ => .stuck
def Kd (kp : Bool) (C : Str) (md : FD) (as : FA) : FE := fun ρ S => (as ρ S).bind fun ds S1 => made kp S1.length (md (.cel S1.length :: ds) (S1 ++ [.ins C []]))
theorem G7 {n : Nat} {c : Cell} {a : Addr} (I : GInv K B φ S H) (hn : S[n]? = some c) (hc : c ≠ .dead) (ha : φ[n]? = some a) : ¬ jA B (φ.take n) (S.take n) a := fun q => by
 rcases q with q | ⟨m, c', h1, h2, h3⟩
 ·exact I.blk a ⟨n, c, hn, hc, ha⟩ q
 ·rw [dO] at h1 h3
  by_cases hm : m < n
  ·rw [if_pos hm] at h1 h3
   have := I.inj n m c c' a hn hc h1 h2 ha h3;omega
  ·rw [if_neg hm] at h1; cases h1
theorem Lq {kp : Bool} {C : Str} {ds : List Vl} {vs : List L2.V} (I : GInv K B φ S H) (r : RepVs K B φ S H ds vs) (f : Fin K W σ (RepV K) B φ S H (made kp S.length (md (.cel S.length :: ds) (S ++ [.ins C []]))) Q) :
  ∀ x dx, H x = none -> H dx = none -> dx ≠ x -> spF K md (.ref x :: vs) (upd (upd H dx (.own x)) x (.ins (He.ga K C) dx [])) (fun v H2 => v = .non /\ Q (.ref x) H2) (WE W σ) := fun x dx nx ndx ne => by
 have I1 := I.new (o := .own x) ndx;have X1 := Ext.new (o := .own x) I ndx;have nx1 : upd H dx (.own x) x = none := by rw [upd_ne (Ne.symm ne)]; exact nx
 have X2 := Ext.newC (o := .ins (He.ga K C) dx []) (x := .ins C []) I1 nx1;have I2 : GInv K B (φ ++ [x]) (S ++ [.ins C []]) (upd (upd H dx (.own x)) x (.ins (He.ga K C) dx [])) := I1.newC nx1 fun _ => ⟨dx, [], upd_same, rfl⟩
 have X12 := X1.trans X2;refine ⟨B, φ ++ [x], S ++ [.ins C []], .cel S.length :: ds, I2, ⟨_, _, rfl, ⟨x, rfl, by rw [<- I.len]; exact mV⟩, RepVs.ext X2 I1 (RepVs.ext X1 I r)⟩, ?_⟩
 have hφ : φ.length <= S.length := by rw [I.len]; exact bR _
 cases q : md (.cel S.length :: ds) (S ++ [.ins C []]) with
 | stuck => rw [q] at f; exact f
 | err e S' =>
  rw [q] at f;unfold made at f;dsimp only at f;split at f
  ·rename_i h
   intro φ' c y H' I' X' r';refine f (φ'.take S.length) c y H' (I'.take h) ((X12.trans X').take hφ) ⟨r'.1, ?_⟩
   rcases r'.2 with h0 | ⟨d, us, e1, e2, e3⟩
   ·exact .inl h0
   ·refine .inr ⟨d, us, e1, e2, RepL.kp ⟨fun b o h nb => ⟨h, fun q => nb (by
     rcases q with q | q
     ·exact .inl q
     ·exact .inr (jY q))⟩, fun _ _ h => h⟩ _ _ e3⟩
  ·exact f.elim
 | ok d S' =>
  rw [q] at f;intro φ' v H' I' X' r';unfold made at f;split at f
  ·rename_i S0 e
   cases e;cases r';refine ⟨rfl, ?_⟩
   have hx' : φ'[S.length]? = some x := X'.ids _ _ (by rw [<- I.len]; exact mV)
   split at f
   ·exact f φ' _ H' I' (X12.trans X') ⟨x, rfl, hx'⟩
   ·split at f
    ·rename_i C' fs q1
     split at f
     ·rename_i ds' q2
      split at f
      ·rename_i h
       obtain ⟨dx', vs', h4, h5⟩ := I'.ok _ _ _ q1 hx';obtain ⟨ws, e2, l⟩ := G5 q2 h5;subst e2;refine f (φ'.take S.length) _ H' (I'.take h) ((X12.trans X').take hφ) ⟨x, dx', ws, rfl, G7 I' q1 (by simp) hx', h4, RepL.kp ⟨fun b o h nb => ⟨h, fun q => nb (by
        rcases q with q | q
        ·exact .inl q
        ·exact .inr (jY q))⟩, fun _ _ h => h⟩ _ _ l⟩
      ·exact f.elim
     ·exact f.elim
    ·exact f.elim
  ·rename_i e; cases e
  ·exact f.elim
theorem RG {kp : Bool} {C : Str} (T : ClF X.K X.mg C) (F : OkMX X.prog X.w X.K X.mg X.base j C "__init__" ps (spF X.K md)) (hr : Room k X.A) (tk : Takes X W) (ha : PA X (e :: es) (GG X.K W mas)) (hjk : j + 1 <= k := by decide) (hg : Gl X C := by rfl) (hdb : (C == ("__debug__" : Str)) = false := by decide)
  (he : starEach (e :: es) X.env = (false, eval e X.env) :: starEach es X.env := by rfl) (hpl : (backTo pos (starEach es X.env)).any (·.1) = false := by rfl) : PE X (.Call (.Name C p) (e :: es) [] pos) (cY X.K W (Kd kp C md mas)) := by
 obtain ⟨⟨fd, F, hb⟩, mt⟩ := F;refine ⟨fun pins s σ H Q I h => ?_⟩
 refine wpAny_Call_Name_kw (ld_glob I hg T.glo ?_ hdb)
 have h' : GG X.K W mas σ H fun vs H1 => ∀ x dx, H1 x = none -> H1 dx = none -> dx ≠ x -> spF X.K md (.ref x :: vs) (upd (upd H1 dx (.own x)) x (.ins (He.ga X.K C) dx [])) (fun v H2 => v = .non /\ Q (.ref x) H2) (WE W σ) :=
  cA (k := fun ds _ S1 => made kp S1.length (md (.cel S1.length :: ds) (S1 ++ [.ins C []]))) h fun B φ S ρ d v H1 I E r f => Lq I r f
 refine IT (h₀ := X.base) I.ok.mod.kin T.mak.kp (thn (ha.run pos pins s σ H _ I h') fun us s1 ⟨vs, H1, I1, r, q⟩ => ⟨I1.kIn, ?_⟩) he hpl
 exact Il (E := WE W) T.mak F (hr.mono hjk) hb (passAt tk σ) I1 r q
def Kc (cls : Str) : FS := fun ρ S => .err ⟨cls, [], []⟩ ρ S
end
def Do (C : Addr) (f : Str) : Sp := fun vs H Q _ => ∃ a y, vs = [.ref a, y] /\ H a = some (exo a C none) /\ ∀ dx, H dx = none -> dx ≠ a -> Q .non (upd (upd H dx (exd dx [(f, y)])) a (exo a C (some dx)))
def PZ (C : Addr) (f g : Str) : Sp := fun vs H Q _ => ∃ a y z, vs = [.ref a, y, z] /\ H a = some (exo a C none) /\ ∀ dx, H dx = none -> dx ≠ a -> Q .non (upd (upd (upd H dx (exd dx [(f, y)])) a (exo a C (some dx))) dx (exd dx [(g, z), (f, y)]))
structure XcA (P : Program) (w : World) (K : aD) (mg : Str -> Option Value) (base : Heap) (k : Nat) (x : Str) (ps : List Str) (sp : Sp) : Prop where
 cls : OexC K (He.ga K x)
 ini : cG K (.ref (He.ga K x)) "__init__" = some (some (.ref (He.ma K (He.ga K x) "__init__")))
 ty : lM K (.ref (He.ma K (He.ga K x) "__init__")) = some (.type "function")
 fn : ∃ fd, FnOk P w K mg base CX0 k (He.ma K (He.ga K x) "__init__") fd ps sp /\ Binds K fd ps []
 glo : mg x = some (.ref (He.ga K x))
section
variable {X : Cx} {W : WX} {e : Expr} {es : List Expr} {pos p pos' : Pos} {x f g : Str} {K : aD} {mas : FA} {B : Addr -> Prop} {φ φ' : List Addr} {S S' : aM} {H H' : Hp} {σ : L2.St} {ps : List Str} {j k : Nat}
def dR (cls : Str) (ns : List Str) (as : FA) : FS := fun ρ S => (as ρ S).toS ρ fun xs S1 => match wR xs with
 | some ds => if ds.length = ns.length then .err ⟨cls, ns, ds.reverse⟩ ρ S1 else .stuck
 | none => .stuck
theorem DI (F : XcA X.prog X.w X.K X.mg X.base j x ps (Do (He.ga X.K x) f)) (hr : Room k X.A) (tk : Takes X W) (ha : PA X (e :: es) (GG X.K W mas)) (hjk : j + 1 <= k := by decide) (hc : X.calm = true := by rfl) (hg : Gl X x := by rfl) (hdb : (x == ("__debug__" : Str)) = false := by decide)
  (he : starEach (e :: es) X.env = (false, eval e X.env) :: starEach es X.env := by rfl) (hpl : (backTo pos (starEach es X.env)).any (·.1) = false := by rfl) : PS X (.Raise (some (.Call (.Name x p) (e :: es) [] pos)) none pos') (hW X.K W (dR x [f] mas)) := by
 obtain ⟨fd, F1, hb⟩ := F.fn;refine fE (ps_raise hc tk (pmk_oex F.cls F.ini F.ty F1 (hr.mono hjk) hb .nil (fun _ _ _ _ _ _ _ h => h.elim) hg F.glo ha hdb he hpl)) fun D σ H h => ?_
 obtain ⟨B, φ, S, ρ, I, E, f'⟩ := h;refine cN I E f' fun φ1 S1 ds vs H1 I1 X1 E1 r f1 => ?_
 split at f1
 ·rename_i xs q
  have l := vF q r;split at f1
  ·rename_i hl
   match xs, hl with
   | [d], _ =>
    obtain ⟨v, ws, rfl, h1, h2⟩ := l;cases h2;refine ⟨by simp, fun a na => ⟨a, v, rfl, upd_same, fun dx ndx ne => ⟨rfl, dx, [(f, v)], upd_same, ?_, ?_, ?_⟩⟩⟩
    ·rw [upd_ne ne, upd_same]
    ·rw [upd_ne ne] at ndx; exact ndx
    ·have n1 : H1 dx = none := by rw [upd_ne ne] at ndx; exact ndx
     have eH : (upd (del (upd (upd (upd H1 a (exo a (He.ga X.K x) none)) dx (exd dx [(f, v)])) a (exo a (He.ga X.K x) (some dx))) a) dx (.xd [(f, v)])) = upd H1 dx (.xd [(f, v)]) := by
      funext b
      unfold upd del
      by_cases hb : b = dx
      ·rw [if_pos hb, if_pos hb]
      ·rw [if_neg hb, if_neg hb]
       by_cases hba : b = a
       ·rw [if_pos hba, hba]; exact na.symm
       ·rw [if_neg hba]; simp only [if_neg hba, if_neg hb]
     rw [eH];have X2 := Ext.new (o := .xd [(f, v)]) I1 n1;exact f1 φ1 σ _ _ _ (I1.new n1) X2 (E1.ext X2 I1) ⟨rfl, .inr ⟨dx, [v], rfl, upd_same, v, [], rfl, Rep.kp (X2.kp I1) _ _ h1, rfl⟩⟩
  ·exact f1.elim
 ·exact f1.elim
theorem zY (F : XcA X.prog X.w X.K X.mg X.base j x ps (PZ (He.ga X.K x) f g)) (hr : Room k X.A) (tk : Takes X W) (ha : PA X (e :: es) (GG X.K W mas)) (hjk : j + 1 <= k := by decide) (hc : X.calm = true := by rfl) (hg : Gl X x := by rfl) (hdb : (x == ("__debug__" : Str)) = false := by decide)
  (he : starEach (e :: es) X.env = (false, eval e X.env) :: starEach es X.env := by rfl) (hpl : (backTo pos (starEach es X.env)).any (·.1) = false := by rfl) : PS X (.Raise (some (.Call (.Name x p) (e :: es) [] pos)) none pos') (hW X.K W (dR x [g, f] mas)) := by
 obtain ⟨fd, F1, hb⟩ := F.fn;refine fE (ps_raise hc tk (pmk_oex F.cls F.ini F.ty F1 (hr.mono hjk) hb .nil (fun _ _ _ _ _ _ _ h => h.elim) hg F.glo ha hdb he hpl)) fun D σ H h => ?_
 obtain ⟨B, φ, S, ρ, I, E, f'⟩ := h;refine cN I E f' fun φ1 S1 ds vs H1 I1 X1 E1 r f1 => ?_
 split at f1
 ·rename_i xs q
  have l := vF q r;split at f1
  ·rename_i hl
   match xs, hl with
   | [d, d2], _ =>
    obtain ⟨v, ws, rfl, h1, u, ws', rfl, h2, h3⟩ := l;cases h3;refine ⟨by simp, fun a na => ⟨a, v, u, rfl, upd_same, fun dx ndx ne => ⟨rfl, dx, [(g, u), (f, v)], ?_, upd_same, ?_, ?_⟩⟩⟩
    ·rw [upd_ne (Ne.symm ne), upd_same]
    ·rw [upd_ne ne] at ndx; exact ndx
    ·have n1 : H1 dx = none := by rw [upd_ne ne] at ndx; exact ndx
     have eH : (upd (del (upd (upd (upd (upd H1 a (exo a (He.ga X.K x) none)) dx (exd dx [(f, v)])) a (exo a (He.ga X.K x) (some dx))) dx (exd dx [(g, u), (f, v)])) a) dx (.xd [(g, u), (f, v)])) = upd H1 dx (.xd [(g, u), (f, v)]) := by
      funext b
      unfold upd del
      by_cases hb : b = dx
      ·rw [if_pos hb, if_pos hb]
      ·rw [if_neg hb, if_neg hb]
       by_cases hba : b = a
       ·rw [if_pos hba, hba]; exact na.symm
       ·rw [if_neg hba]; simp only [if_neg hba, if_neg hb]
     rw [eH];have X2 := Ext.new (o := .xd [(g, u), (f, v)]) I1 n1;exact f1 φ1 σ _ _ _ (I1.new n1) X2 (E1.ext X2 I1) ⟨rfl, .inr ⟨dx, [u, v], rfl, upd_same, u, [v], rfl, Rep.kp (X2.kp I1) _ _ h2, v, [], rfl, Rep.kp (X2.kp I1) _ _ h1, rfl⟩⟩
  ·exact f1.elim
 ·exact f1.elim
end
def RQ (K : aD) (cs : List Str) : Prop := ∀ c ∈ cs, ∀ d ∈ cs, CM K (.ref (He.ga K c)) (.ref (He.ga K d)) = some (decide (c = d))
theorem PU {K : aD} {cs : List Str} (h : xmB K cs = true) : RQ K cs := fun c hc d hd => of_decide_eq_true (bZ.mp (bZ.mp h c hc) d hd)
section
variable {X : Cx} {W : WX} {e a b c o i : Expr} {es rest : List Expr} {pos p q p2 tpos apos cpos pos' np : Pos} {x y z f mn : Str} {K : aD} {ma mb mc mo mx : FE} {mas : FA} {B : Addr -> Prop} {φ φ' : List Addr} {S S' : aM} {H H' : Hp} {σ : L2.St} {Q : VK} {m n : FS} {D : Ends} {cs : List Str}
def handle (cs : List Str) : List (Str × FS) -> Er -> Ev -> aM -> Out
 | [], e, ρ, S => .err e ρ S
 | (c, m) :: r, e, ρ, S => if e.cls = c then (match m ρ S with
   | .err _ _ _ => .stuck
   | o => o) else handle cs r e ρ S
inductive XIt where
 | c (v : L2.V) (d : PH.D) | f (n : Str)
def itR (a : Addr) (cls : Value) (d : Option Addr) (C : Addr) (i : Nat) : List XIt -> TA
 | [] => tNil
 | .c v _ :: r => tCons (tC v) (itR a cls d C i r)
 | .f n :: r => tCons (tXf a cls d C n (vL i)) (itR a cls d C i r)
def itF (e : Er) : List XIt -> Option (List PH.D)
 | [] => some []
 | .c _ d :: r => match itF e r with
  | some ds => some (d :: ds)
  | none => none
 | .f n :: r => match (e.ns.zip e.xs).lookup n, itF e r with
  | some d, some ds => some (d :: ds)
  | _, _ => none
def Oq (cs : List Str) (m : FS) (c : Str) (k : Nat) (its : List XIt) : FS := fun ρ S => match m ρ S with
 | .err e ρ' S' => if (e.cls ∈ cs /\ c ∈ cs) /\ k < ρ'.length then (if e.cls = c then (match itF e its with
   | some ds => if ds.length <= sizeLine then .ret (.dat (.tup ds)) S' else .stuck
   | none => .stuck) else .err e ρ' S') else .stuck
 | o => o
theorem Od : ∀ {σ : L2.St} {i : Nat} {v : L2.V}, σ[i]? = some (some v) -> sl σ i = some v
 | [], _, _, h => by simp at h
 | x :: _, 0, v, h => by simp at h; exact h
 | _ :: r, n + 1, v, h => Od (σ := r) (i := n) (by simpa using h)
end
structure Lim (K : aD) : Prop where
 pos : ∀ z m lo hi, limits.lookup z = some (m, lo, hi) -> jB K (He.ga K "LIMITS") z = some (some (.ref (FL K z))) /\ ∀ H, SqT K H (FL K z) [.int (m : Nat), .int lo, .int hi]
 neg : ∀ z, limits.lookup z = none -> jB K (He.ga K "LIMITS") z = some none
section
variable {X : Cx} {W : WX} {e a b c o i : Expr} {es rest : List Expr} {pos p q p2 tpos apos cpos pos' np : Pos} {x y z f mn C : Str} {K : aD} {ma mb mc mo mx : FE} {mas : FA} {B : Addr -> Prop} {φ φ' : List Addr} {S S' : aM} {H H' : Hp} {σ : L2.St} {Q : VK} {m n : FS} {D : Ends} {ps : List Str} {md : FD} {j k : Nat}
def fX (neg : Bool) (x : Vl) (S : aM) : Res Vl := match x with
 | .dat (.str z) => .ok (.dat (.bl (if neg then (limits.lookup z).isNone else (limits.lookup z).isSome))) S
 | _ => .stuck
def A2 (x : Vl) (S : aM) : Res Vl := match x with
 | .dat (.str z) => (match limits.lookup z with
  | some (m, lo, hi) => .ok (.dat (.tup [.int (m : Nat), .int lo, .int hi])) S
  | none => .stuck)
 | _ => .stuck
theorem KD (L : Lim K) {x : L2.V} {d : Vl} (I : GInv K B φ S H) (r : RepV K B φ S H d x) (f : Fin K W σ (RepV K) B φ S H (fX true d S) Q) : PN K (He.ga K "LIMITS") true x (.ref (He.ga K "LIMITS")) H Q := by
 unfold fX at f;split at f
 ·rename_i z
  cases r;cases q : limits.lookup z with
  | none =>
   refine ⟨rfl, none, L.neg z q, ?_⟩
   rw [q] at f;exact Fin.now f I rfl
  | some t =>
   obtain ⟨m, lo, hi⟩ := t;refine ⟨rfl, _, (L.pos z m lo hi q).1, ?_⟩
   rw [q] at f;exact Fin.now f I rfl
 ·exact f.elim
theorem JW {py : Pos} (L : Lim X.K) (D : ∃ es n, KDict X.K X.w (He.ga X.K "LIMITS") es n) (g : X.mg "LIMITS" = some (.ref (He.ga X.K "LIMITS"))) (ha : PE X a (cY X.K W ma)) (hg : Gl X "LIMITS" := by rfl) (hm : behindInMarks .NotIn (.Name "LIMITS" py) = false := by rfl) : PT X (.Compare a [.NotIn] [.Name "LIMITS" py] pos) (tN X.K W (mB (m1 (fX true) ma))) :=
 CI (Oc (EB D) ha (pe_glob (v := .ref (He.ga X.K "LIMITS")) hg g rfl) hm) fun σ H Q h => cA (k := fun x _ S => fX true x S) (K8 h) fun B φ S ρ d v H1 I E r f => KD L I r f
theorem f_lim {py : Pos} (L : Lim X.K) (D : ∃ es n, KDict X.K X.w (He.ga X.K "LIMITS") es n) (g : X.mg "LIMITS" = some (.ref (He.ga X.K "LIMITS"))) (ha : PE X a (cY X.K W ma)) (hg : Gl X "LIMITS" := by rfl) (hs : PlainIx a := by intro _ _; rfl) : PE X (.Subscript (.Name "LIMITS" py) a pos) (cY X.K W (m1 A2 ma)) :=
 cP (pe_ix (QJ D) (pe_glob (v := .ref (He.ga X.K "LIMITS")) hg g rfl) ha hs) fun σ H Q h => cA (k := fun x _ S => A2 x S) h fun B φ S ρ d v H1 I E r f => by
  unfold A2 at f;split at f
  ·rename_i z
   cases r;split at f
   ·rename_i m lo hi q
    obtain ⟨h1, h2⟩ := L.pos z m lo hi q;exact ⟨rfl, _, .ref (FL X.K z), h1, rfl, Fin.now f I ⟨_, _, rfl, h2 H1, _, _, rfl, rfl, _, _, rfl, rfl, _, _, rfl, rfl, rfl⟩⟩
   ·exact f.elim
  ·exact f.elim
theorem Jh {sp : Sp} (F : OkMX X.prog X.w X.K X.mg X.base j C "__len__" ps sp) (hr : Room (j + 1) X.A) : CallR X (.builtin "len") (c1 (rLenO (He.ga X.K C) sp E0)) := by
 intro pins s σ H xs us Q I r h;obtain ⟨⟨fd, F, hb⟩, mt⟩ := F
 match xs, h with
 | [x], h =>
  cases x with
  | ref a =>
   obtain ⟨dx, fs, ha, h⟩ := h;cases r with
   | cons r1 r2 =>
    cases r1;cases r2;obtain ⟨mA, J, _⟩ := ins_get I.hok ha;obtain ⟨od, J, _⟩ := J.look;obtain ⟨fm, hF⟩ := I.fr;refine PySem.W.len_K hF I.ok.mod.kin J mt.at_ mt.fn ?_
    have e := I.env0;have hl := F.len _ _ _ _ h;have b := hb s [.ref a] I.kIn (by simpa using hl)
    have run := F.run X.A.in1 X.stack s H ⟨[.ref a], []⟩ [.ref a] [.ref a] _ E0 hr.in1 ⟨e.frames, e.mod, e.bs, e.bsz, e.funs, e.frf, e.hok, e.bare⟩ (by simpa using b) (.cons rfl .nil) h
    refine wpAny_call (codeAny_mono run fun q s' hq => ?_)
    cases q with
    | error e => obtain ⟨_, _, _, _, _, _, _, _, _, _, _, _, z⟩ := hq; exact z.elim
    | ok fl =>
     cases fl with
     | ret w =>
      obtain ⟨z, H', I', rz, hz⟩ := I.after hq;cases z with
      | int n =>
       obtain ⟨tk, rfl⟩ := rz;exact ⟨⟨hz.1.1, by have := hz.1.2; omega⟩, .int n, H', I'.tok _, ⟨_, rfl⟩, hz.2⟩
      | _ => exact hz.elim
     | next => exact False.elim hq
     | brk => exact False.elim hq
     | cont => exact False.elim hq
  | _ => exact h.elim
def Q4 (r : Res Vl) : Res Vl := match r with
 | .ok (.dat (.int n)) S => if 0 <= n /\ n < 2 ^ 62 then .ok (.dat (.int n)) S else .stuck
 | _ => .stuck
def Bx (C : Str) (md : FD) (x : Vl) (S : aM) : Res Vl := if qV S C "__len__" x = true then Q4 (md [x] S) else .stuck
theorem Lz (hm : X.mg "len" = none) (F : OkMX X.prog X.w X.K X.mg X.base j C "__len__" ps (spF X.K md)) (hr : Room k X.A) (ha : PE X a (cY X.K W ma)) (hjk : j + 1 <= k := by decide) (hg : Gl X "len" := by rfl) (hs : starEach [a] X.env = [(false, eval a X.env)] := by rfl) : PE X (.Call (.Name "len" p) [a] [] pos) (cY X.K W (m1 (Bx C md) ma)) :=
 cP (pe_callB (Jh F (hr.mono hjk)) hg hm boot_len (pa_cons ha pa_nil hs) (he := hs)) fun σ H Q h => cA (k := fun x _ S => Bx C md x S) h fun B φ S ρ d v H1 I E r f => by
  unfold Bx at f;split at f
  ·rename_i hi
   obtain ⟨a, dx, fs, rfl, h1, h2⟩ := Gx I r hi;refine ⟨dx, fs, h1, B, φ, S, [d], I, ⟨_, _, rfl, r, rfl⟩, ?_⟩
   unfold Q4 at f;split at f
   ·rename_i n S' q
    rw [q];split at f
    ·rename_i hn
     intro φ' v H' I' X' r';cases r';exact ⟨hn, f φ' _ H' I' X' rfl⟩
    ·exact f.elim
   ·exact f.elim
  ·exact f.elim
def ME (r : Res Vl) : Res Vl := match r with
 | .ok (.dat (.bl n)) S => .ok (.dat (.bl n)) S
 | _ => .stuck
def OJ (C : Str) (x : Vl) (S : aM) : Res Vl := if qV S C "" x = true then .ok (.dat (.bl true)) S else .stuck
theorem f_isC {q : Pos} (T : IsF X.K C) (hm : X.mg "isinstance" = none) (g : X.mg C = some (.ref (He.ga X.K C))) (ha : PE X a (cY X.K W ma)) (hg : Gl X "isinstance" := by rfl) (hgC : Gl X C := by rfl) (hdb : (C == ("__debug__" : Str)) = false := by decide)
  (hs : starEach [a, .Name C q] X.env = (false, eval a X.env) :: starEach [.Name C q] X.env := by rfl) : PE X (.Call (.Name "isinstance" p) [a, .Name C q] [] pos) (cY X.K W (m1 (OJ C) ma)) := cP (e_isC T hm g ha hg hgC hdb hs) fun σ H Q h => cA (k := fun x _ S => OJ C x S) h fun B φ S ρ d v H1 I E r f => by
 unfold OJ at f;split at f
 ·rename_i hi
  obtain ⟨a, dx, fs, rfl, h1, h2⟩ := Gx I r hi;exact ⟨rfl, dx, fs, h1, Fin.now f I rfl⟩
 ·exact f.elim
theorem ER {n : Int} {x : Str} (h : ∃ t, X.mg x = some (.int n t)) (hg : Gl X x := by rfl) (hd : (x == ("__debug__" : Str)) = false := by decide) : PE X (.Name x pos) (cY X.K W (mC (.int n))) := Lw (RN h hg hd) fun _ _ => rfl
end
section
variable {P : Program} {w : World} {K : aD} {mg : Str -> Option Value} {base : Heap}
def oI : FD := fun _ _ => .stuck
theorem pI {x : Str} {st : Stmt} {N ps : List Str} {k : Nat} (F : mK K x st) (g : mg x = some (.ref (He.ga K x))) (S : FnScope N ps (defScope st))
  (bnd : ∀ (kV doc pm : Value) (an : Option Addr) (cdv ct : Value) (us : List Value), us.length = ps.length -> bindArgs (eW x x (defArgs st) (defBody st) (defScope st) .none kV doc pm an cdv ct) ⟨us, []⟩ = pure (ps.zip us)) : lO P w K mg base (k + 1) x ps (spF K oI) :=
 KU F g S (fun vs H Q E ⟨_, _, _, _, _, _, f⟩ => f.elim) bnd fun cdv A outer s H vs Q E hr ⟨_, _, _, _, _, _, f⟩ => f.elim
end
theorem IX {K : aD} {a : Addr} {vs : List V} (h : GM K a vs = true) (H : Hp) : SqT K H a vs := by
 unfold GM at h;cases q : K.lookup a with
 | none => rw [q] at h; cases h
 | some o =>
  obtain ⟨oc, od, dt, osl⟩ := o;rw [q] at h;cases oc with
  | type c =>
   cases dt with
   | seq its n =>
    obtain ⟨h1, h2⟩ := He.ba (show (decide (c = "tuple") && (decide (its.size <= sizeLine) && He.relAll vs its.toList)) = true from h)
    obtain ⟨h3, h4⟩ := He.ba h2;exact .inr ⟨_, its, n, q, congrArg Value.type (of_decide_eq_true h1), rfl, of_decide_eq_true h3, He.relAll_ok h4⟩
   | _ => cases h
  | _ => cases dt <;> cases h
theorem Jl {fa : List He.Fa} {fn : List He.DefD} {ts : List He.Tab} {w : World} {K : aD} (c : He.SaysT fa fn ts w K) (i : Nat) {t : He.Tab} (h : ts[i]? = some t := by rfl) : He.dicW K (t.1 K) = some (He.keysIn w.params t.2) := by
 have e : ts.map (fun t => He.dicW K (t.1 K)) = ts.map fun t => some (He.keysIn w.params t.2) := congrArg (fun z : He.AlT => z.2) c
 have e2 : (ts.map fun t => He.dicW K (t.1 K))[i]? = (ts.map fun t => some (He.keysIn w.params t.2))[i]? := by rw [e]
 rw [eN, eN, h] at e2;exact Option.some.inj e2
theorem DB {P : Params} {z : Str} : ∀ {l : List DictEntry} {ks : List Str}, l.map He.keyOf = He.keysIn P ks -> z ∉ ks -> (l.find? (·.key.isStr z) = none) /\ l.any (·.refKey) = false
 | [], _, _, _ => ⟨rfl, rfl⟩
 | e :: r, [], h, _ => by cases h
 | e :: r, k :: ks, h, hz => by
  have h1 : He.keyOf e :: r.map He.keyOf = some (k, PyData.keyHash P k) :: He.keysIn P ks := h
  injection h1 with h2 h3
  obtain ⟨i1, i2⟩ := DB h3 (fun m => hz (aV _ m))
  unfold He.keyOf at h2;split at h2
  ·rename_i x t q
   obtain ⟨h5, h6⟩ := Prod.mk.inj (Option.some.inj h2);have nz : e.key.isStr z = false := by
    rw [q]
    show decide (x = z) = false
    exact decide_eq_false fun e => hz (by rw [<- e, h5]; exact aY ..)
   constructor
   ·rw [List.find?_cons, nz]; exact i1
   ·rw [GE, i2, GF]
    show e.refKey = false
    unfold DictEntry.refKey;rw [q]
  ·cases h2
theorem Iz {K : aD} {P : Params} {a : Addr} {ks : List Str} {z : Str} (h : He.dicW K a = some (He.keysIn P ks)) (hz : z ∉ ks) : jB K a z = some none := by
 unfold He.dicW at h;cases q : K.lookup a with
 | none => rw [q] at h; cases h
 | some o =>
  obtain ⟨oc, od, dt, osl⟩ := o;rw [q] at h;cases oc with
  | type c =>
   cases od with
   | none =>
    cases dt with
    | dict es n =>
     have h1 : (match decide (c = "dict") && (osl.isEmpty && !(a == sysModules)) with
      | true => some (es.toList.map He.keyOf)
      | false => none) = some (He.keysIn P ks) := h
     cases y : decide (c = "dict") && (osl.isEmpty && !(a == sysModules)) with
     | false => rw [y] at h1; cases h1
     | true =>
      rw [y] at h1;obtain ⟨i1, i2⟩ := DB (Option.some.inj h1) hz;unfold jB;rw [q]
      show (match es.toList.find? (·.key.isStr z) with | some e => some (some e.val) | none => if es.toList.any (·.refKey) then none else some none) = some none
      rw [i1, i2];rfl
    | _ => cases h
   | some b => cases dt <;> cases h
  | _ => cases od <;> cases dt <;> cases h
theorem AI {κ β : Type} [BEq κ] [LawfulBEq κ] {z : κ} {v : β} : ∀ {l : List (κ × β)}, l.lookup z = some v -> (z, v) ∈ l
 | [], h => by cases h
 | (k, u) :: r, h => by
  rw [gT] at h;cases e : z == k with
  | true =>
   rw [e] at h;have e2 : z = k := eq_of_beq e;have e3 : u = v := Option.some.inj h;rw [e2, e3];exact aY ..
  | false =>
   rw [e] at h;exact aV _ (AI h)
theorem lookup_none {κ β : Type} [BEq κ] [LawfulBEq κ] {z : κ} : ∀ {l : List (κ × β)}, l.lookup z = none -> z ∉ l.map (·.1)
 | [], _ => by simp
 | (k, u) :: r, h => by
  rw [gT] at h;cases e : z == k with
  | true => rw [e] at h; cases h
  | false =>
   rw [e] at h;have ne : z ≠ k := by simpa using e
   intro m;rcases bN.mp m with m | m
   ·exact ne m
   ·exact lookup_none h m
theorem Q3 {K : aD} {P : Params} (h : limB K = true) (d : He.dicW K (He.ga K "LIMITS") = some (He.keysIn P (limits.map (·.1)))) : Lim K where
 pos := fun z m lo hi e => by
  obtain ⟨h1, h2⟩ := He.ba (bZ.mp h (z, m, lo, hi) (AI e));exact ⟨He.eqO_ok h1, IX h2⟩
 neg := fun z e => Iz d (lookup_none e)
theorem Kj {P : Program} {w : World} {K : aD} {mg : Str -> Option Value} {x : Str} {st : Stmt} {N ps : List Str} {k : Nat} {md : FD} {mb : FS} (F : mK K x st) (S : FnScope N ps (defScope st)) (R : Runs md N.length ps.length mb)
  (bnd : ∀ (kV doc pm : Value) (an : Option Addr) (cdv ct : Value) (us : List Value), us.length = ps.length -> bindArgs (eW x x (defArgs st) (defBody st) (defScope st) .none kV doc pm an cdv ct) ⟨us, []⟩ = pure (ps.zip us))
  (hbody : ∀ (base : Heap) (cdv : Value) (A : Around) (outer : List Env) (s : Shared) (H : Hp) (E : XK), Room k (A.deeper (envOfC x (defScope st) s.heap.objs.size (He.ga K x) cdv)) ->
   PSs (cxOf (L2.CX P w) P w K mg base N x (defScope st) (He.ga K x) cdv A outer s H E) (defBody st) (hW K (fun c x _ H => E c x H) mb)) :
  ∃ fd, (∀ (s : Shared) (us : List Value), us.length = ps.length -> BindsTo s fd ⟨us, []⟩ (ps.zip us)) /\ ∀ base, FnOk P w K mg base (L2.CX P w) (k + 1) (He.ga K x) fd ps (spF K md) := by
 obtain ⟨fd, F⟩ := F;refine ⟨fd, fun s us hl => F.bindsA bnd s us hl, fun base => ?_⟩
 obtain ⟨oc, od, dV, kV, doc, pm, an, cdv, ct, osl, e, lk, hc⟩ := F.ex;subst e;exact fn_of lk hc.1 S (An R) fun A outer s H vs Q E hr hsp => ⟨_, hbody base cdv A outer s H E hr, xC R hsp⟩
theorem law_start {K : aD} {md : FD} {n : Nat} (h : ∀ ns : List Int, ns.length <= n -> ∃ S, md [.scr ns] [] = .ok (.dat (.bl true)) S) (H : Hp) (a : Addr) (ns : List Int) (hl : ns.length <= n) (hO : Only H) (hS : SqL K H a (ns.map V.int)) : spF K md [.ref a] H (fun v _ => v = .bl true) fun _ _ _ => False := by
 obtain ⟨S, e⟩ := h ns hl;refine ⟨fun _ => False, [], [], [.scr ns], ⟨rfl, fun n c a h => by simp at h, fun n m c c' a h => by simp at h, fun a ⟨n, c, h, _⟩ => by simp at h, fun a h => h.elim⟩, ⟨_, _, rfl, ⟨a, rfl, ?_⟩, rfl⟩, ?_⟩
 ·rcases hS with (h | ⟨o, h⟩) | h
  ·rcases hO a with q | ⟨o, xs, q⟩
   ·rw [h] at q; cases q
   ·rw [h] at q; cases q
  ·exact .inl ⟨o, h⟩
  ·exact .inr (.inr h)
 ·rw [e]
  exact fun φ' v H' _ _ r => r
theorem N0 {K : aD} {C : Addr} (q : Pj K C = true) : ∃ nm q N bs bm sn sub ab col dd k0 k1 k2 k3 k5, K.lookup C = some (excClassObj nm q C N bs bm true sn sub ab col dd k0 k1 k2 k3 k5 "ValueError.__new__") /\ PySem.HandSPX.refsVE bm = true := by
 unfold Pj at q;split at q
 ·rename_i dd cd sl ho
  split at q
  ·rename_i C' bm k0 k1 k2 k3 n k5 hm hs
   simp only [fJ, beq_iff_eq, Bool.not_eq_true'] at q;obtain ⟨⟨⟨⟨rfl, rfl⟩, hdel⟩, hdi⟩, hbm⟩ := q;obtain ⟨nm, bs, mro, ns, qn, hd, sn, sub, ab, col, del⟩ := cd;dsimp only at hm hdel hdi;subst hm hdel hdi;have hsl : sl = #[k0, k1, k2, k3, some (.builtin "ValueError.__new__"), k5] := by
    obtain ⟨l⟩ := sl;simp only at hs;rw [hs]
   subst hsl;exact ⟨nm, qn, ns, bs, bm, sn, sub, ab, col, dd, k0, k1, k2, k3, k5, ho, hbm⟩
  ·cases q
 ·cases q
structure XaF (K : aD) (mg : Str -> Option Value) (x : Str) (fs : List Str) : Prop where
 cls : OexC K (He.ga K x)
 ini : cG K (.ref (He.ga K x)) "__init__" = some (some (.ref (He.ma K (He.ga K x) "__init__")))
 ty : lM K (.ref (He.ma K (He.ga K x) "__init__")) = some (.type "function")
 glo : mg x = some (.ref (He.ga K x))
 rd : XfC K (He.ga K x)
 no : ∀ f ∈ fs, cG K (.ref (He.ga K x)) f = some none
theorem Di {K : aD} {mg : Str -> Option Value} {x : Str} {fs : List Str} (h : xaB K x fs = true) (g : mg x = some (.ref (He.ga K x))) : XaF K mg x fs := by
 obtain ⟨h1, h⟩ := He.ba h;obtain ⟨h2, h⟩ := He.ba h;obtain ⟨h3, h⟩ := He.ba h;obtain ⟨h4, h⟩ := He.ba h;obtain ⟨h5, h⟩ := He.ba h;obtain ⟨h6, h⟩ := He.ba h;obtain ⟨h7, h⟩ := He.ba h;obtain ⟨h8, h9⟩ := He.ba h;exact ⟨⟨N0 h1, of_decide_eq_true h2, of_decide_eq_true h3, of_decide_eq_true h4, h5⟩, of_decide_eq_true h6, of_decide_eq_true h7, g, xfB_ok h8, fun f hf => of_decide_eq_true (bZ.mp h9 f hf)⟩
section
variable {P : Program} {w : World} {K : aD} {mg : Str -> Option Value} {base : Heap}
theorem xB {C : Addr} {f a b : Str} : ∀ vs H Q E, Do C f vs H Q E -> vs.length = [a, b].length := fun vs H Q E ⟨_, _, e, _⟩ => by rw [e]; rfl
theorem K2 {C : Addr} {f g a b c : Str} : ∀ vs H Q E, PZ C f g vs H Q E -> vs.length = [a, b, c].length := fun vs H Q E ⟨_, _, _, e, _⟩ => by rw [e]; rfl
theorem EE {x m q : Str} {fs : List Str} {st : Stmt} {N ps : List Str} {k : Nat} {sp : Sp} (T : XaF K mg x fs) (F : Jt K x "__init__" q st) (S : FnScope N ps (defScope st)) (len : ∀ vs H Q E, sp vs H Q E -> vs.length = ps.length)
  (bnd : ∀ (kV doc pm : Value) (an : Option Addr) (cdv ct : Value) (us : List Value), us.length = ps.length -> bindArgs (eW "__init__" q (defArgs st) (defBody st) (defScope st) .none kV doc pm an cdv ct) ⟨us, []⟩ = pure (ps.zip us))
  (hbody : ∀ (cdv : Value) (A : Around) (outer : List Env) (s : Shared) (H : Hp) (vs : List V) (Q : VK) (E : XK), Room k (A.deeper (envOfC q (defScope st) s.heap.objs.size (He.ma K (He.ga K x) "__init__") cdv)) -> sp vs H Q E ->
   ∃ t, PSs (cxOf CX0 P w K mg base N q (defScope st) (He.ma K (He.ga K x) "__init__") cdv A outer s H E).nox (defBody st) t /\ t { nx := fun _ H' => Q .non H', rt := Q } (start N vs) H) : XcA P w K mg base (k + 1) x ps sp := by
 obtain ⟨fd, F⟩ := F;refine ⟨T.cls, T.ini, T.ty, ⟨fd, FunD.ok F S len fun cdv A outer s H vs Q E hr hsp => ?_, F.bindsN bnd⟩, T.glo⟩
 obtain ⟨t, h, q⟩ := hbody cdv A outer s H vs Q E hr hsp;exact ⟨t, h.nox, q⟩
end
section
variable {X : Cx} {W : WX} {e a b c o i : Expr} {es rest : List Expr} {pos p q p2 tpos apos cpos pos' np : Pos} {x y z f mn C : Str} {K : aD} {ma mb mc mo mx : FE} {mas : FA} {B : Addr -> Prop} {φ φ' : List Addr} {S S' : aM} {H H' : Hp} {σ : L2.St} {Q : VK} {m n : FS} {D : Ends} {ps : List Str} {md : FD} {j k : Nat}
def Og (n : Nat) : List PH.D := (bV n).map fun (k : Nat) => PH.D.int (((n : Nat) : Int) - 1 - (k : Int))
def Pq (a : FE) : FI := fun ρ S => (a ρ S).bind fun x S1 => match x with
 | .dat (.int j) => if -(2 ^ 62) <= j /\ j < 2 ^ 62 then .ok (Og j.toNat) S1 else .stuck
 | _ => .stuck
end
theorem Hj {K : aD} {mg : Str -> Option Value} {x f : Str} {fs : List Str} {a : Addr} {y : V} {H : Hp} {Q : VK} {D : Ends} (T : XaF K mg x fs) (hf : f ∈ fs) (ha : H a = some (exo a (He.ga K x) none)) (hD : ∀ σ H, D.nx σ H = Q .non H) (h : ∀ dx, H dx = none -> dx ≠ a -> Q .non (upd (upd H dx (exd dx [(f, y)])) a (exo a (He.ga K x) (some dx)))) :
  tOst K f (vL 0) (vL 1) D [some (.ref a), some y] H := ⟨a, He.ga K x, rfl, T.cls, T.no f hf, .inl ⟨ha, fun dx n ne => by rw [hD]; exact h dx n ne⟩⟩
theorem rd_X2 {K : aD} {mg : Str -> Option Value} {x f g : Str} {fs : List Str} {a : Addr} {y z : V} {H : Hp} {Q : VK} {D : Ends} (T : XaF K mg x fs) (hf : f ∈ fs) (hg : g ∈ fs) (ha : H a = some (exo a (He.ga K x) none)) (hD : ∀ σ H, D.nx σ H = Q .non H) (h : ∀ dx, H dx = none -> dx ≠ a -> Q .non (upd (upd (upd H dx (exd dx [(f, y)])) a (exo a (He.ga K x) (some dx))) dx (exd dx [(g, z), (f, y)]))) :
  tSeq (tOst K f (vL 0) (vL 1)) (tOst K g (vL 0) (vL 2)) D [some (.ref a), some y, some z] H :=
 ⟨a, He.ga K x, rfl, T.cls, T.no f hf, .inl ⟨ha, fun dx n ne => ⟨a, He.ga K x, rfl, T.cls, T.no g hg, .inr ⟨dx, [(f, y)], upd_same, by rw [upd_ne ne, upd_same], by simp, by rw [hD]; exact h dx n ne⟩⟩⟩⟩
theorem AM {k : Nat} {A : Around} (r : Room k A) : A.units + 65 < cLine := by have := r.un; omega
theorem QQ {K : aD} {C : Str} (h : isB K C = true) (c : Cls K (He.ga K C)) : IsF K C := by
 obtain ⟨h1, h⟩ := He.ba h;obtain ⟨h2, h⟩ := He.ba h;obtain ⟨h3, h4⟩ := He.ba h;exact ⟨c, of_decide_eq_true h1, of_decide_eq_true h2, of_decide_eq_true h3, of_decide_eq_true h4⟩
section
variable {α β : Type} {a b c o i e : FE} {r : FA} {t u : FT} {m n : FS} {ρ : Ev} {S : aM} {x y z : Vl} {f g : Vl -> Vl -> aM -> Res Vl} {h : Vl -> aM -> Res Vl} {md : FD}
theorem DH {d : α} {k : α -> aM -> Res β} : (Res.ok d S).bind k = k d S := rfl
theorem HE {x : Er} {k : α -> aM -> Res β} : (Res.err x S : Res α).bind k = .err x S := rfl
theorem Fe {d : α} {k : α -> aM -> Out} : (Res.ok d S).toS ρ k = k d S := rfl
theorem JD {x : Er} {k : α -> aM -> Out} : (Res.err x S : Res α).toS ρ k = .err x ρ S := rfl
theorem P6 {k : Nat} : aC k ρ S = (match lk ρ k with | some d => .ok d S | none => .stuck) := rfl
theorem g_c {d : D} : mC d ρ S = .ok (.dat d) S := rfl
def kOp1 (f : Vl -> Vl -> aM -> Res Vl) (b : FE) (ρ : Ev) (x : Vl) (S : aM) : Res Vl := (b ρ S).bind (f x)
theorem g_op : aX f a b ρ S = (a ρ S).bind (kOp1 f b ρ) := rfl
theorem g_op1 : kOp1 f b ρ x S = (b ρ S).bind (f x) := rfl
theorem g_1 : m1 h a ρ S = (a ρ S).bind h := rfl
theorem g_B : mB a ρ S = (a ρ S).bind unB := rfl
theorem g_unB {k : Bool} : unB (.dat (.bl k)) S = .ok k S := rfl
theorem QX : bY a ρ S = (a ρ S).bind B0 := rfl
def QI (u : FT) (ρ : Ev) (c : Bool) (S : aM) : Res Bool := if c = true then u ρ S else .ok false S
def kOr (u : FT) (ρ : Ev) (c : Bool) (S : aM) : Res Bool := if c = true then .ok true S else u ρ S
def kNot (c : Bool) (S : aM) : Res Bool := .ok (!c) S
theorem g_and : xQ t u ρ S = (t ρ S).bind (QI u ρ) := rfl
theorem g_or : pK t u ρ S = (t ρ S).bind (kOr u ρ) := rfl
theorem g_not : dY t ρ S = (t ρ S).bind kNot := rfl
theorem LG : QI u ρ true S = u ρ S := rfl
theorem LH : QI u ρ false S = .ok false S := rfl
theorem NZ : kOr u ρ true S = .ok true S := rfl
theorem Na : kOr u ρ false S = u ρ S := rfl
theorem Qq {c : Bool} : kNot c S = .ok (!c) S := rfl
def Kx (b : FE) (ρ : Ev) (x : Vl) (S : aM) : Res Vl := match x with
 | .dat (.bl c) => if c = true then b ρ S else .ok (.dat (.bl false)) S
 | _ => .stuck
def QD (b : FE) (ρ : Ev) (x : Vl) (S : aM) : Res Vl := match x with
 | .dat (.bl c) => if c = true then .ok (.dat (.bl true)) S else b ρ S
 | _ => .stuck
theorem RC : iF a b ρ S = (a ρ S).bind (Kx b ρ) := rfl
theorem g_orV : Pr a b ρ S = (a ρ S).bind (QD b ρ) := rfl
theorem JJ : Kx b ρ (.dat (.bl true)) S = b ρ S := rfl
theorem JK : Kx b ρ (.dat (.bl false)) S = .ok (.dat (.bl false)) S := rfl
theorem LD : QD b ρ (.dat (.bl true)) S = .ok (.dat (.bl true)) S := rfl
theorem LF : QD b ρ (.dat (.bl false)) S = b ρ S := rfl
def kNV (k : Bool) (S : aM) : Res Vl := .ok (.dat (.bl (!k))) S
def Ow (x : Vl) (S : aM) : Res Vl := (B0 x S).bind kNV
theorem Qi : Hs a ρ S = (a ρ S).bind Ow := rfl
theorem Nh : Ow x S = (B0 x S).bind kNV := rfl
theorem g_kNV {k : Bool} : kNV k S = .ok (.dat (.bl (!k))) S := rfl
def Hw (b : FE) (ρ : Ev) (x : Vl) (k : Bool) (S : aM) : Res Vl := if k = true then .ok x S else b ρ S
def kOrT (b : FE) (ρ : Ev) (x : Vl) (S : aM) : Res Vl := (B0 x S).bind (Hw b ρ x)
theorem g_orT : Pt a b ρ S = (a ρ S).bind (kOrT b ρ) := rfl
theorem Qs : kOrT b ρ x S = (B0 x S).bind (Hw b ρ x) := rfl
theorem LN : Hw b ρ x true S = .ok x S := rfl
theorem LO : Hw b ρ x false S = b ρ S := rfl
theorem L9 {k : Bool} : B0 (.dat (.bl k)) S = .ok k S := rfl
def NC (g : Vl -> Vl -> aM -> Res Vl) (c : FE) (ρ : Ev) (y z : Vl) (S : aM) : Res Vl := match z with
 | .dat (.bl k) => if k = true then (c ρ S).bind (g y) else .ok (.dat (.bl false)) S
 | _ => .stuck
def QF (f g : Vl -> Vl -> aM -> Res Vl) (c : FE) (ρ : Ev) (x y : Vl) (S : aM) : Res Vl := (f x y S).bind (NC g c ρ y)
def kCh1 (f g : Vl -> Vl -> aM -> Res Vl) (b c : FE) (ρ : Ev) (x : Vl) (S : aM) : Res Vl := (b ρ S).bind (QF f g c ρ x)
theorem Nw : jD f g a b c ρ S = (a ρ S).bind (kCh1 f g b c ρ) := rfl
theorem g_ch1 : kCh1 f g b c ρ x S = (b ρ S).bind (QF f g c ρ x) := rfl
theorem g_ch2 : QF f g c ρ x y S = (f x y S).bind (NC g c ρ y) := rfl
theorem Nx : NC g c ρ y (.dat (.bl true)) S = (c ρ S).bind (g y) := rfl
theorem Ny : NC g c ρ y (.dat (.bl false)) S = .ok (.dat (.bl false)) S := rfl
def kIf (a b : FE) (ρ : Ev) (c : Bool) (S : aM) : Res Vl := if c = true then a ρ S else b ρ S
theorem g_if : mIf t a b ρ S = (t ρ S).bind (kIf a b ρ) := rfl
theorem Nb : kIf a b ρ true S = a ρ S := rfl
theorem Nc : kIf a b ρ false S = b ρ S := rfl
theorem P7 : aI ρ S = .ok [] S := rfl
def Gu (x : Vl) (xs : List Vl) (S : aM) : Res (List Vl) := .ok (x :: xs) S
def Ku (r : FA) (ρ : Ev) (x : Vl) (S : aM) : Res (List Vl) := (r ρ S).bind (Gu x)
theorem Ld : aB a r ρ S = (a ρ S).bind (Ku r ρ) := rfl
theorem IG : Ku r ρ x S = (r ρ S).bind (Gu x) := rfl
theorem IF {xs : List Vl} : Gu x xs S = .ok (x :: xs) S := rfl
def Bp (cl : Bool) (xs : List Vl) (S : aM) : Res Vl := match wR xs with
 | some ds => if ds.length <= sizeLine then newL cl ds S else .stuck
 | none => .stuck
def kTup (xs : List Vl) (S : aM) : Res Vl := match wR xs with
 | some ds => if ds.length <= sizeLine then .ok (.dat (.tup ds)) S else .stuck
 | none => .stuck
theorem g_lst {cl : Bool} : bK cl r ρ S = (r ρ S).bind (Bp cl) := rfl
theorem g_tup : cE r ρ S = (r ρ S).bind kTup := rfl
theorem HF : wR [] = some [] := rfl
theorem Fj {d : D} {xs : List Vl} : wR (.dat d :: xs) = (match wR xs with | some ds => some (d :: ds) | none => none) := rfl
theorem kTup0 : kTup [] S = .ok (.dat (.tup [])) S := rfl
theorem kTup1 {d : D} : kTup [.dat d] S = .ok (.dat (.tup [d])) S := rfl
theorem kTup2 {d e : D} : kTup [.dat d, .dat e] S = .ok (.dat (.tup [d, e])) S := rfl
theorem kTup3 {d e f : D} : kTup [.dat d, .dat e, .dat f] S = .ok (.dat (.tup [d, e, f])) S := rfl
theorem kTup4 {d e f g : D} : kTup [.dat d, .dat e, .dat f, .dat g] S = .ok (.dat (.tup [d, e, f, g])) S := rfl
theorem kLst0 {cl : Bool} : Bp cl [] S = newL cl [] S := rfl
theorem kLst1 {cl : Bool} {d : D} : Bp cl [.dat d] S = newL cl [d] S := rfl
theorem kLst2 {cl : Bool} {d e : D} : Bp cl [.dat d, .dat e] S = newL cl [d, e] S := rfl
theorem kLst3 {cl : Bool} {d e f : D} : Bp cl [.dat d, .dat e, .dat f] S = newL cl [d, e, f] S := rfl
theorem Qk {ds : List D} : newL false ds S = .ok (.dat (.lst ds)) S := rfl
theorem Qj {ds : List D} : newL true ds S = .ok (.cel S.length) (S ++ [.lst ds]) := rfl
theorem Li : aO md r ρ S = (r ρ S).bind md := rfl
def Q6 (cl : Bool) (x : Vl) (lo : Option Int) (hi : Option Int) (S : aM) : Res Vl := IH cl x lo hi S
def Q7 (cl : Bool) (h : FO) (ρ : Ev) (x : Vl) (lo : Option Int) (S : aM) : Res Vl := (h ρ S).bind (Q6 cl x lo)
def kSl0 (cl : Bool) (l h : FO) (ρ : Ev) (x : Vl) (S : aM) : Res Vl := (l ρ S).bind (Q7 cl h ρ x)
theorem g_sl {cl : Bool} {l h : FO} : Ka cl a l h ρ S = (a ρ S).bind (kSl0 cl l h ρ) := rfl
theorem g_sl0 {cl : Bool} {l h : FO} : kSl0 cl l h ρ x S = (l ρ S).bind (Q7 cl h ρ x) := rfl
theorem g_sl1 {cl : Bool} {h : FO} {lo : Option Int} : Q7 cl h ρ x lo S = (h ρ S).bind (Q6 cl x lo) := rfl
theorem g_sl2 {cl : Bool} {lo hi : Option Int} : Q6 cl x lo hi S = IH cl x lo hi S := rfl
theorem g_noP : Bm ρ S = .ok none S := rfl
def Ov (x : Vl) (S : aM) : Res (Option Int) := match x with
 | .dat (.int i) => .ok (some i) S
 | _ => .stuck
theorem Qg : tV a ρ S = (a ρ S).bind Ov := rfl
theorem Ng {i : Int} : Ov (.dat (.int i)) S = .ok (some i) S := rfl
def J5 (x : Vl) (S : aM) : Res Vl := match x with
 | .cel n => (match S[n]? with
  | some (.lst ds) => .ok (.dat (.lst ds)) (S.set n .dead)
  | _ => .stuck)
 | _ => .stuck
theorem g_frz : Ca a ρ S = (a ρ S).bind J5 := rfl
theorem zU {n : Nat} {ds : List D} (h : S[n]? = some (.lst ds)) : J5 (.cel n) S = .ok (.dat (.lst ds)) (S.set n .dead) := by simp only [J5, h]
def QH (b : FE) (ρ : Ev) (x : Vl) (S : aM) : Res Vl := match hG S x with
 | some _ => (b ρ S).bind (EV x)
 | none => .stuck
theorem g_app : vK a b ρ S = (a ρ S).bind (QH b ρ) := rfl
theorem tZ {n : Nat} {ds : List D} (h : S[n]? = some (.lst ds)) : QH b ρ (.cel n) S = (b ρ S).bind (EV (.cel n)) := by simp only [QH, hG, h]
theorem zV {n : Nat} {ds : List D} {d : D} (h : S[n]? = some (.lst ds)) (hl : ds.length < sizeLine) : EV (.cel n) (.dat d) S = .ok (.dat .non) (S.set n (.lst (ds ++ [d]))) := by simp only [EV, h, hl, if_true]
def Out.seq (o : Out) (n : FS) : Out := match o with
 | .next ρ S => n ρ S
 | o => o
theorem DG : aK m n ρ S = (m ρ S).seq n := rfl
theorem HC : (Out.next ρ S).seq n = n ρ S := rfl
theorem JE {d : Vl} : (Out.ret d S).seq n = .ret d S := rfl
theorem JF {x : Er} : (Out.err x ρ S).seq n = .err x ρ S := rfl
theorem JH : (Out.brk ρ S).seq n = .brk ρ S := rfl
theorem JG : (Out.cnt ρ S).seq n = .cnt ρ S := rfl
theorem QZ : aZ ρ S = .next ρ S := rfl
def QA (d : Vl) (S : aM) : Out := .ret d S
theorem g_ret : bI a ρ S = (a ρ S).toS ρ QA := rfl
theorem Qr {d : Vl} : QA d S = .ret d S := rfl
def Oz (ρ : Ev) (d : Vl) (S : aM) : Out := .next ρ S
theorem R9 : eV a ρ S = (a ρ S).toS ρ (Oz ρ) := rfl
theorem Nl {d : Vl} : Oz ρ d S = .next ρ S := rfl
def QE (m n : FS) (ρ : Ev) (c : Bool) (S : aM) : Out := if c = true then m ρ S else n ρ S
theorem g_ifS : bJ t m n ρ S = (t ρ S).toS ρ (QE m n ρ) := rfl
theorem LQ : QE m n ρ true S = m ρ S := rfl
theorem LR : QE m n ρ false S = n ρ S := rfl
def Gv (t : Tg) (ρ : Ev) (d : Vl) (S : aM) : Out := match sJ t d ρ with
 | some ρ' => .next ρ' S
 | none => .stuck
theorem g_asg {t : Tg} : bL a t ρ S = (a ρ S).toS ρ (Gv t ρ) := rfl
theorem Qv {k : Nat} {d : Vl} : Gv (.nm k) ρ d S = .next (ρ.set k (some d)) S := rfl
theorem Nn {i j : Nat} {d e : D} : Gv (.tp [i, j]) ρ (.dat (.tup [d, e])) S = .next ((ρ.set i (some (.dat d))).set j (some (.dat e))) S := rfl
theorem Nm {i j k : Nat} {d e f : D} : Gv (.tp [i, j, k]) ρ (.dat (.tup [d, e, f])) S = .next (((ρ.set i (some (.dat d))).set j (some (.dat e))).set k (some (.dat f))) S := rfl
def kFor (t : Tg) (m : FS) (ρ : Ev) (ds : List D) (S : aM) : Out := loop t m ds ρ S
theorem g_for {mi : FI} {t : Tg} : kP mi t m ρ S = (mi ρ S).toS ρ (kFor t m ρ) := rfl
theorem Qu {t : Tg} {ds : List D} : kFor t m ρ ds S = loop t m ds ρ S := rfl
def CL (cl : Bool) (t : Tg) (u : FT) (e : FE) (ρ : Ev) (vs : List Nat) (ds : List D) (S : aM) : Res Vl := if ds.length <= sizeLine then (match nQ t u e (wipeE ρ vs) ds S with
 | .ok es S2 => newL cl es S2
 | _ => .stuck) else .stuck
theorem NY {cl : Bool} {mi : FI} {t : Tg} {vs : List Nat} : Bn cl mi t u e vs ρ S = (mi ρ S).bind (CL cl t u e ρ vs) := rfl
theorem Qc : jL a ρ S = (a ρ S).bind itemsOf := rfl
theorem LX {ds : List D} : itemsOf (.dat (.lst ds)) S = .ok ds S := rfl
theorem LW {ds : List D} : itemsOf (.dat (.tup ds)) S = .ok ds S := rfl
def tX (x : Vl) (S : aM) : Res (List D) := match x with
 | .dat (.int j) => if -(2 ^ 62) <= j /\ j < 2 ^ 62 then .ok (jH 0 j.toNat) S else .stuck
 | _ => .stuck
theorem Qd : gX a ρ S = (a ρ S).bind tX := rfl
theorem iV {j : Int} (h1 : -(2 ^ 62) <= j) (h2 : j < 2 ^ 62) : tX (.dat (.int j)) S = .ok (jH 0 j.toNat) S := by unfold tX; exact if_pos ⟨h1, h2⟩
def kRev1 (x : Vl) (S : aM) : Res (List D) := match x with
 | .dat (.int j) => if -(2 ^ 62) <= j /\ j < 2 ^ 62 then .ok (Og j.toNat) S else .stuck
 | _ => .stuck
theorem NT : Pq a ρ S = (a ρ S).bind kRev1 := rfl
def Oy (x : Vl) (S : aM) : Res (List D) := match x with
 | .dat (.lst ds) => .ok (cJ 0 ds) S
 | _ => .stuck
theorem R8 : sO a ρ S = (a ρ S).bind Oy := rfl
theorem Nk {ds : List D} : Oy (.dat (.lst ds)) S = .ok (cJ 0 ds) S := rfl
def Out.wipe (o : Out) (is : List Nat) : Out := match o with
 | .next ρ S => .next (wipeE ρ is) S
 | .cnt ρ S => .cnt (wipeE ρ is) S
 | .brk ρ S => .brk (wipeE ρ is) S
 | o => o
theorem QT {is : List Nat} : eU is m ρ S = (m ρ S).wipe is := by unfold eU Out.wipe; cases m ρ S <;> rfl
theorem Fc {is : List Nat} : (Out.next ρ S).wipe is = .next (wipeE ρ is) S := rfl
theorem H7 {is : List Nat} {d : Vl} : (Out.ret d S).wipe is = .ret d S := rfl
theorem HA {is : List Nat} {x : Er} : (Out.err x ρ S).wipe is = .err x ρ S := rfl
theorem RE {cl : Bool} {i j : Int} : dD cl (.dat (.int i)) (.dat (.int j)) S = .ok (.dat (.int (i + j))) S := rfl
theorem QY {i j : Int} : uD (.dat (.int i)) (.dat (.int j)) S = .ok (.dat (.int (i - j))) S := rfl
theorem nE {i j : Int} (h : 0 < j) : wI (.dat (.int i)) (.dat (.int j)) S = .ok (.dat (.int (i % j))) S := if_pos h
theorem EK {i j : Int} (h : IntMulOk i j) : A1 (.dat (.int i)) (.dat (.int j)) S = .ok (.dat (.int (i * j))) S := if_pos h
theorem xS {i j : Int} (h : CDiv i j) : pO (.dat (.int i)) (.dat (.int j)) S = .ok (.dat (.int (i / j))) S := if_pos h
theorem g_ltI {i j : Int} : ET (.dat (.int i)) (.dat (.int j)) S = .ok (.dat (.bl (decide (i < j)))) S := rfl
theorem g_leI {i j : Int} : HK (.dat (.int i)) (.dat (.int j)) S = .ok (.dat (.bl (decide (i <= j)))) S := rfl
theorem g_gtI {i j : Int} : GH (.dat (.int i)) (.dat (.int j)) S = .ok (.dat (.bl (decide (j < i)))) S := rfl
theorem g_geI {i j : Int} : fGe (.dat (.int i)) (.dat (.int j)) S = .ok (.dat (.bl (decide (j <= i)))) S := rfl
theorem g_eqI {i j : Int} : gC (.dat (.int i)) (.dat (.int j)) S = .ok (.dat (.bl (decide (i = j)))) S := rfl
theorem g_neI {i j : Int} : A0 (.dat (.int i)) (.dat (.int j)) S = .ok (.dat (.bl (!decide (i = j)))) S := rfl
theorem g_eqS {i j : Str} : gC (.dat (.str i)) (.dat (.str j)) S = .ok (.dat (.bl (decide (i = j)))) S := rfl
theorem g_neS {i j : Str} : A0 (.dat (.str i)) (.dat (.str j)) S = .ok (.dat (.bl (!decide (i = j)))) S := rfl
theorem g_eqB {i j : Bool} : gC (.dat (.bl i)) (.dat (.bl j)) S = .ok (.dat (.bl (i == j))) S := by cases i <;> cases j <;> rfl
theorem g_neB {i j : Bool} : A0 (.dat (.bl i)) (.dat (.bl j)) S = .ok (.dat (.bl (!(i == j)))) S := by cases i <;> cases j <;> rfl
theorem g_neg {i : Int} : oS (.dat (.int i)) S = .ok (.dat (.int (-i))) S := rfl
theorem Qw {i : Int} : Ae (.dat (.int i)) S = .ok (.dat (.int i)) S := rfl
theorem Qx {k : Bool} : Ae (.dat (.bl k)) S = .ok (.dat (.int (if k then 1 else 0))) S := rfl
theorem Qo {xs : List D} : cK (.dat (.tup xs)) S = .ok (.dat (.int xs.length)) S := rfl
theorem Qp {xs : List D} : cK (.dat (.lst xs)) S = .ok (.dat (.int xs.length)) S := rfl
theorem Bu {n : Nat} {xs : List D} (h : S[n]? = some (.lst xs)) : cK (.cel n) S = .ok (.dat (.int xs.length)) S := by simp only [cK, hG, h]
theorem Ff {xs : List D} {k : Int} {d : D} (h : atI xs k = some d) : cQ (.dat (.tup xs)) (.dat (.int k)) S = .ok (.dat d) S := by simp only [cQ, h]
theorem uA {xs : List D} {k : Int} {d : D} (h : atI xs k = some d) : cQ (.dat (.lst xs)) (.dat (.int k)) S = .ok (.dat d) S := by simp only [cQ, hG, h]
theorem P8 {n : Nat} {xs : List D} {k : Int} {d : D} (h : S[n]? = some (.lst xs)) (h2 : atI xs k = some d) : cQ (.cel n) (.dat (.int k)) S = .ok (.dat d) S := by simp only [cQ, hG, h, h2]
theorem RD {cl : Bool} {xs ys : List D} (h : xs.length + ys.length <= sizeLine) : dD cl (.dat (.tup xs)) (.dat (.tup ys)) S = .ok (.dat (.tup (xs ++ ys))) S := if_pos h
theorem jX {cl : Bool} {xs ys : List D} (h : xs.length + ys.length <= sizeLine) : dD cl (.dat (.lst xs)) (.dat (.lst ys)) S = newL cl (xs ++ ys) S := by simp only [dD, hG, h, if_true]
theorem Fi {neg : Bool} : lH neg x (.dat .non) S = .ok (.dat (.bl (if neg then !(isNon x) else isNon x))) S := rfl
theorem fR {α : Type} {xs : List α} {k : Int} {n : Nat} (h : k = (n : Int)) : atI xs k = xs[n]? := by
 subst h;unfold atI ixN
 by_cases hl : n < xs.length
 ·rw [if_pos (by omega), if_pos (by omega)]; simp
 ·rw [if_pos (by omega), if_neg (by omega)]
  simp [sZ hl]
theorem P2 : gK ρ S = .ok true S := rfl
theorem QV {xs : List D} : B0 (.dat (.lst xs)) S = .ok (!xs.isEmpty) S := rfl
theorem QW {i : Int} : B0 (.dat (.int i)) S = .ok (i != 0) S := rfl
theorem Fg {xs : List D} : isNon (.dat (.tup xs)) = false := rfl
theorem Fh : isNon (.dat .non) = true := rfl
theorem g_slT {cl : Bool} {xs : List D} {lo hi : Option Int} : IH cl (.dat (.tup xs)) lo hi S = .ok (.dat (.tup (cutD xs lo hi))) S := rfl
theorem g_slL {cl : Bool} {xs : List D} {lo hi : Option Int} : IH cl (.dat (.lst xs)) lo hi S = newL cl (cutD xs lo hi) S := rfl
theorem g_slS {cl : Bool} {ns : List Int} {lo hi : Option Int} : IH cl (.scr ns) lo hi S = newL cl (cutD (ns.map D.int) lo hi) S := rfl
theorem NX {cl : Bool} {xs : List D} : oU cl (.dat (.lst xs)) S = newL cl xs S := rfl
theorem NW {cl : Bool} {xs : List D} : oU cl (.dat (.tup xs)) S = newL cl xs S := rfl
theorem L5 {xs : List D} : fTuple (.dat (.lst xs)) S = .ok (.dat (.tup xs)) S := rfl
end
section
variable {a b o : FE} {r : FA} {m n : FS} {ρ : Ev} {S : aM} {x y : Vl} {md : FD} {C f : Str} {ns : List Str}
theorem NU : Kc C ρ S = .err ⟨C, [], []⟩ ρ S := rfl
def EI (C : Str) (ns : List Str) (ρ : Ev) (xs : List Vl) (S : aM) : Out := match wR xs with
 | some ds => if ds.length = ns.length then .err ⟨C, ns, ds.reverse⟩ ρ S else .stuck
 | none => .stuck
theorem LB : dR C ns r ρ S = (r ρ S).toS ρ (EI C ns ρ) := rfl
theorem JO {f : Str} {d : D} : EI C [f] ρ [.dat d] S = .err ⟨C, [f], [d]⟩ ρ S := rfl
theorem JN {f g : Str} {d e : D} : EI C [f, g] ρ [.dat d, .dat e] S = .err ⟨C, [f, g], [e, d]⟩ ρ S := rfl
def EH (C f : Str) (ρ : Ev) (d x : Vl) (S : aM) : Out := match Mf S C f x d with
 | some S3 => .next ρ S3
 | none => .stuck
def Ou (C f : Str) (o : FE) (ρ : Ev) (d : Vl) (S : aM) : Out := (o ρ S).toS ρ (EH C f ρ d)
theorem Qb : Kb C f o a ρ S = (a ρ S).toS ρ (Ou C f o ρ) := rfl
theorem Nd {d : Vl} : Ou C f o ρ d S = (o ρ S).toS ρ (EH C f ρ d) := rfl
theorem LL {n : Nat} {d : Vl} {fs : List (Str × Vl)} (h : S[n]? = some (.ins C fs)) (hl : fs.length < 1000) : EH C f ρ d (.cel n) S = .next ρ (S.set n (.ins C (Cr f d fs))) := by simp only [EH, Mf, h, true_and, hl, if_true]
def Hx (kp : Bool) (C : Str) (md : FD) (ds : List Vl) (S : aM) : Res Vl := made kp S.length (md (.cel S.length :: ds) (S ++ [.ins C []]))
theorem Qn {kp : Bool} : Kd kp C md r ρ S = (r ρ S).bind (Hx kp C md) := rfl
def Gq (md : FD) (x : Vl) (ds : List Vl) (S : aM) : Res Vl := md (x :: ds) S
def Ox (C f : Str) (md : FD) (r : FA) (ρ : Ev) (x : Vl) (S : aM) : Res Vl := if qV S C f x = true then (r ρ S).bind (Gq md x) else .stuck
theorem Qm : pL C f md o r ρ S = (o ρ S).bind (Ox C f md r ρ) := rfl
theorem Ni (h : qV S C f x = true) : Ox C f md r ρ x S = (r ρ S).bind (Gq md x) := if_pos h
theorem LP {ds : List Vl} : Gq md x ds S = md (x :: ds) S := rfl
def N9 (C f : Str) (x : Vl) (S : aM) : Res Vl := match Fl S C f x with
 | some d => .ok d S
 | none => .stuck
theorem g_fld : wB C f o ρ S = (o ρ S).bind (N9 C f) := rfl
theorem Nj {ns : List Str} {xs : List D} : N9 C f (.dat (.ins C ns xs)) S = (match (ns.zip xs).lookup f with | some d => .ok (.dat d) S | none => .stuck) := by
 simp only [N9, Fl, if_true];cases (ns.zip xs).lookup f <;> rfl
def Out.tryA (o : Out) (cs : List Str) (c : Str) (k : Nat) (its : List XIt) : Out := match o with
 | .err e ρ' S' => if (e.cls ∈ cs /\ c ∈ cs) /\ k < ρ'.length then (if e.cls = c then (match itF e its with
   | some ds => if ds.length <= sizeLine then .ret (.dat (.tup ds)) S' else .stuck
   | none => .stuck) else .err e ρ' S') else .stuck
 | o => o
theorem QU {cs : List Str} {c : Str} {k : Nat} {its : List XIt} : Oq cs m c k its ρ S = (m ρ S).tryA cs c k its := by unfold Oq Out.tryA; cases m ρ S <;> rfl
theorem Fd {cs : List Str} {c : Str} {k : Nat} {its : List XIt} : (Out.next ρ S).tryA cs c k its = .next ρ S := rfl
theorem HB {cs : List Str} {c : Str} {k : Nat} {its : List XIt} {d : Vl} : (Out.ret d S).tryA cs c k its = .ret d S := rfl
end
theorem hM : ((0 : Nat) : Int) = 0 := rfl
theorem xT : ((1 : Nat) : Int) = 1 := rfl
theorem O6 : ((2 : Nat) : Int) = 2 := rfl
theorem O5 : ((3 : Nat) : Int) = 3 := rfl
theorem O4 : ((4 : Nat) : Int) = 4 := rfl
theorem O3 : ((5 : Nat) : Int) = 5 := rfl
theorem O2 : ((6 : Nat) : Int) = 6 := rfl
theorem O1 : ((7 : Nat) : Int) = 7 := rfl
theorem O0 : ((8 : Nat) : Int) = 8 := rfl
theorem Nz : ((9 : Nat) : Int) = 9 := rfl
theorem Lh : ((10 : Nat) : Int) = 10 := rfl
theorem Lg : ((11 : Nat) : Int) = 11 := rfl
theorem Lf : ((12 : Nat) : Int) = 12 := rfl
theorem Le : ((13 : Nat) : Int) = 13 := rfl
theorem str_inj {a b : String} (h : Str.ofString a = Str.ofString b) : a = b := by
 rw [Str.ofString_eq_toList, Str.ofString_eq_toList] at h
 injection h with h
 have h2 := congrArg Array.toList h;simp only at h2;have : ∀ {l m : List Char}, l.map Char.toNat = m.map Char.toNat -> l = m := fun {l} => by
  induction l with
  | nil => intro m h; cases m <;> simp at h ⊢
  | cons c l ih =>
   intro m h;cases m with
   | nil => simp at h
   | cons d m =>
    simp only [bG, List.cons.injEq] at h;rw [ih h.2];have : c = d := by
     have := congrArg Char.ofNat h.1
     simpa using this
    rw [this]
 exact String.toList_inj.mp (this h2)
theorem K0 {a b : String} : (Str.ofString a = Str.ofString b) = (a = b) := propext ⟨str_inj, fun h => by rw [h]⟩
theorem walk_x {l : PySem.W.OpenLaw} {n k : Nat} {q : Program} {loose : List Str} {XP : (Str -> Option Value) -> Heap -> Prop} {YP : World -> Heap -> Prop} {d : DefRec} {x : Str} (e1 : l.most = some n) (e2 : n <= sizeLine) (e3 : d.params.defaults = []) (e4 : Room k callerA)
  (e5 : ∀ (w : World) (mg : Str -> Option Value) (fa : Addr) (h : Heap), YP w h -> h.Ns mainGlobals mg -> mg d.name = some (.ref fa) -> ∃ (K : aD) (fd : FuncData) (sp : Sp), K.In h /\ (∀ (s : Shared) (u : Value), BindsTo s fd ⟨[u], []⟩ [(x, u)]) /\
   (∀ (H : Hp) (a : Addr) (ns : List Int), ns.length <= n -> Only H -> SqL K H a (ns.map V.int) -> sp [.ref a] H (fun v _ => v = .bl true) fun _ _ _ => False) /\ ∀ base : Heap, K.In base -> base.Ns mainGlobals mg -> FnOk l.prog w K mg base (L2.CX l.prog w) k fa fd [x] sp) :
  PySem.W.WalkO q loose XP YP l.row.toRowW d [] (fun f vs => PySem.call f vs) :=
 Att.attach_call e1 e3 fun w s0 s1 mg mb fa o pm cd doc a vs ns G Y _ _ _ m1 m2 m3 m4 m5 => by
  obtain ⟨K, fd, sp, KX, hb, hs, hF⟩ := e5 w mg fa _ Y G.T.g m1;refine law_call KX G.T.g G.T.b G.T.builtins G.T.nolimit m5 m2 m3 (IU m4 e2) e4 hF hb (fun H h1 h2 => hs H a ns m4 h1 h2) fun H e s' z => ?_
  obtain ⟨_, _, _, _, _, _, _, _, _, _, _, _, h⟩ := z;exact h
section
variable {X : Cx} {W : WX} {C : Str} {md : FD} {o i a b : Expr} {mo mi ma mb : FE} {pos p : Pos} {j k : Nat} {ps : List Str} {K : aD}
def fGetO (C : Str) (md : FD) (x y : Vl) (S : aM) : Res Vl := if qV S C "" x = true then md [x, y] S else .stuck
def fInO (C : Str) (md : FD) (y x : Vl) (S : aM) : Res Vl := if qV S C "" x = true then ME (md [x, y] S) else .stuck
def Gy (x : Int) : List Int -> List Int
 | [] => [x]
 | y :: r => if x <= y then x :: y :: r else y :: Gy x r
def FQ : List Int -> List Int
 | [] => []
 | x :: r => Gy x (FQ r)
theorem zT (x : Int) : ∀ l : List Int, (Gy x l).Perm (x :: l)
 | [] => .refl _
 | y :: r => by
  unfold Gy;split
  ·exact .refl _
  ·exact ((zT x r).cons y).trans (.swap x y r)
theorem Bq : ∀ l : List Int, (FQ l).Perm l
 | [] => .refl _
 | x :: r => (zT x _).trans ((Bq r).cons x)
theorem AL {x : Int} : ∀ {l : List Int}, l.Pairwise (· <= ·) -> (Gy x l).Pairwise (· <= ·)
 | [], _ => by simp [Gy]
 | y :: r, h => by
  obtain ⟨h1, h2⟩ := eC.mp h;unfold Gy;split
  ·rename_i hx
   refine eC.mpr ⟨fun z hz => ?_, h⟩
   rcases bN.mp hz with rfl | hz
   ·exact hx
   ·have := h1 z hz; omega
  ·rename_i hx
   refine eC.mpr ⟨fun z hz => ?_, AL h2⟩
   rcases bN.mp ((zT x r).mem_iff.mp hz) with rfl | hz
   ·omega
   ·exact h1 z hz
theorem xR : ∀ l : List Int, (FQ l).Pairwise (· <= ·)
 | [] => .nil
 | x :: r => AL (xR r)
theorem Cn : ∀ {l m : List Int}, l.Perm m -> l.Pairwise (· <= ·) -> m.Pairwise (· <= ·) -> l = m
 | [], m, h, _, _ => by simpa using h
 | x :: r, [], h, _, _ => by have := h.length_eq; simp at this
 | x :: r, y :: m, h, h1, h2 => by
  obtain ⟨a1, a2⟩ := eC.mp h1;obtain ⟨b1, b2⟩ := eC.mp h2;have e : x = y := by
   have hx : x ∈ y :: m := h.mem_iff.mp (aY ..);have hy : y ∈ x :: r := h.mem_iff.mpr (aY ..);rcases bN.mp hx with e | hx
   ·exact e
   ·rcases bN.mp hy with e | hy
    ·exact e.symm
    ·have := a1 y hy; have := b1 x hx; omega
  subst e;rw [Cn (List.Perm.cons_inv h) a2 b2]
def xV (cl : Bool) (x : Vl) (S : aM) : Res Vl := match hG S x with
 | some ds => (match CD ds with
  | some ns => newL cl ((FQ ns).map D.int) S
  | none => .stuck)
 | none => .stuck
theorem boot_sorted : bootBuiltins "sorted" = some (.builtin "sorted") := by decide +kernel
theorem Ly {cl : Bool} (hm : X.mg "sorted" = none) (ha : PE X a (cY X.K W ma)) (hg : Gl X "sorted" := by rfl) (hs : starEach [a] X.env = [(false, eval a X.env)] := by rfl) : PE X (.Call (.Name "sorted" p) [a] [] pos) (cY X.K W (m1 (xV cl) ma)) :=
 cP (pe_callB cr_sortedI hg hm boot_sorted (pa_cons ha pa_nil hs) (he := hs)) fun σ H Q h => cA (k := fun x _ S => xV cl x S) h fun B φ S ρ d v H1 I E r f => by
  unfold xV at f;split at f
  ·rename_i ds q
   obtain ⟨a, vs, rfl, h1, l⟩ := kQ I q r;split at f
   ·rename_i ns q2
    have e := Da q2 l;subst e;refine ⟨a, ns, rfl, SqL.of h1, fun ns' p hp hw hn => ?_⟩
    have e : ns' = FQ ns := Cn (hp.trans (Bq ns).symm) hw (xR ns);subst e;exact Fin.newL f I (zM _) hn
   ·exact f.elim
  ·exact f.elim
def Ko (x : Vl) (S : aM) : Res (List PH.D) := match x with
 | .dat (.lst ds) => .ok ds.reverse S
 | _ => .stuck
def Os (a : FE) : FI := fun ρ S => (a ρ S).bind Ko
def fMin2 (x y : Vl) (S : aM) : Res Vl := match x, y with
 | .dat (.int i), .dat (.int j) => .ok (.dat (.int (if j < i then j else i))) S
 | _, _ => .stuck
theorem Qe {ρ : Ev} {S : aM} : Os ma ρ S = (ma ρ S).bind Ko := rfl
theorem Nf {S : aM} {ds : List PH.D} : Ko (.dat (.lst ds)) S = .ok ds.reverse S := rfl
theorem Ql {S : aM} {x y : Int} : fMin2 (.dat (.int x)) (.dat (.int y)) S = .ok (.dat (.int (if y < x then y else x))) S := rfl
theorem Qy {S : aM} {x y : Vl} (h : qV S C "" x = true) : fGetO C md x y S = md [x, y] S := if_pos h
theorem g_inO {S : aM} {x y : Vl} (h : qV S C "" x = true) : fInO C md y x S = ME (md [x, y] S) := if_pos h
theorem O9 {S : aM} {b : Bool} : ME (.ok (.dat (.bl b)) S) = .ok (.dat (.bl b)) S := rfl
def Bo (k : Nat) : FS := fun ρ S => match lk ρ k with
 | some (.cel n) => (match S[n]? with
  | some (.lst ds) => .next (ρ.set k (some (.dat (.lst ds)))) (S.set n .dead)
  | _ => .stuck)
 | _ => .stuck
theorem Ey {σ : L2.St} {k : Nat} {v : Option L2.V} (h : σ[k]? = some v) : σ.set k v = σ := by
 apply iN
 intro i;rw [aQ]
 by_cases e : k = i
 ·subst e; rw [if_pos rfl, if_pos (aJ.mp h).1, h]
 ·rw [if_neg e]
theorem OB {sts : List Stmt} {m : FS} (k : Nat) (h : PSs X sts (hW X.K W m)) : PSs X sts (hW X.K W (aK (Bo k) m)) := yS h fun D σ H h => by
 obtain ⟨B, φ, S, ρ, I, E, f⟩ := h;unfold aK Bo at f;cases q : lk ρ k with
 | none => rw [q] at f; exact f.elim
 | some d =>
  rw [q] at f;cases d with
  | cel n =>
   dsimp only at f;cases q2 : S[n]? with
   | none => rw [q2] at f; exact f.elim
   | some c =>
    rw [q2] at f;cases c with
    | lst ds =>
     dsimp only at f;obtain ⟨v, h1, a, rfl, h3⟩ := E.2 k _ (FK q);obtain ⟨vs, h4, l⟩ := I.ok n _ a q2 h3;have X0 := Ext.kill (φ := φ) (S := S) (H := H) (n := n);have nb : ¬ jA B φ (S.set n .dead) a := I.killed q2 (by simp) h3
     have E1 := (E.ext X0 I).set (d := .dat (.lst ds)) (v := .ref a) ⟨a, vs, rfl, nb, h4, X0.repL I l⟩ k;rw [Ey h1] at E1;exact ⟨B, φ, S.set n .dead, _, I.kill, E1, FinS.ext f X0⟩
    | _ => exact f.elim
  | _ => exact f.elim
theorem LZ {k n : Nat} {ρ : Ev} {S : aM} {ds : List PH.D} (h : lk ρ k = some (.cel n)) (h2 : S[n]? = some (.lst ds)) : Bo k ρ S = .next (ρ.set k (some (.dat (.lst ds)))) (S.set n .dead) := by simp only [Bo, h, h2]
end
open AutoSeq1 (wpAny_loadPart')
section
variable {X : Cx} {W : WX} {a : Expr} {ma : FE} {pos p : Pos}
def Pu (a : FE) : FI := fun ρ S => (a ρ S).bind fun x S1 => match x with
 | .dat (.tup ds) => .ok (cJ 0 ds) S1
 | _ => .stuck
def Kt (x : Vl) (S : aM) : Res (List PH.D) := match x with
 | .dat (.tup ds) => .ok (cJ 0 ds) S
 | _ => .stuck
theorem Nr {ρ : Ev} {S : aM} : Pu ma ρ S = (ma ρ S).bind Kt := rfl
theorem LU {S : aM} {ds : List PH.D} : Kt (.dat (.tup ds)) S = .ok (cJ 0 ds) S := rfl
end
section
variable {X : Cx} {W : WX} {e a b c o : Expr} {es rest : List Expr} {pos p q p2 tpos apos cpos : Pos} {x y z C f : Str} {K : aD} {ma mb mc mo me : FE} {mt mu : FT} {mas : FA} {mi mj : FI} {B : Addr -> Prop} {φ φ' : List Addr} {S S' : aM} {H H' : Hp} {σ : L2.St} {Q : VK} {m n : FS} {st : Stmt} {sts : List Stmt} {D : Ends} {t t1 : Tg}
def mLcC (mi : FI) (t : Tg) (vs : List Nat) : FE := fun ρ S => (mi ρ S).bind fun ds S1 => if ds.length <= sizeLine /\ (∀ d ∈ ds, (sJ t (.dat d) (wipeE ρ vs)).isSome = true) then .ok (.cels (rH S1.length ds.length)) (S1 ++ wV ds.length (.lst [])) else .stuck
def kLcC (t : Tg) (ρ : Ev) (vs : List Nat) (ds : List PH.D) (S : aM) : Res Vl := if ds.length <= sizeLine /\ (∀ d ∈ ds, (sJ t (.dat d) (wipeE ρ vs)).isSome = true) then .ok (.cels (rH S.length ds.length)) (S ++ wV ds.length (.lst [])) else .stuck
theorem g_lcC {ρ : Ev} {S : aM} {vs : List Nat} : mLcC mi t vs ρ S = (mi ρ S).bind (kLcC t ρ vs) := rfl
theorem Qt {ρ : Ev} {S : aM} {vs : List Nat} {k : Nat} {ds : List PH.D} (h : ds.length <= sizeLine) : kLcC (.nm k) ρ vs ds S = .ok (.cels (rH S.length ds.length)) (S ++ wV ds.length (.lst [])) := if_pos ⟨h, fun _ _ => rfl⟩
def Q0 (md : FD) (dd : PH.D) (as : FA) : FE := fun ρ S => (as ρ S).bind fun ds S1 => md (ds ++ [.dat dd]) S1
def Kw (md : FD) (dd : PH.D) (ds : List Vl) (S : aM) : Res Vl := md (ds ++ [.dat dd]) S
theorem O8 {md : FD} {dd : PH.D} {ρ : Ev} {S : aM} : Q0 md dd mas ρ S = (mas ρ S).bind (Kw md dd) := rfl
theorem LV {md : FD} {dd : PH.D} {ds : List Vl} {S : aM} : Kw md dd ds S = md (ds ++ [.dat dd]) S := rfl
def Pz (n : Nat) (md : FD) (as : FA) (a : FE) : FE := fun ρ S => (as ρ S).bind fun ds S1 => if ds.length = n then (a ρ S1).bind fun d S2 => md (ds ++ [d]) S2 else .stuck
def EJ (md : FD) (ds : List Vl) (d : Vl) (S : aM) : Res Vl := md (ds ++ [d]) S
def Kv (n : Nat) (md : FD) (a : FE) (ρ : Ev) (ds : List Vl) (S : aM) : Res Vl := if ds.length = n then (a ρ S).bind (EJ md ds) else .stuck
theorem O7 {md : FD} {n : Nat} {ρ : Ev} {S : aM} : Pz n md mas ma ρ S = (mas ρ S).bind (Kv n md ma ρ) := rfl
theorem JU {md : FD} {ρ : Ev} {S : aM} {x y z : Vl} : Kv 3 md ma ρ [x, y, z] S = (ma ρ S).bind (EJ md [x, y, z]) := rfl
theorem JV {md : FD} {ds : List Vl} {d : Vl} {S : aM} : EJ md ds d S = md (ds ++ [d]) S := rfl
end
def EV0 := aG @DH (aG @HE (aG @Fe (aG @JD (aG @P6 (aG @g_c (aG @g_op (aG @g_op1 (aG @g_1 (aG @g_B (aG @g_unB (aG @QX (aG @g_and (aG @g_or (aG @g_not (aG @LG (aG @LH (aG @NZ (aG @Na (aG @Qq (aG @RC (aG @g_orV (aG @JJ (aG @JK (aG @LD (aG @LF (aG @Qi (aG @Nh (aG @g_kNV (aG @g_orT (aG @Qs (aG @LN (aG @LO (aG @L9 (aG @Nw (aG @g_ch1 (aG @g_ch2 (aG @Nx (aG @Ny (aG @g_if (aG @Nb (aG @Nc (aG @P7 (aG @Ld (aG @IG (aG @IF (aG @g_lst (aG @g_tup (aG @HF (aG @Fj (aG @kTup0 (aG @kTup1 (aG @kTup2 (aG @kTup3 (aG @kTup4 (aG @kLst0 (aG @kLst1 (aG @kLst2 (aG @kLst3 (@Qk)))))))))))))))))))))))))))))))))))))))))))))))))))))))))))
def EV1 := aG @Qj (aG @Li (aG @g_sl (aG @g_sl0 (aG @g_sl1 (aG @g_sl2 (aG @g_noP (aG @Qg (aG @Ng (aG @g_frz (aG @g_app (aG @DG (aG @HC (aG @JE (aG @JF (aG @JH (aG @JG (aG @QZ (aG @g_ret (aG @Qr (aG @R9 (aG @Nl (aG @g_ifS (aG @LQ (aG @LR (aG @g_asg (aG @Qv (aG @Nn (aG @Nm (aG @g_for (aG @Qu (aG @NY (aG @Qc (aG @LX (aG @LW (aG @Qd (aG @NT (aG @R8 (aG @Nk (aG @QT (aG @Fc (aG @H7 (aG @HA (aG @RE (aG @QY (aG @g_ltI (aG @g_leI (aG @g_gtI (aG @g_geI (aG @g_eqI (aG @g_neI (aG @g_eqS (aG @g_neS (aG @g_eqB (aG @g_neB (aG @g_neg (aG @Qw (aG @Qx (aG @Qo (@Qp)))))))))))))))))))))))))))))))))))))))))))))))))))))))))))
def EV2 := aG @Fi (aG @P2 (aG @QV (aG @QW (aG @Fg (aG @Fh (aG @g_slT (aG @g_slL (aG @g_slS (aG @NX (aG @NW (aG @L5 (aG @NU (aG @LB (aG @JO (aG @JN (aG @Qb (aG @Nd (aG @Qn (aG @Qm (aG @LP (aG @g_fld (aG @Nj (aG @QU (aG @Fd (aG @HB (aG @hM (aG @xT (aG @O6 (aG @O5 (aG @O4 (aG @O3 (aG @O2 (aG @O1 (aG @O0 (aG @Nz (aG @Lh (aG @Lg (aG @Lf (aG @Le (aG @Qe (aG @Nf (aG @Ql (aG @Qy (aG @g_inO (aG @O9 (aG @LZ (aG @Nr (aG @LU (aG @g_lcC (aG @Qt (aG @O8 (aG @LV (aG @O7 (aG @JU (aG @JV (@K0))))))))))))))))))))))))))))))))))))))))))))))))))))))))
end PH
local macro_rules
 | `(tactic| simp! [$xs,*] $[$l:location]?) => `(tactic| simp (config := { implicitDefEqProofs := false }) only [$xs,*, PH.EV0, PH.EV1, PH.EV2, bH, bM, Bool.not_true, Bool.not_false, eq_self, if_true, if_false, Bool.true_or, Bool.false_or, Bool.or_true, GF, Bool.and_true, yU, wW, Ek, pB, aW, cV, beq_self_eq_true, lL, PH.lk, PH.isTy, PH.fIsi, PH.fIsi2, PH.kindOf, PH.wipeE, decide_true, decide_false, Int.reduceEq, Int.reduceLT, Int.reduceLE, Int.reduceSub, Int.reduceAdd, Int.reduceNeg, Int.reduceToNat, Int.reduceNe, Nat.reduceAdd, Nat.reduceLT, Nat.reduceLeDiff, String.reduceEq, String.reduceBEq] $[$l:location]?)
namespace PH
open PySem PySem.Spec PyProof.Rows L2
section
variable {X : Cx} {W : WX} {e a b c o i : Expr} {es rest : List Expr} {pos pos' p q p2 tpos apos cpos : Pos} {x y z C f : Str} {K : aD} {ma mb mc mo me mi mv : FE} {mt mu : FT} {mas : FA} {B : Addr -> Prop} {φ φ' : List Addr} {S S' : aM} {H H' : Hp} {σ : L2.St} {Q : VK} {m n : FS} {st : Stmt} {sts : List Stmt} {D : Ends} {t t1 : Tg}
def EU (x y z : Vl) (S : aM) : Res Vl := match x, y, z with
 | .cel n, .dat (.int k), .dat d => (match S[n]? with
  | some (.lst ds) => if ds.length < sizeLine /\ 0 <= k /\ k < 2 ^ 63 then .ok (.dat .non) (S.set n (.lst (ds.take k.toNat ++ [d] ++ ds.drop k.toNat))) else .stuck
  | _ => .stuck)
 | _, _, _ => .stuck
def Gi (a i b : FE) : FE := fun ρ S => (a ρ S).bind fun x S1 => match hG S1 x with
 | some _ => (i ρ S1).bind fun y S2 => (b ρ S2).bind fun z S3 => EU x y z S3
 | none => .stuck
theorem M3 (ha : PE X a (cY X.K W ma)) (hi : PE X i (cY X.K W mi)) (hb : PE X b (cY X.K W mb)) (hs : starEach [i, b] X.env = (false, eval i X.env) :: starEach [b] X.env := by rfl) (hs2 : starEach [b] X.env = (false, eval b X.env) :: starEach [] X.env := by rfl) (hbase : attributeBase a "insert" X.env (eval a X.env) = eval a X.env := by rfl) (hline : (apos.endLine == cpos.line) = true := by rfl)
  (hfew : ((backTo cpos (starEach [i, b] X.env)).all (fun x => !x.1) && (backToKw cpos (keywordEach [] X.env)).all (fun x => x.1.isSome)
   && decide ([i, b].length + ([] : List Keyword).length + (if ([] : List Keyword).isEmpty then 0 else 1) < 30)) = true := by rfl)
  (hpl : (backTo cpos (starEach [b] X.env)).any (·.1) = false := by rfl) : PE X (.Call (.Attribute a "insert" apos) [i, b] [] cpos) (cY X.K W (Gi ma mi mb)) :=
 cP (pe_bm PySem.F.plainAttrs_list PySem.F.slot_list_insert PySem.F.type_list_insert mt_insert ha (pa_cons hi (pa_cons hb pa_nil hs2) hs) hbase hfew hline hs hpl) fun σ H Q h =>
  cA (k := fun x ρ S1 => match hG S1 x with | some _ => (mi ρ S1).bind fun y S2 => (mb ρ S2).bind fun z S3 => EU x y z S3 | none => .stuck) h fun B φ S ρ d v H1 I E r f => by
   split at f
   ·rename_i ds q
    refine ⟨Eb (e := d) I r ⟨ds, q⟩, iJ (k := fun y S2 => (mb ρ S2).bind fun z S3 => EU d y z S3) I E f fun φ' S' d2 v2 H2 I2 X2 E2 r2 f2 => iJ (k := fun z S3 => EU d d2 z S3) I2 E2 f2 fun φ3 S3 d3 v3 H3 I3 X3 E3 r3 f3 => ?_⟩
    have r' := (r.ext X2 I).ext X3 I2;have r2' := r2.ext X3 I2;unfold EU at f3;split at f3
    ·rename_i n k d
     obtain ⟨a, rfl, h1⟩ := r';obtain rfl : v2 = .int k := r2';split at f3
     ·rename_i ds q
      obtain ⟨vs, h2, l⟩ := I3.ok n _ a q h1;split at f3
      ·rename_i hc
       exact ⟨a, vs, k, v3, rfl, rfl, h2, by rw [l.len]; exact hc.1, hc.2.1, hc.2.2, yF (v := .non) (v' := .non) (d' := .dat .non) (vs := vs) I3 q h1 (((l.take _).snoc r3).append (l.drop _)) rfl f3⟩
      ·exact f3.elim
     ·exact f3.elim
    ·exact f3.elim
   ·exact f.elim
end
def Kr (b : FE) (ρ : Ev) (x y : Vl) (S : aM) : Res Vl := (b ρ S).bind (EU x y)
def Ks (i b : FE) (ρ : Ev) (x : Vl) (S : aM) : Res Vl := match hG S x with
 | some _ => (i ρ S).bind (Kr b ρ x)
 | none => .stuck
theorem LY {a i b : FE} {ρ : Ev} {S : aM} : Gi a i b ρ S = (a ρ S).bind (Ks i b ρ) := rfl
theorem EM {i b : FE} {ρ : Ev} {S : aM} {n : Nat} {ds : List D} (h : S[n]? = some (.lst ds)) : Ks i b ρ (.cel n) S = (i ρ S).bind (Kr b ρ (.cel n)) := by
 unfold Ks hG;simp only [h]
theorem EL {b : FE} {ρ : Ev} {S : aM} {x y : Vl} : Kr b ρ x y S = (b ρ S).bind (EU x y) := rfl
theorem HD {S : aM} {n k : Nat} {ds : List D} {d : D} (h : S[n]? = some (.lst ds)) (hl : ds.length < sizeLine) (hk : k <= 1000000) : EU (.cel n) (.dat (.int (k : Int))) (.dat d) S = .ok (.dat .non) (S.set n (.lst (ds.take k ++ [d] ++ ds.drop k))) := by
 unfold EU;simp only [h];rw [if_pos ⟨hl, by omega, by omega⟩, cZ]
section
variable {X : Cx} {W : WX} {e a b c o i : Expr} {es rest : List Expr} {pos pos' p q p2 tpos apos cpos : Pos} {x y z C f : Str} {K : aD} {ma mb mc mo me mi mv : FE} {mt mu : FT} {mas : FA} {B : Addr -> Prop} {φ φ' : List Addr} {S S' : aM} {H H' : Hp} {σ : L2.St} {Q : VK} {m n : FS} {st : Stmt} {sts : List Stmt} {D : Ends} {t t1 : Tg}
theorem RepVs.getV : ∀ {ds : List Vl} {vs : List L2.V} {i : Nat} {d : Vl}, RepVs K B φ S H ds vs -> ds[i]? = some d -> ∃ v, vs[i]? = some v /\ RepV K B φ S H d v
 | [], vs, i, d, h, q => by simp at q
 | d :: ds, vs, 0, d', ⟨v, ws, e, h1, h2⟩, q => by simp at q; subst q e; exact ⟨v, rfl, h1⟩
 | d :: ds, vs, i + 1, d', ⟨v, ws, e, h1, h2⟩, q => by
  subst e;obtain ⟨v', h3, h4⟩ := RepVs.getV (i := i) (d := d') h2 (by simpa using q)
  exact ⟨v', by simpa using h3, h4⟩
def lvL (S : aM) : Vl -> Option (List Vl)
 | .cel n => match S[n]? with
  | some (.lv xs) => some xs
  | _ => none
 | _ => none
theorem Q2 {d : Vl} {v : L2.V} {xs : List Vl} (I : GInv K B φ S H) (h : lvL S d = some xs) (r : RepV K B φ S H d v) : ∃ n a vs, d = .cel n /\ S[n]? = some (.lv xs) /\ φ[n]? = some a /\ v = .ref a /\ H a = some (.lst vs) /\ RepVs K B φ S H xs vs := by
 unfold lvL at h;split at h
 ·rename_i n
  obtain ⟨a, e, h1⟩ := r;split at h
  ·rename_i ys q
   cases h;obtain ⟨vs, h2, h3⟩ := I.ok n _ a q h1;exact ⟨n, a, vs, rfl, q, h1, e, h2, h3⟩
  ·cases h
 ·cases h
def oV (x y : Vl) (S : aM) : Res Vl := match lvL S x, y with
 | some xs, .dat (.int i) => (match atI xs i with
  | some d => .ok d S
  | none => .stuck)
 | _, _ => .stuck
theorem s_ixV : fZ K (cIx K) oV := fun {W σ B φ S H x y d e Q} I r1 r2 f => by
 unfold oV at f;split at f
 ·rename_i xs j q1
  cases r2;obtain ⟨n, a, vs, rfl, _, _, rfl, h1, l1⟩ := Q2 I q1 r1;split at f
  ·rename_i d' q
   have hq : ∃ v, atI vs j = some v /\ RepV K B φ S H d' v := by
    unfold L2.atI at q ⊢;rw [l1.len];cases e : ixN xs.length j with
    | none => rw [e] at q; cases q
    | some k => rw [e] at q; exact l1.getV (i := k) q
   obtain ⟨v, h2, h3⟩ := hq;exact ⟨vs, v, .inl (SqL.of h1), h2, Fin.now f I h3⟩
  ·exact f.elim
 ·exact f.elim
theorem uC (ha : PE X a (cY X.K W ma)) (hb : PE X b (cY X.K W mb)) (hs : PlainIx b := by intro _ _; rfl) : PE X (.Subscript a b pos) (cY X.K W (aX oV ma mb)) := cP (e_ix ha hb hs) fun σ H Q h => B7 s_ixV h
def fLenV (x : Vl) (S : aM) : Res Vl := match lvL S x with
 | some xs => .ok (.dat (.int xs.length)) S
 | none => .stuck
def newV (xs : List Vl) (S : aM) : Res Vl := .ok (.cel S.length) (S ++ [.lv xs])
theorem Fin.newV {xs : List Vl} {vs : List L2.V} {p : Addr} (f : Fin K W σ (RepV K) B φ S H (PH.newV xs S) Q) (I : GInv K B φ S H) (r : RepVs K B φ S H xs vs) (hp : H p = none) : Q (.ref p) (upd H p (.lst vs)) := by
 unfold PH.newV at f;have X := Ext.newC (o := .lst vs) (x := .lv xs) I hp;refine f (φ ++ [p]) _ _ (I.newC hp fun _ => ⟨vs, upd_same, r.ext X I⟩) X ⟨p, rfl, ?_⟩
 rw [<- I.len];exact mV
def Ht (r : FA) : FE := fun ρ S => (r ρ S).bind fun xs S1 => if xs.length <= sizeLine then newV xs S1 else .stuck
theorem RH (h : PA X es (GG X.K W mas)) : PE X (.List es pos) (cY X.K W (Ht mas)) := cP (pe_lst h) fun σ H Q h =>
 cA (k := fun xs ρ S1 => if xs.length <= sizeLine then newV xs S1 else .stuck) h fun B φ S ρ d v H1 I E r f => by
  split at f
  ·rename_i hl
   exact ⟨by rw [r.len]; exact hl, fun p hp => Fin.newV f I r hp⟩
  ·exact f.elim
def fAppV (x y : Vl) (S : aM) : Res Vl := match x with
 | .cel n => (match S[n]? with
  | some (.lv ds) => if ds.length < sizeLine then .ok (.dat .non) (S.set n (.lv (ds ++ [y]))) else .stuck
  | _ => .stuck)
 | _ => .stuck
def Ot (a b : FE) : FE := fun ρ S => (a ρ S).bind fun x S1 => match lvL S1 x with
 | some _ => (b ρ S1).bind fun y S2 => fAppV x y S2
 | none => .stuck
end
section
variable {S : aM} {a b : FE} {ρ : Ev} {n m : Nat} {xs ys : List Vl} {x : Vl}
theorem g_ixV {k : Int} {d : Vl} (h : S[n]? = some (.lv xs)) (h2 : atI xs k = some d) : oV (.cel n) (.dat (.int k)) S = .ok d S := by simp only [oV, lvL, h, h2]
end
def isNone {α : Type} : Option α -> Bool
 | none => true
 | some _ => false
section
variable {X : Cx} {W : WX} {e a b c o i : Expr} {es rest : List Expr} {pos pos' p q p2 tpos apos cpos : Pos} {x y z C f : Str} {K : aD} {ma mb mc mo me mv : FE} {mi : FI} {mt mu : FT} {mas : FA} {B : Addr -> Prop} {φ φ' : List Addr} {S S' : aM} {H H' : Hp} {σ : L2.St} {Q : VK} {m n : FS} {st : Stmt} {sts : List Stmt} {D : Ends} {t t1 : Tg}
def iI : List Vl -> aM -> Option (List PH.D × aM)
 | [], S => some ([], S)
 | .dat d :: r, S => (match iI r S with
  | some (ds, S') => some (d :: ds, S')
  | none => none)
 | .cel n :: r, S => (match S[n]? with
  | some (.lst es) => (match iI r (S.set n .dead) with
   | some (ds, S') => some (.lst es :: ds, S')
   | none => none)
  | _ => none)
 | _ :: _, _ => none
theorem uB : ∀ {xs : List Vl} {vs : List L2.V} {S S' : aM} {ds : List PH.D}, iI xs S = some (ds, S') -> GInv K B φ S H -> RepVs K B φ S H xs vs -> GInv K B φ S' H /\ Ext φ S H φ S' H /\ RepL K (jA B φ S') H ds vs /\ ∀ m : Nat, S'[m]? = S[m]? \/ S'[m]? = some .dead
 | [], vs, S, S', ds, h, I, r => by
  cases h;exact ⟨I, Ext.refl, r, fun m => .inl rfl⟩
 | .dat d :: xs, vs, S, S', ds, h, I, ⟨v, ws, e, h1, h2⟩ => by
  unfold iI at h;split at h
  ·rename_i ds' S1 q
   cases h;obtain ⟨I1, X1, l1, m1⟩ := uB q I h2;exact ⟨I1, X1, ⟨v, ws, e, h1.ext X1 I, l1⟩, m1⟩
  ·cases h
 | .cel n :: xs, vs, S, S', ds, h, I, ⟨v, ws, e, h1, h2⟩ => by
  unfold iI at h;split at h
  ·rename_i es hn
   split at h
   ·rename_i ds' S1 q
    cases h;obtain ⟨a, rfl, ha⟩ := h1;obtain ⟨us, hu, l⟩ := I.ok n _ a hn ha;have X0 := Ext.kill (φ := φ) (S := S) (H := H) (n := n);obtain ⟨I1, X1, l1, m1⟩ := uB q I.kill (h2.ext X0 I);have nb : ¬ jA B φ (S.set n .dead) a := I.killed hn (by simp) ha
    have nb1 := (X1.old a _ hu fun z => nb (.inr z)).2
    have nb2 : ¬ jA B φ S' a := fun z => by
     rcases z with z | z
     ·exact nb (.inl z)
     ·exact nb1 z
    refine ⟨I1, X0.trans X1, ⟨_, ws, e, ⟨a, us, rfl, nb2, hu, X1.repL I.kill (X0.repL I l)⟩, l1⟩, fun m => ?_⟩
    rcases m1 m with z | z
    ·rw [z, aQ]
     by_cases hm : n = m
     ·subst hm
      rw [if_pos rfl, if_pos (aJ.mp hn).1];exact .inr rfl
     ·rw [if_neg hm]
      exact .inl rfl
    ·exact .inr z
   ·cases h
  ·cases h
 | .cels _ :: xs, vs, S, S', ds, h, _, _ => by cases h
 | .scr _ :: xs, vs, S, S', ds, h, _, _ => by cases h
 | .tc _ :: xs, vs, S, S', ds, h, _, _ => by cases h
def DA (k : Nat) : FS := fun ρ S => match lk ρ k with
 | some (.cel n) => (match S[n]? with
  | some (.lv xs) => (match iI xs (S.set n .dead) with
   | some (ds, S') => .next (ρ.set k (some (.dat (.lst ds)))) S'
   | none => .stuck)
  | _ => .stuck)
 | _ => .stuck
theorem Lk {sts : List Stmt} {m : FS} (k : Nat) (h : PSs X sts (hW X.K W m)) : PSs X sts (hW X.K W (aK (DA k) m)) := yS h fun D σ H h => by
 obtain ⟨B, φ, S, ρ, I, E, f⟩ := h;unfold aK DA at f;cases q : lk ρ k with
 | none => rw [q] at f; exact f.elim
 | some d =>
  rw [q] at f;cases d with
  | cel n =>
   dsimp only at f;cases q2 : S[n]? with
   | none => rw [q2] at f; exact f.elim
   | some c =>
    rw [q2] at f;cases c with
    | lv xs =>
     dsimp only at f;cases q3 : iI xs (S.set n .dead) with
     | none => rw [q3] at f; exact f.elim
     | some r =>
      obtain ⟨ds, S1⟩ := r;rw [q3] at f;dsimp only at f;obtain ⟨v, h1, a, rfl, h3⟩ := E.2 k _ (FK q);obtain ⟨vs, h4, l⟩ := I.ok n _ a q2 h3;have X0 := Ext.kill (φ := φ) (S := S) (H := H) (n := n);have nb : ¬ jA B φ (S.set n .dead) a := I.killed q2 (by simp) h3
      obtain ⟨I1, X1, l1, m1⟩ := uB q3 I.kill (l.ext X0 I);have nb1 := (X1.old a _ h4 fun z => nb (.inr z)).2
      have nb2 : ¬ jA B φ S1 a := fun z => by
       rcases z with z | z
       ·exact nb (.inl z)
       ·exact nb1 z
      have E1 := (E.ext (X0.trans X1) I).set (d := .dat (.lst ds)) (v := .ref a) ⟨a, vs, rfl, nb2, h4, l1⟩ k;rw [Ey h1] at E1;exact ⟨B, φ, S1, _, I1, E1, FinS.ext f (X0.trans X1)⟩
    | _ => exact f.elim
  | _ => exact f.elim
end
section
variable {S : aM} {a : FE} {ρ : Ev} {n : Nat} {t : Tg} {mt : FT} {me : FE} {mb : FS} {mi : FI} {vs : List Nat} {xs : List Vl} {w : Bool} {j1 j2 : Nat} {ds : List PH.D}
theorem Qz {k : Nat} {S' : aM} (h : lk ρ k = some (.cel n)) (h2 : S[n]? = some (.lv xs)) (h3 : iI xs (S.set n .dead) = some (ds, S')) : DA k ρ S = .next (ρ.set k (some (.dat (.lst ds)))) S' := by simp only [DA, h, h2, h3]
end
section
variable {X : Cx} {W : WX} {e a b c o i f : Expr} {es rest : List Expr} {pos pos' p q p2 tpos apos cpos : Pos} {x y z C : Str} {K : aD} {ma mb mc mo me mi mv mf : FE} {mt mu : FT} {mas : FA} {B : Addr -> Prop} {φ φ' : List Addr} {S S' : aM} {H H' : Hp} {σ : L2.St} {Q : VK} {m n : FS} {st : Stmt} {sts : List Stmt} {D : Ends} {t t1 : Tg}
def FJ : List Int -> List Vl -> Int -> Option Vl
 | k' :: ks, x :: xs, k => if k' = k then some x else FJ ks xs k
 | _, _, _ => none
def putX : List Int -> List Vl -> Int -> Vl -> List Vl
 | k' :: ks, x :: xs, k, d => (if k' = k then d else x) :: putX ks xs k d
 | _, xs, _, _ => xs
def Om (ks : List Int) (xs : List Vl) (k : Int) (d : Vl) : Cell := match FJ ks xs k with
 | some _ => .dki ks (putX ks xs k d)
 | none => .dki (ks ++ [k]) (xs ++ [d])
def Ft : List Int -> List Vl -> Int -> List Int × List Vl
 | k' :: ks, x :: xs, k => if k' = k then Ft ks xs k else (k' :: (Ft ks xs k).1, x :: (Ft ks xs k).2)
 | _, _, _ => ([], [])
def Je (S : aM) : Vl -> Option (List Int × List Vl)
 | .cel n => match S[n]? with
  | some (.dki ks xs) => if ks.length = xs.length /\ ks.length < 1000000 then some (ks, xs) else none
  | _ => none
 | _ => none
def mDNew : FE := fun _ S => .ok (.cel S.length) (S ++ [.dki [] []])
def fDGetI (x y : Vl) (S : aM) : Res Vl := match Je S x, y with
 | some (ks, xs), .dat (.int k) => (match FJ ks xs k with
  | some d => .ok d S
  | none => .stuck)
 | _, _ => .stuck
def Hg (S : aM) (x y d : Vl) : Option aM := match x, Je S x, y with
 | .cel n, some (ks, xs), .dat (.int k) => some (S.set n (Om ks xs k d))
 | _, _, _ => none
def Px (o i v : FE) : FS := fun ρ S => (v ρ S).toS ρ fun d S1 => (o ρ S1).toS ρ fun x S2 => (i ρ S2).toS ρ fun y S3 => match Hg S3 x y d with
 | some S4 => .next ρ S4
 | none => .stuck
def Q8 (x y z : Vl) (S : aM) : Res Vl := match x, Je S x, y with
 | .cel n, some (ks, xs), .dat (.int k) => (match FJ ks xs k with
  | some d => .ok d S
  | none => .ok z (S.set n (Om ks xs k z)))
 | _, _, _ => .stuck
def Q9 (c : FE) (ρ : Ev) (x y : Vl) (S : aM) : Res Vl := (c ρ S).bind (Q8 x y)
def Kn (b c : FE) (ρ : Ev) (x : Vl) (S : aM) : Res Vl := match Je S x with
 | some _ => (b ρ S).bind (Q9 c ρ x)
 | none => .stuck
def mSetd (a b c : FE) : FE := fun ρ S => (a ρ S).bind (Kn b c ρ)
def QC (x y : Vl) (S : aM) : Res Vl := match x, Je S x, y with
 | .cel n, some (ks, xs), .dat (.int k) => (match FJ ks xs k with
  | some d => .ok d (S.set n (.dki (Ft ks xs k).1 (Ft ks xs k).2))
  | none => .stuck)
 | _, _, _ => .stuck
def Kq (b : FE) (ρ : Ev) (x : Vl) (S : aM) : Res Vl := match Je S x with
 | some _ => (b ρ S).bind (QC x)
 | none => .stuck
def mPopI (a b : FE) : FE := fun ρ S => (a ρ S).bind (Kq b ρ)
end
section
variable {X : Cx} {W : WX} {e a b c o i f : Expr} {es rest : List Expr} {pos pos' p q p2 tpos apos cpos : Pos} {x y z C : Str} {K : aD} {ma mb mc mo me mi mv mf : FE} {mt mu : FT} {mas : FA} {B : Addr -> Prop} {φ φ' : List Addr} {S S' : aM} {H H' : Hp} {σ : L2.St} {Q : VK} {m n : FS} {st : Stmt} {sts : List Stmt} {D : Ends} {t t1 : Tg}
def cLenD : L2.V -> Hp -> VK -> Prop := fun x H Q => match x with
 | .ref a => ∃ kvs, H a = some (.dK kvs) /\ Q (.int kvs.length) H
 | _ => False
theorem RepVs.setV : ∀ {ds : List Vl} {vs : List L2.V} {d : Vl} {v : L2.V} (i : Nat), RepVs K B φ S H ds vs -> RepV K B φ S H d v -> RepVs K B φ S H (ds.set i d) (vs.set i v)
 | [], vs, d, v, i, h, r => by cases h; exact rfl
 | x :: ds, vs, d, v, 0, ⟨w, ws, e, h1, h2⟩, r => by subst e; exact ⟨v, ws, rfl, r, h2⟩
 | x :: ds, vs, d, v, i + 1, ⟨w, ws, e, h1, h2⟩, r => by subst e; exact ⟨w, ws.set i v, rfl, h1, RepVs.setV i h2 r⟩
def setV (x : Vl) (k : Int) (d : Vl) (S : aM) : Option aM := match x with
 | .cel n => (match S[n]? with
  | some (.lv ds) => if 0 <= k /\ k.toNat < ds.length then some (S.set n (.lv (ds.set k.toNat d))) else none
  | _ => none)
 | _ => none
theorem Me {x d : Vl} {k : Int} {v u : L2.V} {Qh : Hp -> Prop} (I : GInv K B φ S H) (r : RepV K B φ S H x v) (rd' : RepV K B φ S H d u) (h : setV x k d S = some S') (q : ∀ H', GInv K B φ S' H' -> Ext φ S H φ S' H' -> Qh H') : G0 v (.int k) u H Qh := by
 unfold setV at h;split at h
 ·rename_i n
  obtain ⟨a, rfl, h1⟩ := r;split at h
  ·rename_i ds q1
   split at h
   ·rename_i hk
    cases h;obtain ⟨vs, h2, l⟩ := I.ok n _ a q1 h1;have X1 := Ext.put (H := H) (o := .lst (vs.set k.toNat u)) (x := .lv (ds.set k.toNat d)) q1 (by simp) h1 (by simp)
    exact ⟨vs, h2, hk.1, by rw [l.len]; exact hk.2, q _ (I.put q1 (by simp) h1 (by simp) ⟨_, upd_same, (l.setV _ rd').ext X1 I⟩) X1⟩
   ·cases h
  ·cases h
 ·cases h
def Bl (a o i : FE) : FS := fun ρ S => (a ρ S).toS ρ fun v S1 => (o ρ S1).toS ρ fun x S2 => (i ρ S2).toS ρ fun k S3 => match k with
 | .dat (.int k) => (match setV x k v S3 with
  | some S4 => .next ρ S4
  | none => .stuck)
 | _ => .stuck
theorem Fk {mx : FE} (ha : PE X a (cY X.K W ma)) (ho : PE X o (cY X.K W mo)) (hi : PE X i (cY X.K W mx)) (hs : swapsWithSole [.Subscript o i tpos] a pos.line X.env = pure false := by rfl) (hw : swappedStores [.Subscript o i tpos] a X.env = pure none := by rfl)
  (h1 : (assignEach [.Subscript o i tpos] X.env).map (·.2) = [assign (.Subscript o i tpos) X.env] := by rfl)
  (hz : ∀ v, assign (.Subscript o i tpos) X.env v = (do
   let ov <- holding [v] (eval o X.env)
   let iv <- holding [v, ov] (eval i X.env)
   standAt tpos
   holding [v, ov, iv] (setItem ov iv v)
   release [v, ov, iv] []) := by intro _; rfl) : PS X (.Assign [.Subscript o i tpos] a pos) (hW X.K W (Bl ma mo mx)) := fE (ps_asg ha (pg_sub ho hi yY hz) hs hw h1) fun D σ H h => by
 obtain ⟨B, φ, S, ρ, I, E, f⟩ := h;refine cN I E f fun φ1 S1 d1 v1 H1 I1 X1 E1 r1 f1 => cN I1 E1 f1 fun φ2 S2 d2 v2 H2 I2 X2 E2 r2 f2 => cN I2 E2 f2 fun φ3 S3 d3 v3 H3 I3 X3 E3 r3 f3 => ?_
 split at f3
 ·rename_i k
  cases r3;split at f3
  ·rename_i S4 q
   exact Me I3 (r2.ext X3 I2) ((r1.ext X2 I1).ext X3 I2) q fun H' I' X' => f3 φ3 σ H' I' X' (E3.ext X' I3)
  ·exact f3.elim
 ·exact f3.elim
def Kg : List (Int × Int) -> List Vl -> Int × Int -> Option Vl
 | k' :: ks, x :: xs, k => if k' = k then some x else Kg ks xs k
 | _, _, _ => none
def dktL (S : aM) : Vl -> Option (List (Int × Int) × List Vl)
 | .cel n => match S[n]? with
  | some (.dkt ks xs) => if ks.length = xs.length /\ ks.length < 1000000 then some (ks, xs) else none
  | _ => none
 | _ => none
def Py : FE := fun _ S => .ok (.cel S.length) (S ++ [.dkt [] []])
def fDGetT (x y : Vl) (S : aM) : Res Vl := match dktL S x, y with
 | some (ks, xs), .dat (.tup [.int j, .int k]) => (match Kg ks xs (j, k) with
  | some d => .ok d S
  | none => .stuck)
 | _, _ => .stuck
def Hf (S : aM) (x d : Vl) : List Vl -> Option aM
 | [.dat (.int j), .dat (.int k)] => match x, dktL S x with
  | .cel n, some (ks, xs) => (match Kg ks xs (j, k) with
   | some _ => none
   | none => some (S.set n (.dkt (ks ++ [(j, k)]) (xs ++ [d]))))
  | _, _ => none
 | _ => none
def Pv (o : FE) (r : FA) (v : FE) : FS := fun ρ S => (v ρ S).toS ρ fun d S1 => (o ρ S1).toS ρ fun x S2 => (r ρ S2).toS ρ fun ys S3 => match Hf S3 x d ys with
 | some S4 => .next ρ S4
 | none => .stuck
def cExtM : L2.V -> List L2.V -> Hp -> VK -> Prop := fun x vs H Q => match x, vs with
 | .ref l, [.ref b] => ∃ xs zs, H l = some (.lst xs) /\ H b = some (.lst zs) /\ xs.length + zs.length <= sizeLine /\ Q .non (upd H l (.lst (xs ++ zs)))
 | _, _ => False
theorem N4 : MtR X "list.extend" cExtM := fun pins s σ H x xs v us Q I rx r h => mt_extend pins s σ H x xs v us Q I rx r (by
 match x, xs, h with
 | .ref l, [.ref b], ⟨xs, zs, h1, h2, h3, q⟩ => exact ⟨l, b, xs, zs, rfl, rfl, h1, h2, h3, q⟩)
def II (x y : Vl) (S : aM) : Res Vl := match x, y with
 | .cel n, .dat (.lst es) => (match S[n]? with
  | some (.lst ds) => if ds.length + es.length <= sizeLine then .ok (.dat .non) (S.set n (.lst (ds ++ es))) else .stuck
  | _ => .stuck)
 | _, _ => .stuck
def Ke (a b : FE) : FE := fun ρ S => (a ρ S).bind fun x S1 => match hG S1 x with
 | some _ => (b ρ S1).bind fun y S2 => II x y S2
 | none => .stuck
theorem RJ (ha : PE X a (cY X.K W ma)) (hb : PE X b (cY X.K W mb)) (hs : starEach [b] X.env = (false, eval b X.env) :: starEach [] X.env := by rfl) (hbase : attributeBase a "extend" X.env (eval a X.env) = eval a X.env := by rfl) (hline : (apos.endLine == cpos.line) = true := by rfl)
  (hfew : ((backTo cpos (starEach [b] X.env)).all (fun x => !x.1) && (backToKw cpos (keywordEach [] X.env)).all (fun x => x.1.isSome)
   && decide ([b].length + ([] : List Keyword).length + (if ([] : List Keyword).isEmpty then 0 else 1) < 30)) = true := by rfl)
  (hpl : (backTo cpos (starEach ([] : List Expr) X.env)).any (·.1) = false := by rfl) : PE X (.Call (.Attribute a "extend" apos) [b] [] cpos) (cY X.K W (Ke ma mb)) :=
 cP (pe_bm PySem.F.plainAttrs_list PySem.F.slot_list_extend PySem.F.type_list_extend N4 ha (pa_cons hb pa_nil hs) hbase hfew hline hs hpl) fun σ H Q h =>
  cA (k := fun x ρ S1 => match hG S1 x with | some _ => (mb ρ S1).bind fun y S2 => II x y S2 | none => .stuck) h fun B φ S ρ d v H1 I E r f => by
   split at f
   ·rename_i ds q
    refine ⟨Eb (e := d) I r ⟨ds, q⟩, iJ I E f fun φ' S' d2 v2 H2 I2 X2 E2 r2 f2 => ?_⟩
    have r1 := r.ext X2 I;unfold II at f2;split at f2
    ·rename_i n es
     obtain ⟨a, rfl, h1⟩ := r1;obtain ⟨b, zs, rfl, _, hb1, lz⟩ := r2;split at f2
     ·rename_i ds q
      obtain ⟨vs, h2, l⟩ := I2.ok n _ a q h1;split at f2
      ·rename_i hz
       exact ⟨vs, zs, h2, hb1, by rw [l.len, lz.len]; exact hz, yF (v := .non) (v' := .non) (d' := .dat .non) (vs := vs) I2 q h1 (l.append lz) rfl f2⟩
      ·exact f2.elim
     ·exact f2.elim
    ·exact f2.elim
   ·exact f.elim
def Gm (x y : Vl) (S : aM) : Res (List PH.D) := match x, y with
 | .dat (.tup ds), .dat (.tup es) => .ok (PQ ds es) S
 | _, _ => .stuck
def Gn (b : FE) (ρ : Ev) (x : Vl) (S : aM) : Res (List PH.D) := (b ρ S).bind (Gm x)
def Oo (a b : FE) : FI := fun ρ S => (a ρ S).bind (Gn b ρ)
section
variable {a b c o i e : FE} {r : FA} {ρ : Ev} {S : aM} {x y : Vl}
theorem QS : Oo a b ρ S = (a ρ S).bind (Gn b ρ) := rfl
theorem LK : Gn b ρ x S = (b ρ S).bind (Gm x) := rfl
theorem LJ {ds es : List PH.D} : Gm (.dat (.tup ds)) (.dat (.tup es)) S = .ok (PQ ds es) S := rfl
theorem Qa : mSetd a b c ρ S = (a ρ S).bind (Kn b c ρ) := rfl
theorem Qf : mPopI a b ρ S = (a ρ S).bind (Kq b ρ) := rfl
theorem RA : mDNew ρ S = .ok (.cel S.length) (S ++ [.dki [] []]) := rfl
theorem Nv : Py ρ S = .ok (.cel S.length) (S ++ [.dkt [] []]) := rfl
def IC (o i : FE) (ρ : Ev) (d : Vl) (S1 : aM) : Out := (o ρ S1).toS ρ fun x S2 => (i ρ S2).toS ρ fun y S3 => match Hg S3 x y d with
 | some S4 => .next ρ S4
 | none => .stuck
def IB (i : FE) (ρ : Ev) (d x : Vl) (S2 : aM) : Out := (i ρ S2).toS ρ fun y S3 => match Hg S3 x y d with
 | some S4 => .next ρ S4
 | none => .stuck
def NB (ρ : Ev) (d x y : Vl) (S3 : aM) : Out := match Hg S3 x y d with
 | some S4 => .next ρ S4
 | none => .stuck
theorem Nu {v : FE} : Px o i v ρ S = (v ρ S).toS ρ (IC o i ρ) := rfl
theorem JS : IC o i ρ x S = (o ρ S).toS ρ (IB i ρ x) := rfl
theorem JR : IB i ρ x y S = (i ρ S).toS ρ (NB ρ x y) := rfl
def I7 (o : FE) (r : FA) (ρ : Ev) (d : Vl) (S1 : aM) : Out := (o ρ S1).toS ρ fun x S2 => (r ρ S2).toS ρ fun ys S3 => match Hf S3 x d ys with
 | some S4 => .next ρ S4
 | none => .stuck
def Hy (r : FA) (ρ : Ev) (d x : Vl) (S2 : aM) : Out := (r ρ S2).toS ρ fun ys S3 => match Hf S3 x d ys with
 | some S4 => .next ρ S4
 | none => .stuck
def NA (ρ : Ev) (d x : Vl) (ys : List Vl) (S3 : aM) : Out := match Hf S3 x d ys with
 | some S4 => .next ρ S4
 | none => .stuck
theorem Nt {v : FE} : Pv o r v ρ S = (v ρ S).toS ρ (I7 o r ρ) := rfl
theorem JQ : I7 o r ρ x S = (o ρ S).toS ρ (Hy r ρ x) := rfl
theorem JP : Hy r ρ x y S = (r ρ S).toS ρ (NA ρ x y) := rfl
def Hv (o i : FE) (ρ : Ev) (v : Vl) (S1 : aM) : Out := (o ρ S1).toS ρ fun x S2 => (i ρ S2).toS ρ fun k S3 => match k with
 | .dat (.int k) => (match setV x k v S3 with
  | some S4 => .next ρ S4
  | none => .stuck)
 | _ => .stuck
def Hu (i : FE) (ρ : Ev) (v x : Vl) (S2 : aM) : Out := (i ρ S2).toS ρ fun k S3 => match k with
 | .dat (.int k) => (match setV x k v S3 with
  | some S4 => .next ρ S4
  | none => .stuck)
 | _ => .stuck
def Ar (ρ : Ev) (v x k : Vl) (S3 : aM) : Out := match k with
 | .dat (.int k) => (match setV x k v S3 with
  | some S4 => .next ρ S4
  | none => .stuck)
 | _ => .stuck
theorem NS : Bl a o i ρ S = (a ρ S).toS ρ (Hv o i ρ) := rfl
theorem JM : Hv o i ρ x S = (o ρ S).toS ρ (Hu i ρ x) := rfl
theorem JL : Hu i ρ x y S = (i ρ S).toS ρ (Ar ρ x y) := rfl
def kExtM (b : FE) (ρ : Ev) (x : Vl) (S1 : aM) : Res Vl := match hG S1 x with
 | some _ => (b ρ S1).bind fun y S2 => II x y S2
 | none => .stuck
theorem R7 : Ke a b ρ S = (a ρ S).bind (kExtM b ρ) := rfl
end
def EVK := aG @QS (aG @LK (aG @LJ (aG @Qa (aG @Qf (aG @RA (aG @Nv (aG @Nu (aG @JS (aG @JR (aG @Nt (aG @JQ (aG @JP (aG @NS (aG @JM (aG @JL @R7)))))))))))))))
end
abbrev FGn := Ev -> aM -> Res (List PH.D)
abbrev FDG := List Vl -> aM -> Res (List PH.D)
end PH
namespace L2
open PySem PySem.Spec PyProof.Rows GenW
abbrev EndP := End -> Shared -> Prop
def GTurn (M : Model) (A : Around) (F : EndP) (c : Code) (t : Sem PySem.Fin) (fs : List Frame) (s : Shared) : Prop :=
 ∀ Γ p, Γ.code = c -> Γ.Woken A -> ∃ e s', Runs M Γ p t fs s e s' /\ F e s'
def KB (it : Addr) (s s' : Shared) : Prop := s'.os = s.os /\ s'.gens = s.gens /\ ∀ b o, b ≠ it -> s.heap.get? b = some o -> s'.heap.get? b = some o
def FR (M : Model) (A : Around) (it a : Addr) (its : Array Value) : Nat -> Shared -> EndP
 | 0, s => fun e s' => e = .ret (.ok (.ret .none)) /\ KB it s s'
 | r + 1, s => fun e s' => match e with
  | .ret _ => False
  | .susp v g l k c p fs => (End.susp v g l k c p fs).quiet = true /\ its[its.size - (r + 1)]? = some v /\ KB it s s' /\ s'.heap.get? it = some (GNX.itObj a (its.size - r)) /\
    ∀ s'' : Shared, s''.heap.get? it = some (GNX.itObj a (its.size - r)) -> s''.heap.IsList a its -> GTurn M A (FR M A it a its r s'') c (k (.send .none)) fs s''
abbrev TQ := Addr -> List V -> Hp -> Prop
end L2
namespace L2
open PySem PySem.Spec PyProof.Rows
abbrev GD := Value × Option Nat × (Addr -> Value -> Option Addr -> TS)
def Ends.gone (D : Ends) (i : Nat) : Ends := { nx := fun σ H => D.nx (σ.set i none) H, rt := D.rt, bk := fun σ H => D.bk (σ.set i none) H, ct := fun σ H => D.ct (σ.set i none) H }
def wishA (ts : Addr -> Value -> Option Addr -> TS) (o : Option Nat) (D : Ends) (a : Addr) (cls : Value) (d : Option Addr) (σ : St) (H : Hp) : Prop := match o with
 | none => ts a cls d D σ H
 | some i => ts a cls d (D.gone i) (σ.set i (some (.ref a))) H
def yX (K : aD) (Wout : WX) (D : Ends) : List GD -> WX
 | [] => Wout
 | z :: r => fun cls d σ H => ∃ b, CM K cls z.1 = some b /\ (b = true -> ∀ a, H a = none -> wishA z.2.2 z.2.1 D a cls d σ H) /\ (b = false -> yX K Wout D r cls d σ H)
inductive HdsA (X : Cx) : List ExceptHandler -> List GD -> Prop
 | nil : HdsA X [] []
 | cons {x : Str} {c : Value} {ts : Addr -> Value -> Option Addr -> TS} {b₀ : Stmt} {suite : List Stmt} {np pos' : Pos} {hds : List ExceptHandler} {l : List GD} (hc : Names X x c)
   (hsu : ∀ (a : Addr) (oe : Obj) (cls : Value) (d : Option Addr) (pn : List (Addr × Obj)), Zc cls d oe -> (∃ vs, oe.data = .fields vs) -> PSs (X.suite a ((a, oe) :: pn)) (b₀ :: suite) (ts a cls d)) (r : HdsA X hds l) :
   HdsA X (.ExceptHandler (some (.Name x np)) none (b₀ :: suite) pos' :: hds) ((c, none, ts) :: l)
 | consA {x n : Str} {i : Nat} {c : Value} {ts : Addr -> Value -> Option Addr -> TS} {b₀ : Stmt} {suite : List Stmt} {np pos' : Pos} {hds : List ExceptHandler} {l : List GD} (hc : Names X x c) (hN : X.N.Nodup) (hi : X.N[i]? = some n) (hln : X.env.kindOf n = some .local)
   (hsu : ∀ (a : Addr) (oe : Obj) (cls : Value) (d : Option Addr) (pn : List (Addr × Obj)), Zc cls d oe -> (∃ vs, oe.data = .fields vs) -> PSs (X.suite a ((a, oe) :: pn)) (b₀ :: suite) (ts a cls d)) (r : HdsA X hds l) :
   HdsA X (.ExceptHandler (some (.Name x np)) (some n) (b₀ :: suite) pos' :: hds) ((c, some i, ts) :: l)
section
variable {X : Cx} {body : List Stmt} {h₀ : ExceptHandler} {hds : List ExceptHandler} {l : List GD} {pos : Pos} {tb : WX -> TS} {Wout : WX}
theorem E6 (hs : X.stack = X.env :: X.outer) (hf : X.env.frame = some X.env.locals) (tk : Takes X Wout)
  (hb : ∀ (W : WX) (pn : List (Addr × Obj)) (xe : Value -> Shared -> Prop), Takes (X.tr pn xe) W -> PassesOwn (model X.prog X.w) X.A X.env xe -> PSs (X.tr pn xe) body (tb W))
  (hh : HdsA X (h₀ :: hds) l) : PS X (.Try body (h₀ :: hds) [] [] pos) (fun D σ H => tb (yX X.K Wout D l) D σ H) := by
 refine ⟨fun pins s σ H D I hq => ?_⟩
 have okX := I.ok;have frm : X.A.frames = some (X.env :: X.outer) := by rw [okX.frames, hs]
 refine wpAny_Try_except ?_
 refine wpAny_mono ((hb (yX X.K Wout D l) (X.pn ++ pins) (fun x s₁ => wpAny (model X.prog X.w) X.A (noteFrame x X.env) (fun _ s₂ => wpAny (model X.prog X.w) X.A (setFlight x none) (fun _ s₃ =>
  wpAny (model X.prog X.w) X.A (handleBy x X.env (h₀ :: hds)) (SP X pins D) X.xe s₃) X.xe s₂) X.xe s₁) (fun u s' xx => ?_) PassesOwn.looking).run [] s σ H D (I.toTry _) hq) (fun fl s1 hsp => ?_) (fun _ _ z => z)
 ·obtain ⟨ea, G, sI, pinT, σT, HT, cls, ed, rfl, JT, keepG, upT, skyT, noneA, osT, bareT, wish⟩ := xx
  have JI : Inv X pins σT HT sI := JT.ofTry okX;have skyE : Sky G (X.env :: X.outer) ea (Zc cls ed) X.env.locals s'.heap := by rw [<- hs]; exact skyT
  show wpAny (model X.prog X.w) X.A (noteFrame (.ref ea) X.env) _ _ _
  refine Sky.land Zc.steady frm hf skyE fun hA flA upA => ?_
  have JA : Inv X pins σT HT { s' with heap := hA } := JI.landed keepG flA.1 (upT.trans upA) osT bareT
  obtain ⟨oA, vA, atA, zA, dA⟩ := flA.there;have ea_fr : ea ∉ frs (X.env :: X.outer) := fun hm => by
   obtain ⟨_, o', e', hnf⟩ := flA.2.2.1.mem hm;rw [atA] at e'; cases e';exact hnf _ dA
  have ea_L : ea ≠ X.env.locals := fun z => ea_fr (A7.mpr ⟨X.env, aY, by rw [hf, z]⟩)
  have ea_F : ea ∉ X.fs := fun hm => by
   obtain ⟨e1, he1, q1⟩ := A7.mp hm;exact ea_fr (A7.mpr ⟨e1, aV _ he1, q1⟩)
  have SA := JA.suite atA dA noneA ea_L ea_F;have tested : ∀ {x : Str} {c : Value} {np : Pos} (hc : Names X x c) {Q : Value -> Shared -> Prop} {E : Value -> Shared -> Prop}, Q c { s' with heap := hA } -> wpAny (model X.prog X.w) (X.A.mark (some (.ref ea))) (eval (.Name x np) X.env) Q E { s' with heap := hA } := fun {x c np} hc {Q E} q => by
   obtain ⟨hg, hdbg, hm | ⟨hm, hv, hnn⟩⟩ := hc
   ·exact ld_glob (X := X.suite ea ((ea, oA) :: (X.pn ++ pins))) SA hg hm q hdbg
   ·exact ld_blt (X := X.suite ea ((ea, oA) :: (X.pn ++ pins))) SA hg hm hv q hnn hdbg
  have lookA : PySem.W.Looks (model X.prog X.w) hA (typeOf (.ref ea)) cls := fun A Q E s k q => wpAny_typeOf_ref (k _ _ atA) (by rw [zA.1]; exact q)
  have clauses : ∀ {hds' : List ExceptHandler} {l' : List GD}, HdsA X hds' l' -> yX X.K Wout D l' cls ed σT HT -> wpAny (model X.prog X.w) X.A (handleBy (.ref ea) X.env hds') (SP X pins D) X.xe { s' with heap := hA } := by
   intro hds' l' hk
   induction hk with
   | nil =>
    intro w;refine wpAny_handleBy_nil ?_
    obtain ⟨_, _, _, oB, vB, T, oT, tB, atB, zB, dB, h1B, _⟩ := id flA;unfold PySem.passOn;refine wpAny_bind (wpAny_field atB dB h1B ?_)
    rw [if_neg (show ¬ ((Value.ref T == Value.none) = true) from by simp)]
    have on : wpAny (model X.prog X.w) X.A (setFlight (.ref ea) X.env.frame) (fun _ sB => wpAny (model X.prog X.w) X.A (throw (.ref ea) : Sem Flow) (SP X pins D) X.xe sB) X.xe { s' with heap := hA } := by
     rw [hf];refine HandSPX.setFlight_upZ flA fun hB landB upB => wpAny_throw (tk _ _ ?_)
     exact ⟨ea, G, sI, pins, σT, HT, cls, ed, rfl, JI, keepG, (upT.trans upA).trans upB, .inr (.inr (by rw [hs]; exact landB)), noneA, osT, bareT, w⟩
    first
     | exact wpAny_bind (wpAny_pure (wpAny_bind on))
     | exact wpAny_bind on
   | @cons x c ts b₀ suite np pos' hds2 l2 hc hsu r ih =>
    intro w;obtain ⟨b, hb1, hyes, hno⟩ := w;refine wpAny_handleBy_cons (codeAny_handlers_test (tested hc ((PySem.W.exm_one (M := model X.prog X.w) JA.kIn lookA hb1).here ?_))) (by intro q; cases q)
    cases b with
    | true =>
     refine codeAny_handlers_suite (HandSPX.lands_againZ flA fun hB flB upB => ?_)
     obtain ⟨oB, vB, atB, zB, dB⟩ := flB.there;have JB : Inv X pins σT HT { s' with heap := hB } := JI.landed keepG flB.1 ((upT.trans upA).trans upB) osT bareT
     have SB := JB.suite atB dB noneA ea_L ea_F;refine wpAny_mono ((hsu ea oB cls ed (X.pn ++ pins) zB ⟨_, dB⟩).run [] _ _ HT _ SB (hyes rfl ea noneA)) (fun fl s6 hsp => ?_) (fun _ _ z => False.elim z)
     cases fl with
     | next => obtain ⟨σ6, H6, S6, q6⟩ := hsp; exact ⟨_, _, S6.unsuite okX, q6⟩
     | brk => obtain ⟨σ6, H6, S6, q6⟩ := hsp; exact ⟨_, _, S6.unsuite okX, q6⟩
     | cont => obtain ⟨σ6, H6, S6, q6⟩ := hsp; exact ⟨_, _, S6.unsuite okX, q6⟩
     | ret u => obtain ⟨v6, σ6, H6, S6, r6, q6⟩ := hsp; exact ⟨_, _, _, S6.unsuite okX, r6, q6⟩
    | false => exact ih (hno rfl)
   | @consA x n i c ts b₀ suite np pos' hds2 l2 hc hN hi hln hsu r ih =>
    intro w;obtain ⟨b, hb1, hyes, hno⟩ := w;refine wpAny_handleBy_cons (codeAny_handlers_test (tested hc ((PySem.W.exm_one (M := model X.prog X.w) JA.kIn lookA hb1).here ?_))) (by intro q; cases q)
    cases b with
    | true =>
     refine codeAny_handlers_suite_as (HandSPX.lands_againZ flA fun hB flB upB => ?_)
     obtain ⟨oB, vB, atB, zB, dB⟩ := flB.there;have JB : Inv X pins σT HT { s' with heap := hB } := JI.landed keepG flB.1 ((upT.trans upA).trans upB) osT bareT
     have SB := JB.suite atB dB noneA ea_L ea_F;refine store_ok (X := X.suite ea ((ea, oB) :: (X.pn ++ pins))) (v := .ref ea) SB hN hi (.inl hln) rfl (fun s5 S5 => ?_) (.inr hln)
     refine wpAny_mono ((hsu ea oB cls ed (X.pn ++ pins) zB ⟨_, dB⟩).run [] s5 _ HT _ S5 (hyes rfl ea noneA)) (fun fl s6 hsp => ?_) (fun _ _ z => False.elim z)
     have unbound : ∀ {σ6 : St} {H6 : Hp} {Q : Shared -> Prop}, Inv (X.suite ea ((ea, oB) :: (X.pn ++ pins))) [] σ6 H6 s6 -> (∀ s7, Inv X pins (σ6.set i none) H6 s7 -> Q s7) ->
       wpAny (model X.prog X.w) X.A (do bindName X.env n .none; unbindBehindTheSuite X.env n pos') (fun _ s7 => Q s7) X.xe s6 := fun {σ6 H6 Q} S6 hq => gone_ok (S6.unsuite okX) hN hi hln hq
     cases fl with
     | next => obtain ⟨σ6, H6, S6, q6⟩ := hsp; exact unbound S6 fun s7 J7 => ⟨_, _, J7, q6⟩
     | brk => obtain ⟨σ6, H6, S6, q6⟩ := hsp; exact unbound S6 fun s7 J7 => ⟨_, _, J7, q6⟩
     | cont => obtain ⟨σ6, H6, S6, q6⟩ := hsp; exact unbound S6 fun s7 J7 => ⟨_, _, J7, q6⟩
     | ret u => obtain ⟨v6, σ6, H6, S6, r6, q6⟩ := hsp; exact unbound S6 fun s7 J7 => ⟨_, _, _, J7, r6, q6⟩
    | false => exact ih (hno rfl)
  exact clauses hh wish
 ·cases fl with
  | next => obtain ⟨σ1, H1, J1, q1⟩ := hsp; exact wpAny_execs_nil ⟨σ1, H1, J1.ofTry okX, q1⟩
  | brk => obtain ⟨σ1, H1, J1, q1⟩ := hsp; exact ⟨σ1, H1, J1.ofTry okX, q1⟩
  | cont => obtain ⟨σ1, H1, J1, q1⟩ := hsp; exact ⟨σ1, H1, J1.ofTry okX, q1⟩
  | ret u => obtain ⟨v1, σ1, H1, J1, r1, q1⟩ := hsp; exact ⟨v1, σ1, H1, J1.ofTry okX, r1, q1⟩
end
end L2
namespace PH
open PySem PySem.Spec PyProof.Rows L2
inductive XJ where
 | c (v : L2.V) (d : PH.D) | f (n : Str) | v (i : Nat) | fl (n : Str) (i : Nat)
section
variable {X : Cx} {W : WX} {e : Expr} {es : List Expr} {pos : Pos} {K : aD} {B : Addr -> Prop} {φ φ' : List Addr} {S S' : aM} {H H' : Hp} {σ : L2.St} {m : FS} {D : Ends} {cs : List Str} {x : Str}
theorem rd_xf {er : Er} {cl : Value} {xd : Option Addr} {C : Str} {k : Nat} {a : Addr} {n : Str} {z : PH.D} {Q : L2.VK} (rx : Jm K B φ S H er cl xd) (hC : er.cls = C) (hσ : sl σ k = some (.ref a)) (q0 : (er.ns.zip er.xs).lookup n = some z)
  (q : ∀ v, Rep K (jA B φ S) H z v -> Q v H) : tXf a cl xd (He.ga K C) n (vL k) σ H Q := by
 obtain ⟨ec, rest⟩ := rx;subst hC;rcases rest with ⟨e1, _⟩ | ⟨dd, us, e1, e2, l⟩
 ·rw [e1] at q0; simp at q0
 ·obtain ⟨v, h2, h3⟩ := Ax l q0
  show (match sl σ k with | some v => _ | none => False)
  rw [hσ];exact ⟨rfl, ec, dd, _, v, e1, e2, h2, q v h3⟩
inductive HJ where
 | m (f : FS) | j (k : Nat) (its : List XJ)
theorem RepE.wipe1 {ρ : Ev} {v : L2.V} (E : RepE K B φ S H ρ σ) (k : Nat) : RepE K B φ S H (ρ.set k none) (σ.set k (some v)) := by
 refine ⟨by simp [E.1], fun i d h => ?_⟩
 by_cases e : k = i
 ·subst e
  rw [aQ, if_pos rfl] at h;split at h
  ·cases h
  ·cases h
 ·rw [aQ, if_neg e] at h ⊢
  exact E.2 i d h
end
end PH
namespace PH
open PySem PySem.Spec PyProof PyProof.Rows L2
theorem N3 {n : Nat} {fa : List He.Fa} {fn : List He.DefD} {ts : List He.Tab} {ex : aD -> Bool} {g : Addr -> Option Obj} {s : Shared} (h : ∀ a, g a = s.heap.get? a) : Pm n fa fn ts ex g = (P0 n fa fn ts ex).obs s := by
 have e : g = s.heap.get? := funext h;rw [e] <;> rfl
section
variable {X : Cx} {W : WX}
theorem fI {i j pos} : PE X (.Constant (.int i) j pos) (cY X.K W (mC (.int i))) := Lw pe_int fun _ _ => rfl
theorem fS {x j pos} : PE X (.Constant (.str x) j pos) (cY X.K W (mC (.str x))) := Lw pe_str fun _ _ => rfl
theorem fB {b j pos} : PE X (.Constant (.bool b) j pos) (cY X.K W (mC (.bl b))) := Lw pe_bl fun _ _ => rfl
theorem fN {j pos} : PE X (.Constant .none j pos) (cY X.K W (mC .non)) := Lw pe_non fun _ _ => rfl
end
section
variable {P : Program} {w : World} {K : aD} {mg : Str -> Option Value} {base : Heap}
theorem fH {x : Str} {st : Stmt} {N ps : List Str} {k : Nat} {md : FD} {mb : FS} (F : mK K x st) (g : mg x = some (.ref (He.ga K x))) (S : FnScope N ps (defScope st)) (R : Runs md N.length ps.length mb)
  (bnd : ∀ (kV doc pm : Value) (an : Option Addr) (cdv ct : Value) (us : List Value), us.length = ps.length -> bindArgs (eW x x (defArgs st) (defBody st) (defScope st) .none kV doc pm an cdv ct) ⟨us, []⟩ = pure (ps.zip us))
  (hbody : ∀ (cdv : Value) (A : Around) (outer : List Env) (s : Shared) (H : Hp) (E : XK), Room k (A.deeper (envOfC x (defScope st) s.heap.objs.size (He.ga K x) cdv)) ->
   Takes (cxOf (L2.CX P w) P w K mg base N x (defScope st) (He.ga K x) cdv A outer s H E) (fun c x _ H => E c x H) -> N.Nodup ->
   PSs (cxOf (L2.CX P w) P w K mg base N x (defScope st) (He.ga K x) cdv A outer s H E) (defBody st) (hW K (fun c x _ H => E c x H) mb)) : lO P w K mg base (k + 1) x ps (spF K md) :=
 okF F g S R bnd fun cdv A outer s H E hr => hbody cdv A outer s H E hr (takes_of (X := cxOf (L2.CX P w) P w K mg base N x (defScope st) (He.ga K x) cdv A outer s H E) (E := E) rfl rfl rfl rfl) S.nd
theorem KW {C m q : Str} {st : Stmt} {N ps : List Str} {k : Nat} {md : FD} {mb : FS} (F : Jt K C m q st) (g : Meth K (He.ga K C) m (He.ma K (He.ga K C) m)) (S : FnScope N ps (defScope st)) (R : Runs md N.length ps.length mb)
  (bnd : ∀ (kV doc pm : Value) (an : Option Addr) (cdv ct : Value) (us : List Value), us.length = ps.length -> bindArgs (eW m q (defArgs st) (defBody st) (defScope st) .none kV doc pm an cdv ct) ⟨us, []⟩ = pure (ps.zip us))
  (hbody : ∀ (cdv : Value) (A : Around) (outer : List Env) (s : Shared) (H : Hp) (E : XK), Room k (A.deeper (envOfC q (defScope st) s.heap.objs.size (He.ma K (He.ga K C) m) cdv)) ->
   Takes (cxOf (L2.CX P w) P w K mg base N q (defScope st) (He.ma K (He.ga K C) m) cdv A outer s H E) (fun c x _ H => E c x H) -> N.Nodup ->
   PSs (cxOf (L2.CX P w) P w K mg base N q (defScope st) (He.ma K (He.ga K C) m) cdv A outer s H E) (defBody st) (hW K (fun c x _ H => E c x H) mb)) : OkMX P w K mg base (k + 1) C m ps (spF K md) :=
 okFM F g S R bnd fun cdv A outer s H E hr => hbody cdv A outer s H E hr (takes_of (X := cxOf (L2.CX P w) P w K mg base N q (defScope st) (He.ma K (He.ga K C) m) cdv A outer s H E) (E := E) rfl rfl rfl rfl) S.nd
end
end PH
namespace L2N
open PySem PySem.Spec PyProof.Rows L2
theorem pmk_oexN {X : Cx} {CX : CXT} {x : Str} {e : Expr} {es : List Expr} {ta : TA} {p pos : Pos} {C fI : Addr} {k : Nat} {fd : FuncData} {ps : List Str} {sp : Sp} (T : OexC X.K C) (iC : cG X.K (.ref C) "__init__" = some (some (.ref fI))) (tI : lM X.K (.ref fI) = some (.type "function"))
  (F1 : FnOk X.prog X.w X.K X.mg X.base CX k fI fd ps sp) (hr : Room (k + 1) X.A) (hb : Binds X.K fd ps []) (hx : Passes CX X (fun _ _ _ => False)) (hg : Gl X x) (hm : X.mg x = some (.ref C)) (ha : PA X (e :: es) ta)
  (hdb : (x == ("__debug__" : Str)) = false := by decide) (he : starEach (e :: es) X.env = (false, eval e X.env) :: starEach es X.env := by rfl) (hpl : (backTo pos (starEach es X.env)).any (·.1) = false := by rfl) :
  PMk X (.Call (.Name x p) (e :: es) [] pos) (tMkO C sp [] ta) := by
 intro pins s σ H Q I h;obtain ⟨nm, q, N, bs, bm, sn, sub, ab, col, dd, k0, k1, k2, k3, k5, hC, hbm⟩ := T.cls;refine wpAny_Call_Name_kw (ld_glob I hg hm ?_ hdb)
 refine IT (h₀ := X.base) I.ok.mod.kin T.kC (thn (ha.run pos pins s σ H _ I h) fun us s1 ⟨vs, H1, I1, r1, hz, q1⟩ => ⟨I1.kIn, ?_⟩) he hpl
 show wpAny _ _ (call (.ref C) us) _ _ _
 obtain ⟨hp, g, dr, tk, os⟩ := s1;have hsz : hp.objs.size <= hp.objs.size + 1 := Nat.le_succ _;have hn : H1 (hp.objs.size + 1) = none := I1.hok.fresh hsz;have hq := q1 (hp.objs.size + 1) hn;rw [dN] at hq;have kk : ∀ b o, hp.get? b = some o -> ((hp.push (sX us)).push (PySem.HandSPX.excO C hp.objs.size)).get? b = some o := fun b o e => Heap.get?_push_of_some _ (Heap.get?_push_of_some _ e)
 have hget : ((hp.push (sX us)).push (PySem.HandSPX.excO C hp.objs.size)).get? (hp.objs.size + 1) = some (PySem.HandSPX.excO C hp.objs.size) := by heap_get
 have I2 : Inv X pins σ (upd H1 (hp.objs.size + 1) (exo (hp.objs.size + 1) C none)) ⟨(hp.push (sX us)).push (PySem.HandSPX.excO C hp.objs.size), g, dr, tk, os⟩ :=
  I1.laid (t' := tk) (a := hp.objs.size + 1) (o := exo (hp.objs.size + 1) C none) (h' := (hp.push (sX us)).push (PySem.HandSPX.excO C hp.objs.size)) kk hsz (exo_ok hget)
 have r2 : Vals (V.ref (hp.objs.size + 1) :: vs) (Value.ref (hp.objs.size + 1) :: us) := .cons rfl r1;have hl : (Value.ref (hp.objs.size + 1) :: us ++ []).length = ps.length := by
  have e := r2.length;rw [F1.len _ _ _ _ hq] at e;rw [dN];exact e.symm
 have hus : us.length <= sizeLine := by
  rw [<- Paired.length r1, sizeLine_eq];omega
 have b2 := hb _ (Value.ref (hp.objs.size + 1) :: us) I2.kIn hl;rw [dN] at b2;refine wpAny_call (PySem.HandSPX.call_own F.excBase_ValueError (fun Y => PySem.HandSPX.refsVE_contains Y bm hbm) (I1.kIn _ _ hC) (PySem.W.looks_findIn I1.kIn iC) (fun self => PySem.W.bind_fn I1.kIn self tI) hus
  (codeAny_mono (F1.run _ X.stack _ _ ⟨Value.ref (hp.objs.size + 1) :: us, []⟩ (Value.ref (hp.objs.size + 1) :: us) _ _ (fun _ _ _ => False) (hr.make C us []) (I2.env0.make C us []) b2 r2 hq) fun r s' hq' => ?_))
 cases r with
 | error er => exact hx pins σ _ _ er s' I2 hq'
 | ok fl =>
  cases fl with
  | ret u =>
   obtain ⟨v, H2, os2, bare2, un2, hok2, rv, ev, d, fs, ea, ed, hd1, q2⟩ := hq';subst ev;obtain ⟨h2, g2, d2, t2, os'⟩ := s';obtain ⟨t0, G, J, kG, ge, hoe, na⟩ := mk_end0 (d2 := d2) (t2 := t2) I1 hsz kk un2 hok2 os2 bare2 ea ed hd1;refine ⟨rv, ⟨hp.objs.size + 1, _, _, ⟨G, g2, d2, t2, os'⟩, _, .ref C, some d, rfl, J, kG, ge, hoe, ⟨rfl, rfl, fun vs hv => ?_⟩, rfl, rfl, na, rfl, bare2, raises_own T.exC T.tyC, q2⟩⟩
   cases hv;rfl
  | next => exact False.elim hq'
  | brk => exact False.elim hq'
  | cont => exact False.elim hq'
end L2N
namespace PH
open PySem PySem.Spec PyProof.Rows L2
def RR (P : Program) (w : World) (K : aD) (mg : Str -> Option Value) (base : Heap) (k : Nat) (x : Str) (ps : List Str) (sp : Sp) : Prop :=
 ∃ fd, FnOk P w K mg base (L2N.CX P w) k (He.ga K x) fd ps sp /\ mg x = some (.ref (He.ga K x)) /\ vG K (.ref (He.ga K x)) = true /\ Binds K fd ps []
section
variable {P : Program} {w : World} {K : aD} {mg : Str -> Option Value} {base : Heap}
theorem okF2N {x : Str} {st : Stmt} {N ps : List Str} {k : Nat} {md : FD} {mb : FS} (F : mK K x st) (g : mg x = some (.ref (He.ga K x))) (S : FnScope N ps (defScope st)) (R : Runs md N.length ps.length mb)
  (bnd : ∀ (kV doc pm : Value) (an : Option Addr) (cdv ct : Value) (us : List Value), us.length = ps.length -> bindArgs (eW x x (defArgs st) (defBody st) (defScope st) .none kV doc pm an cdv ct) ⟨us, []⟩ = pure (ps.zip us))
  (hbody : ∀ (cdv : Value) (A : Around) (outer : List Env) (s : Shared) (H : Hp) (E : XK), Room k (A.deeper (envOfC x (defScope st) s.heap.objs.size (He.ga K x) cdv)) ->
   L2N.Takes (cxOf (L2N.CX P w) P w K mg base N x (defScope st) (He.ga K x) cdv A outer s H E) (fun c x _ H => E c x H) -> N.Nodup ->
   PSs (cxOf (L2N.CX P w) P w K mg base N x (defScope st) (He.ga K x) cdv A outer s H E) (defBody st) (hW K (fun c x _ H => E c x H) mb)) : RR P w K mg base (k + 1) x ps (spF K md) := by
 obtain ⟨fd, F⟩ := F;refine ⟨fd, ?_, g, F.kp, F.bindsN bnd⟩
 obtain ⟨oc, od, dV, kV, doc, pm, an, cdv, ct, osl, e, lk, hc⟩ := F.ex;subst e;exact fn_of lk hc.1 S (An R) fun A outer s H vs Q E hr hsp => ⟨_, hbody cdv A outer s H E hr (L2N.takes_of (X := cxOf (L2N.CX P w) P w K mg base N x (defScope st) (He.ga K x) cdv A outer s H E) (E := E) rfl rfl rfl rfl) S.nd, xC R hsp⟩
end
def noE {α : Type} (r : Res α) : Res α := match r with
 | .err _ _ => .stuck
 | r => r
def zQ (md : FD) (as : FA) : FE := fun ρ S => (as ρ S).bind fun ds S1 => noE (md ds S1)
section
variable {X : Cx} {W : WX} {e a b c o i : Expr} {es rest : List Expr} {pos p q p2 tpos apos cpos pos' np : Pos} {x y z f g mn : Str} {K : aD} {ma mb mc mo mx : FE} {mas : FA} {B : Addr -> Prop} {φ φ' : List Addr} {S S' : aM} {H H' : Hp} {σ : L2.St} {Q : VK} {m n mr : FS} {D : Ends} {ps cs : List Str} {md : FD} {j k : Nat}
theorem Fin.noE {r : Res Vl} (f : Fin K W σ (RepV K) B φ S H (PH.noE r) Q) : Fin K (fun _ _ _ _ => False) [] (RepV K) B φ S H r Q := by
 cases r with
 | ok d S' => exact f
 | err e S' => exact f.elim
 | stuck => exact f
theorem Av (F : lO X.prog X.w X.K X.mg X.base j x ps (spF X.K md)) (hr : Room k X.A) (ha : PA X (e :: es) (GG X.K W mas)) (hjk : j <= k := by decide) (hg : Gl X x := by rfl) (hdb : (x == ("__debug__" : Str)) = false := by decide)
  (he : starEach (e :: es) X.env = (false, eval e X.env) :: starEach es X.env := by rfl) (hpl : (backTo pos (starEach es X.env)).any (·.1) = false := by rfl) : PE X (.Call (.Name x p) (e :: es) [] pos) (cY X.K W (zQ md mas)) :=
 cP (OQ F hr ha hjk hg hdb he hpl) fun σ H Q h => cA (k := fun ds _ S => PH.noE (md ds S)) h fun B φ S ρ d v H1 I E r f => ⟨B, φ, S, d, I, r, Fin.noE f⟩
theorem M4 (F : RR X.prog X.w X.K X.mg X.base j x ps (spF X.K md)) (hr : Room k X.A) (tk : L2N.Takes X W) (ha : PA X (e :: es) (GG X.K W mas)) (hjk : j <= k := by decide) (hg : Gl X x := by rfl) (hdb : (x == ("__debug__" : Str)) = false := by decide)
  (he : starEach (e :: es) X.env = (false, eval e X.env) :: starEach es X.env := by rfl) (hpl : (backTo pos (starEach es X.env)).any (·.1) = false := by rfl) : PE X (.Call (.Name x p) (e :: es) [] pos) (cY X.K W (aO md mas)) := by
 obtain ⟨fd, F, hm, hk, hb⟩ := F;refine cP (pe_callS (E := WE W) F (hr.mono hjk) hg hm hk hb (fun σ => L2N.passAt tk σ) ha hdb he hpl) fun σ H Q h => ?_
 exact cA (k := fun ds _ S => md ds S) h fun B φ S ρ d v H1 I E r f => ⟨B, φ, S, d, I, r, f.toE⟩
theorem B6 (h : hW K W (dR x [f] mas) D σ H) : tMkO (He.ga K x) (Do (He.ga K x) f) [] (GG K W mas) σ H fun cls d H' => W cls d σ H' := by
 obtain ⟨B, φ, S, ρ, I, E, f'⟩ := h;refine cN I E f' fun φ1 S1 ds vs H1 I1 X1 E1 r f1 => ?_
 split at f1
 ·rename_i xs q
  have l := vF q r;split at f1
  ·rename_i hl
   match xs, hl with
   | [d], _ =>
    obtain ⟨v, ws, rfl, h1, h2⟩ := l;cases h2;refine ⟨by simp, fun a na => ⟨a, v, rfl, upd_same, fun dx ndx ne => ⟨rfl, dx, [(f, v)], upd_same, ?_, ?_, ?_⟩⟩⟩
    ·rw [upd_ne ne, upd_same]
    ·rw [upd_ne ne] at ndx; exact ndx
    ·have n1 : H1 dx = none := by rw [upd_ne ne] at ndx; exact ndx
     have eH : (upd (del (upd (upd (upd H1 a (exo a (He.ga K x) none)) dx (exd dx [(f, v)])) a (exo a (He.ga K x) (some dx))) a) dx (.xd [(f, v)])) = upd H1 dx (.xd [(f, v)]) := by
      funext b
      unfold upd del
      by_cases hb : b = dx
      ·rw [if_pos hb, if_pos hb]
      ·rw [if_neg hb, if_neg hb]
       by_cases hba : b = a
       ·rw [if_pos hba, hba]; exact na.symm
       ·rw [if_neg hba]; simp only [if_neg hba, if_neg hb]
     rw [eH];have X2 := Ext.new (o := .xd [(f, v)]) I1 n1;exact f1 φ1 σ _ _ _ (I1.new n1) X2 (E1.ext X2 I1) ⟨rfl, .inr ⟨dx, [v], rfl, upd_same, v, [], rfl, Rep.kp (X2.kp I1) _ _ h1, rfl⟩⟩
  ·exact f1.elim
 ·exact f1.elim
theorem lV (F : XcA X.prog X.w X.K X.mg X.base j x ps (Do (He.ga X.K x) f)) (hr : Room k X.A) (tk : L2N.Takes X W) (ha : PA X (e :: es) (GG X.K W mas)) (hjk : j + 1 <= k := by decide) (hc : X.calm = true := by rfl) (hg : Gl X x := by rfl) (hdb : (x == ("__debug__" : Str)) = false := by decide)
  (he : starEach (e :: es) X.env = (false, eval e X.env) :: starEach es X.env := by rfl) (hpl : (backTo pos (starEach es X.env)).any (·.1) = false := by rfl) : PS X (.Raise (some (.Call (.Name x p) (e :: es) [] pos)) none pos') (hW X.K W (dR x [f] mas)) := by
 obtain ⟨fd, F1, hb⟩ := F.fn;exact fE (L2N.ps_raise hc tk (L2N.pmk_oexN F.cls F.ini F.ty F1 (hr.mono hjk) hb (fun _ _ _ _ _ _ _ h => h.elim) hg F.glo ha hdb he hpl)) fun D σ H h => B6 h
end
structure XcH (P : Program) (w : World) (K : aD) (mg : Str -> Option Value) (base : Heap) (k : Nat) (x : Str) (ps : List Str) (sp : Sp) : Prop where
 cls : OexC K (He.ga K x)
 ini : cG K (.ref (He.ga K x)) "__init__" = some (some (.ref (He.ma K (He.ga K x) "__init__")))
 ty : lM K (.ref (He.ma K (He.ga K x) "__init__")) = some (.type "function")
 fn : ∃ fd, L2H.FnH P w K mg base CX0 k (He.ma K (He.ga K x) "__init__") fd ps sp /\ Binds K fd ps []
 glo : mg x = some (.ref (He.ga K x))
section
variable {P : Program} {w : World} {K : aD} {mg : Str -> Option Value} {base : Heap}
theorem Mz {x q : Str} {fs : List Str} {st : Stmt} {N ps : List Str} {k : Nat} {sp : Sp} (T : XaF K mg x fs) (F : Jt K x "__init__" q st) (S : FnScope N ps (defScope st)) (len : ∀ vs H Q E, sp vs H Q E -> vs.length = ps.length)
  (bnd : ∀ (kV doc pm : Value) (an : Option Addr) (cdv ct : Value) (us : List Value), us.length = ps.length -> bindArgs (eW "__init__" q (defArgs st) (defBody st) (defScope st) .none kV doc pm an cdv ct) ⟨us, []⟩ = pure (ps.zip us))
  (hbody : ∀ (cdv : Value) (A : Around) (outer : List Env) (s : Shared) (H : Hp) (vs : List V) (Q : VK) (E : XK) (p : Addr × Obj), sp vs H Q E ->
   ∃ t, PSs (L2H.cxH CX0 P w K mg base N q (defScope st) (He.ma K (He.ga K x) "__init__") cdv A outer s H E p).nox (defBody st) t /\ t { nx := fun _ H' => Q .non H', rt := Q } (start N vs) H) : XcH P w K mg base (k + 1) x ps sp := by
 obtain ⟨fd, F⟩ := F;refine ⟨T.cls, T.ini, T.ty, ⟨fd, ?_, F.bindsN bnd⟩, T.glo⟩
 obtain ⟨oc, od, dV, kV, doc, pm, an, cdv, ct, osl, e, lk, hc⟩ := F.ex;subst e;refine L2H.fn_ofH lk hc.1 S len fun A outer s H vs Q E p hot hr hsp => ?_
 obtain ⟨t, h, q⟩ := hbody cdv A outer s H vs Q E p hsp;exact ⟨t, h.nox, q⟩
end
section
variable {X : Cx} {W : WX} {e a b c o i : Expr} {es rest : List Expr} {pos p q p2 tpos apos cpos pos' np : Pos} {x y z f g mn : Str} {K : aD} {ma mb mc mo mx : FE} {mas : FA} {B : Addr -> Prop} {φ φ' : List Addr} {S S' : aM} {H H' : Hp} {σ : L2.St} {Q : VK} {m n mr : FS} {D : Ends} {ps cs : List Str} {md : FD} {j k : Nat}
theorem HG {ej : Nat} {ad : Addr} {pn : List (Addr × Obj)} (F : XcH X.prog X.w X.K X.mg X.base j x ps (Do (He.ga X.K x) f)) (hr : Room k X.A) (hot : L2H.HotC (L2H.suiteX X ad pn)) (tk : Takes (L2H.suiteX X ad pn) W) (ha : PA (L2H.suiteX X ad pn) (e :: es) (GG X.K W mas)) (hjk : j + 1 <= k := by decide) (hg : Gl X x := by rfl) (hdb : (x == ("__debug__" : Str)) = false := by decide)
  (he : starEach (e :: es) X.env = (false, eval e X.env) :: starEach es X.env := by rfl) (hpl : (backTo pos (starEach es X.env)).any (·.1) = false := by rfl) : PS (L2H.suiteX X ad pn) (.Raise (some (.Call (.Name x p) (e :: es) [] pos)) (some (.Constant .none ej cpos)) pos') (hW X.K W (dR x [f] mas)) := by
 obtain ⟨fd, F1, hb⟩ := F.fn;exact fE (L2H.ps_raiseHN hot tk (L2H.pmk5_oexH (X := L2H.suiteX X ad pn) F.cls F.ini F.ty F1 (L2H.roomH_mark (hr.mono hjk) _) hot hb (fun _ _ _ _ _ _ _ h => h.elim) hg F.glo ha hdb he hpl)) fun D σ H h => B6 h
def D0 (cs : List Str) (m : FS) (c : Str) (mr : FS) : FS := fun ρ S => match m ρ S with
 | .err e ρ' S' => if e.cls ∈ cs /\ c ∈ cs then (if e.cls = c then mr ρ' S' else .err e ρ' S') else .stuck
 | o => o
def Kl (cs : List Str) (c : Str) (mr : FS) (o : Out) : Out := match o with
 | .err e ρ' S' => if e.cls ∈ cs /\ c ∈ cs then (if e.cls = c then mr ρ' S' else .err e ρ' S') else .stuck
 | o => o
theorem L7 {ρ : Ev} {c : Str} : D0 cs m c mr ρ S = Kl cs c mr (m ρ S) := by
 unfold D0 Kl;cases m ρ S <;> rfl
theorem K5 {c : Str} (M : RQ K cs) (h : hW K W (D0 cs m c mr) D σ H) : hW K (wOnly K (.ref (He.ga K c)) (fun _ _ _ => hW K W mr) W D) m D σ H := by
 obtain ⟨B, φ, S, ρ, I, E, f⟩ := h;refine ⟨B, φ, S, ρ, I, E, ?_⟩
 unfold D0 at f;cases q : m ρ S with
 | err e ρ' S' =>
  rw [q] at f;dsimp only at f;split at f
  ·rename_i hh
   intro φ' σ' cc x H' I' X' E' r;have f2 := FinS.ext f X';refine ⟨decide (e.cls = c), by rw [r.1]; exact M e.cls hh.1 c hh.2, fun h a na => ?_, fun h => ?_⟩
   ·rw [if_pos (of_decide_eq_true h)] at f2
    exact ⟨B, φ', S', ρ', I', E', f2⟩
   ·rw [if_neg (of_decide_eq_false h)] at f2
    exact f2 φ' σ' cc x H' I' Ext.refl E' r
  ·exact f.elim
 | next ρ S' => rw [q] at f; exact f
 | ret d S' => rw [q] at f; exact f
 | brk ρ S' => rw [q] at f; exact f
 | cnt ρ S' => rw [q] at f; exact f
 | stuck => rw [q] at f; exact f
theorem OC {body suite : List Stmt} {b₀ : Stmt} {c : Str} (M : RQ X.K cs) (g : X.mg c = some (.ref (He.ga X.K c))) (hs : X.stack = X.env :: X.outer) (hf : X.env.frame = some X.env.locals) (hpa : ∀ hd : Option Value, PassesOwnAt (model X.prog X.w) (X.A.mark hd) X.A X.env X.xe) (tk : Takes X W)
  (hb : ∀ (W : WX) (pn : List (Addr × Obj)) (xe : Value -> Shared -> Prop), L2N.Takes (X.tr pn xe) W -> PassesOwn (model X.prog X.w) X.A X.env xe -> PSs (X.tr pn xe) body (hW X.K W m))
  (hsu : ∀ (a : Addr) (pn : List (Addr × Obj)), Takes (L2H.suiteX X a pn) W -> L2H.HotC (L2H.suiteX X a pn) -> PSs (L2H.suiteX X a pn) (b₀ :: suite) (hW X.K W mr)) (hg : Gl X c := by rfl) (hd : (c == ("__debug__" : Str)) = false := by decide) :
  PS X (.Try body [.ExceptHandler (some (.Name c np)) none (b₀ :: suite) pos'] [] [] pos) (hW X.K W (D0 cs m c mr)) :=
 fE (L2H.ps_try_onlyX (tb := fun W => hW X.K W m) (ts := fun _ _ _ => hW X.K W mr) hs hf ⟨hg, hd, .inl g⟩ hpa tk (fun W pn xe t _ p => hb W pn xe t p) (fun a oe cls d pn _ _ t h => hsu a _ t h)) fun D σ H h => K5 M h
end
structure XsF (K : aD) (D : Addr) : Prop where
 cl : (PySem.W.clsIn K D).isSome = true
 hg : cG K (.ref D) "__getattribute__" = some (some (.builtin "BaseException.__getattribute__"))
 hk : cG K (.ref D) "__getattr__" = some none
 hs : Dh K (.ref D) (.type "BaseException") = some true
 ha : cG K (.ref D) "__class__" = some (some (.builtin "object.__class__"))
 hn : qL K (.builtin "object.__class__") "__get__" = some (some (.builtin "getset_descriptor.__get__"))
 ht : sV K (.builtin "object.__class__") = some true
 hm : wU K D (.type "object") = some true
theorem PR {K : aD} {D : Addr} (h : xsB K D = true) : XsF K D := by
 obtain ⟨h1, h⟩ := He.ba h;obtain ⟨h2, h⟩ := He.ba h;obtain ⟨h3, h⟩ := He.ba h;obtain ⟨h4, h⟩ := He.ba h;obtain ⟨h5, h⟩ := He.ba h;obtain ⟨h6, h⟩ := He.ba h;obtain ⟨h7, h8⟩ := He.ba h;exact ⟨h1, of_decide_eq_true h2, of_decide_eq_true h3, of_decide_eq_true h4, of_decide_eq_true h5, of_decide_eq_true h6, of_decide_eq_true h7, of_decide_eq_true h8⟩
def rXs (K : aD) (D : Addr) (a : Addr) (cls : Value) (d : Option Addr) : List V -> Hp -> VK -> Prop := fun xs H Q => ∃ (c dd : Addr) (fs : List (Str × V)) (b : Bool), xs = [.ref a, .ref c] /\ cls = .ref D /\ d = some dd /\ H dd = some (.xd fs) /\ iM K (.ref D) (.ref c) = some b /\ Q (.bl b) H
theorem OT {X : Cx} {a D : Addr} {oe : Obj} {cls : Value} {d : Option Addr} {pn : List (Addr × Obj)} (C : XsF X.K D) (hz : Zc cls d oe) (hf : ∃ vs, oe.data = .fields vs) : CallR (X.suite a ((a, oe) :: pn)) (.builtin "isinstance") (rXs X.K D a cls d) := by
 intro pins s σ H xs us Q I r h;obtain ⟨c, dd, fs, b, rfl, ec, ed, ea, e, q⟩ := h;subst ec ed;cases r with
 | cons rx rr =>
  cases rr with
  | cons rt rr =>
   cases rr;cases rx;cases rt;obtain ⟨ha, _⟩ := I.pin (a, oe) (bT.mpr (.inl aY));obtain ⟨vs, hd⟩ := hf;have hx : ObjOk X.prog X.w H s.heap dd (.xd fs) := I.hok dd _ ea;obtain ⟨mA, hns, hr⟩ := hx;obtain ⟨od, ho, hl⟩ := lookIn_ns hns;have J : PySem.W.InstAt s.heap a oe D (some od) := ⟨ha, hz.1, by unfold PySem.W.notCls; rw [hd] <;> rfl, by rw [hz.2]; exact ho⟩
   exact PySem.W.kia_one (PySem.W.kitx_exc C.cl C.hg C.hk C.hs C.ha C.hn C.ht C.hm) I.kIn J e (fun z => nomatch z) fun tk => ⟨.bl b, H, I.kept (t' := tk) fun _ _ z => z, rfl, q⟩
inductive XKI where
 | c (v : L2.V) (d : PH.D) | f (n : Str) | is (x : Str) (b : Bool)
def xkR (K : aD) (a : Addr) (cls : Value) (d : Option Addr) (C : Addr) (k : Nat) : List XKI -> TA
 | [] => tNil
 | .c v _ :: r => tCons (tC v) (xkR K a cls d C k r)
 | .f n :: r => tCons (tXf a cls d C n (vL k)) (xkR K a cls d C k r)
 | .is x _ :: r => tCons (tCB (rXs K C a cls d) (tCons (vL k) (tCons (tC (.ref (He.ga K x))) tNil))) (xkR K a cls d C k r)
def xkF (e : Er) : List XKI -> Option (List PH.D)
 | [] => some []
 | .c _ d :: r => (match xkF e r with
  | some ds => some (d :: ds)
  | none => none)
 | .f n :: r => (match (e.ns.zip e.xs).lookup n, xkF e r with
  | some d, some ds => some (d :: ds)
  | _, _ => none)
 | .is _ b :: r => if e.ns = [] then none else (match xkF e r with
  | some ds => some (.bl b :: ds)
  | none => none)
def Jw (K : aD) (C : Str) : List XKI -> Prop
 | [] => True
 | .c v d :: r => (∀ (K : aD) (Bk : Addr -> Prop) (H : Hp), Rep K Bk H d v) /\ Jw K C r
 | .f _ :: r => Jw K C r
 | .is x b :: r => iM K (.ref (He.ga K C)) (.ref (He.ga K x)) = some b /\ Jw K C r
section
variable {X : Cx} {W : WX} {e : Expr} {es : List Expr} {pos : Pos} {K : aD} {B : Addr -> Prop} {φ φ' : List Addr} {S S' : aM} {H H' : Hp} {σ : L2.St} {m : FS} {D : Ends} {cs : List Str} {x : Str}
def tSetI (i : Nat) (te : TE) : TS := fun D σ H => te σ H fun x H1 => D.nx (σ.set i (some x)) H1
theorem RepE.unbind {ρ : Ev} (E : RepE K B φ S H ρ σ) (k : Nat) : RepE K B φ S H (ρ.set k none) (σ.set k none) := by
 refine ⟨by simp [E.1], fun i d h => ?_⟩
 by_cases e : k = i
 ·subst e
  rw [aQ, if_pos rfl] at h;split at h
  ·cases h
  ·cases h
 ·rw [aQ, if_neg e] at h ⊢
  exact E.2 i d h
def nD (k : Nat) : FS := fun ρ S => match lk ρ k with
 | some (.dat _) => .next ρ S
 | _ => Bo k ρ S
theorem JX {sts : List Stmt} {m : FS} (k : Nat) (h : PSs X sts (hW X.K W m)) : PSs X sts (hW X.K W (aK (nD k) m)) := by
 refine ⟨fun pins s σ H D I hq => ?_⟩
 obtain ⟨B, φ, S, ρ, I', E, f⟩ := hq;have c : nD k ρ S = .next ρ S \/ nD k ρ S = Bo k ρ S := by
  unfold nD;split
  ·exact .inl rfl
  ·exact .inr rfl
 rcases c with c | c
 ·have e : aK (nD k) m ρ S = m ρ S := by unfold aK; rw [c]
  rw [e] at f;exact h.run pins s σ H D I ⟨B, φ, S, ρ, I', E, f⟩
 ·have e : aK (nD k) m ρ S = aK (Bo k) m ρ S := by unfold aK; rw [c]
  rw [e] at f;exact (OB k h).run pins s σ H D I ⟨B, φ, S, ρ, I', E, f⟩
theorem Np {k : Nat} {ρ : Ev} {S : aM} {d : PH.D} (h : lk ρ k = some (.dat d)) : nD k ρ S = .next ρ S := by unfold nD; rw [h]
theorem Nq {k n : Nat} {ρ : Ev} {S : aM} {ds : List PH.D} (h : lk ρ k = some (.cel n)) (h2 : S[n]? = some (.lst ds)) : nD k ρ S = .next (ρ.set k (some (.dat (.lst ds)))) (S.set n .dead) := by unfold nD; rw [h]; exact LZ h h2
end
def xk1 (K : aD) (a : Addr) (cls : Value) (d : Option Addr) (C : Addr) (k : Nat) : XKI -> TE
 | .c v _ => tC v
 | .f n => tXf a cls d C n (vL k)
 | .is x _ => tCB (rXs K C a cls d) (tCons (vL k) (tCons (tC (.ref (He.ga K x))) tNil))
def xkV (e : Er) : XKI -> Option PH.D
 | .c _ d => some d
 | .f n => (e.ns.zip e.xs).lookup n
 | .is _ b => if e.ns = [] then none else some (.bl b)
def A9 (K : aD) (a : Addr) (cls : Value) (d : Option Addr) (C : Addr) (k : Nat) : List (Nat × XKI) -> TS
 | [] => tNext
 | (i, it) :: r => tSeq (tSetI i (xk1 K a cls d C k it)) (A9 K a cls d C k r)
def Hc (e : Er) (k : Nat) : List (Nat × XKI) -> Ev -> Option Ev
 | [], ρ => some ρ
 | (i, it) :: r, ρ => if k = i then none else (match xkV e it with
  | some d => Hc e k r (ρ.set i (some (.dat d)))
  | none => none)
section
variable {X : Cx} {W : WX} {e : Expr} {es : List Expr} {pos : Pos} {K : aD} {B : Addr -> Prop} {φ φ' : List Addr} {S S' : aM} {H H' : Hp} {σ : L2.St} {m : FS} {D : Ends} {cs : List Str} {x : Str}
theorem PV {er : Er} {cl : Value} {xd : Option Addr} {C : Str} {k : Nat} {a : Addr} (hC : er.cls = C) (hσ : sl σ k = some (.ref a)) (rx : Jm K B φ S H er cl xd) {it : XKI} {d : PH.D} {Q : VK} (ok : Jw K C [it]) (h : xkV er it = some d) (q : ∀ v, Rep K (jA B φ S) H d v -> Q v H) : xk1 K a cl xd (He.ga K C) k it σ H Q := by
 cases it with
 | c v d' => cases h; exact q v (ok.1 _ _ _)
 | f n => exact rd_xf rx hC hσ h fun v rv => q v rv
 | is x b =>
  have h' : (if er.ns = [] then none else some (PH.D.bl b)) = some d := h
  by_cases hne : er.ns = []
  ·rw [if_pos hne] at h'
   cases h'
  ·rw [if_neg hne] at h'
   cases h';obtain ⟨ec, rest⟩ := rx;rcases rest with ⟨e1, _⟩ | ⟨dd, us, e1, e2, l⟩
   ·exact (hne e1).elim
   show (match sl σ k with | some v => _ | none => False)
   rw [hσ];exact ⟨He.ga K x, dd, _, b, rfl, by rw [ec, hC], e1, e2, ok.1, q _ rfl⟩
def Jv (K : aD) (C : Str) : List (Nat × XKI) -> Prop
 | [] => True
 | (_, it) :: r => Jw K C [it] /\ Jv K C r
theorem Hb {er : Er} {cl : Value} {xd : Option Addr} {C : Str} {k : Nat} {a : Addr} (hC : er.cls = C) (rx : Jm K B φ S H er cl xd) : ∀ {its : List (Nat × XKI)} {ρ ρ2 : Ev} {σ : L2.St}, Jv K C its -> σ[k]? = some (some (.ref a)) -> RepE K B φ S H ρ σ -> Hc er k its ρ = some ρ2 -> (∀ σ2, RepE K B φ S H ρ2 σ2 -> D.nx σ2 H) -> A9 K a cl xd (He.ga K C) k its D σ H
 | [], ρ, ρ2, σ, ok, hσ, E, h, N => by
  cases h;exact N σ E
 | (i, it) :: r, ρ, ρ2, σ, ok, hσ, E, h, N => by
  unfold Hc at h;split at h
  ·cases h
  ·rename_i hne
   cases q : xkV er it with
   | none => rw [q] at h; cases h
   | some d =>
    rw [q] at h
    show xk1 K a cl xd (He.ga K C) k it σ H fun v H1 => A9 K a cl xd (He.ga K C) k r D (σ.set i (some v)) H1
    refine PV hC (Od hσ) rx ok.1 q fun v rv => ?_
    refine Hb hC rx ok.2 ?_ (E.set (d := .dat d) (v := v) rv i) h N
    rw [aQ, if_neg fun z => hne z.symm]
    exact hσ
abbrev HL := Str × Nat × List (Nat × XKI)
def uW (cs : List Str) : List HL -> Er -> Ev -> aM -> Out
 | [], e, ρ, S => .err e ρ S
 | (c, k, its) :: r, e, ρ, S => if e.cls = c then (if k < ρ.length then (match Hc e k its (ρ.set k none) with
   | some ρ' => .next (ρ'.set k none) S
   | none => .stuck) else .stuck) else uW cs r e ρ S
def NQ (K : aD) : List HL -> Prop
 | [] => True
 | (c, _, its) :: r => Jv K c its /\ NQ K r
def AG (cs : List Str) (m : FS) (hs : List HL) : FS := fun ρ S => match m ρ S with
 | .err e ρ' S' => if e.cls ∈ cs /\ ∀ h ∈ hs, h.1 ∈ cs then uW cs hs e ρ' S' else .stuck
 | o => o
def Km (cs : List Str) (hs : List HL) (o : Out) : Out := match o with
 | .err e ρ' S' => if e.cls ∈ cs /\ ∀ h ∈ hs, h.1 ∈ cs then uW cs hs e ρ' S' else .stuck
 | o => o
theorem L8 {ρ : Ev} {hs : List HL} : AG cs m hs ρ S = Km cs hs (m ρ S) := by
 unfold AG Km;cases m ρ S <;> rfl
def hlR (K : aD) : HL -> GD
 | (c, k, its) => (.ref (He.ga K c), some k, fun a cls d => A9 K a cls d (He.ga K c) k its)
def hsL (K : aD) (hs : List HL) : List GD := hs.map (hlR K)
theorem Bt {e : Er} {c : Value} {d : Option Addr} {Wout : WX} (M : RQ K cs) (he : e.cls ∈ cs) (rx : Jm K B φ S H e c d) (I : GInv K B φ S H) {ρ : Ev} (E : RepE K B φ S H ρ σ) : ∀ {hs : List HL}, NQ K hs -> (∀ h ∈ hs, h.1 ∈ cs) -> FinS K Wout D B φ S H (uW cs hs e ρ S) -> yX K Wout D (hsL K hs) c d σ H
 | [], _, _, f => f φ σ c d H I Ext.refl E rx
 | (c', k, its) :: r, ok, hc, f => by
  unfold uW at f;have q := M e.cls he c' (hc _ (aY ..));have ec : c = .ref (He.ga K e.cls) := rx.1;refine ⟨decide (e.cls = c'), by rw [ec]; exact q, fun h a na => ?_, fun h => ?_⟩
  ·have ecl := of_decide_eq_true h
   rw [if_pos ecl] at f;split at f
   ·rename_i hk
    split at f
    ·rename_i ρ' qd
     have hl : k < σ.length := by rw [<- E.1]; exact hk
     refine Hb (σ := σ.set k (some (.ref a))) ecl rx ok.1 (by rw [aQ, if_pos rfl, if_pos hl]) (E.wipe1 k) qd fun σ2 E2 => ?_
     exact f φ _ _ I Ext.refl (E2.unbind k)
    ·exact f.elim
   ·exact f.elim
  ·rw [if_neg (of_decide_eq_false h)] at f
   exact Bt M he rx I E (hs := r) ok.2 (fun h hh => hc h (aV _ hh)) f
theorem K6 {hs : List HL} (M : RQ K cs) (ok : NQ K hs) (h : hW K W (AG cs m hs) D σ H) : hW K (yX K W D (hsL K hs)) m D σ H := by
 obtain ⟨B, φ, S, ρ, I, E, f⟩ := h;refine ⟨B, φ, S, ρ, I, E, ?_⟩
 unfold AG at f;cases q : m ρ S with
 | err e ρ' S' =>
  rw [q] at f;dsimp only at f;split at f
  ·rename_i hh
   exact fun φ' σ' c x H' I' X' E' r => Bt M hh.1 r I' E' ok hh.2 (FinS.ext f X')
  ·exact f.elim
 | next ρ S' => rw [q] at f; exact f
 | ret d S' => rw [q] at f; exact f
 | brk ρ S' => rw [q] at f; exact f
 | cnt ρ S' => rw [q] at f; exact f
 | stuck => rw [q] at f; exact f
theorem OD {body : List Stmt} {h₀ : ExceptHandler} {hds : List ExceptHandler} {hs' : List HL} (M : RQ X.K cs) (ok : NQ X.K hs') (hs : X.stack = X.env :: X.outer) (hf : X.env.frame = some X.env.locals) (tk : Takes X W)
  (hb : ∀ (W : WX) (pn : List (Addr × Obj)) (xe : Value -> Shared -> Prop), Takes (X.tr pn xe) W -> PassesOwn (model X.prog X.w) X.A X.env xe -> PSs (X.tr pn xe) body (hW X.K W m))
  (hh : HdsA X (h₀ :: hds) (hsL X.K hs')) : PS X (.Try body (h₀ :: hds) [] [] pos) (hW X.K W (AG cs m hs')) := fE (E6 (tb := fun W => hW X.K W m) hs hf tk hb hh) fun D σ H h => K6 M ok h
theorem QR : HdsA X [] (hsL X.K []) := .nil
theorem hl_as {b₀ : Stmt} {suite : List Stmt} {hds : List ExceptHandler} {k : Nat} {its : List (Nat × XKI)} {n : Str} {hs' : List HL} {np pos' : Pos} (g : X.mg x = some (.ref (He.ga X.K x))) (hN : X.N.Nodup) (hi : X.N[k]? = some n) (hln : X.env.kindOf n = some .local)
  (hsu : ∀ (a : Addr) (oe : Obj) (cls : Value) (d : Option Addr) (pn : List (Addr × Obj)), Zc cls d oe -> (∃ vs, oe.data = .fields vs) -> PSs (X.suite a ((a, oe) :: pn)) (b₀ :: suite) (A9 X.K a cls d (He.ga X.K x) k its)) (r : HdsA X hds (hsL X.K hs')) (hg : Gl X x := by rfl) (hd : (x == ("__debug__" : Str)) = false := by decide) :
  HdsA X (.ExceptHandler (some (.Name x np)) (some n) (b₀ :: suite) pos' :: hds) (hsL X.K ((x, k, its) :: hs')) := .consA ⟨hg, hd, .inl g⟩ hN hi hln hsu r
theorem kl_f {a : Addr} {oe : Obj} {cls : Value} {d : Option Addr} {C : Addr} {k : Nat} {pn : List (Addr × Obj)} {nm : Str} (T : XfC X.K C) (hno : cG X.K (.ref C) nm = some none) (hz : Zc cls d oe) (hf : ∃ vs, oe.data = .fields vs) (he : PE (X.suite a ((a, oe) :: pn)) e (vL k))
  (hb : attributeBase e nm X.env (eval e X.env) = eval e X.env := by rfl) : PE (X.suite a ((a, oe) :: pn)) (.Attribute e nm pos) (xk1 X.K a cls d C k (.f nm)) := pe_xf T hno hz hf he hb
theorem kl_is {a : Addr} {oe : Obj} {cls : Value} {d : Option Addr} {C : Addr} {k : Nat} {pn : List (Addr × Obj)} {y : Str} {b : Bool} {p p2 p3 : Pos} (T : XsF X.K C) (hm : X.mg "isinstance" = none) (g : X.mg y = some (.ref (He.ga X.K y))) (hz : Zc cls d oe) (hf : ∃ vs, oe.data = .fields vs) (he : PE (X.suite a ((a, oe) :: pn)) e (vL k))
  (hgi : Gl X "isinstance" := by rfl) (hgy : Gl X y := by rfl) (hdb : (y == ("__debug__" : Str)) = false := by decide)
  (h1 : starEach [e, .Name y p2] X.env = (false, eval e X.env) :: starEach [.Name y p2] X.env := by rfl) (h2 : starEach [.Name y p2] X.env = (false, eval (.Name y p2) X.env) :: starEach [] X.env := by rfl) (hpl : (backTo p3 (starEach [.Name y p2] X.env)).any (·.1) = false := by rfl) : PE (X.suite a ((a, oe) :: pn)) (.Call (.Name "isinstance" p) [e, .Name y p2] [] p3) (xk1 X.K a cls d C k (.is y b)) :=
 pe_callB (OT T hz hf) hgi hm boot_isinstance (pa_cons he (pa_cons (pe_glob (v := .ref (He.ga X.K y)) hgy g rfl hdb) pa_nil h2) h1) (he := h1) (hpl := hpl)
theorem Q5 {a : Addr} {cls : Value} {d : Option Addr} {C : Addr} {k : Nat} : PSs X [] (A9 X.K a cls d C k []) := pss_nil
theorem Kk {a : Addr} {oe : Obj} {cls : Value} {d : Option Addr} {C : Addr} {k i : Nat} {it : XKI} {its : List (Nat × XKI)} {pn : List (Addr × Obj)} {v : Str} {pv : Pos} {sts : List Stmt} (hN : X.N.Nodup) (hi : X.N[i]? = some v) (hx : Loc X.env.scope v) (h : PE (X.suite a ((a, oe) :: pn)) e (xk1 X.K a cls d C k it)) (r : PSs (X.suite a ((a, oe) :: pn)) sts (A9 X.K a cls d C k its))
  (hs : swapsWith e (some (.Name v pv)) pos.line X.env = pure false := by rfl) (hf : X.fn v = true \/ X.env.scope.names.lookup v = some .local := by first | exact .inl rfl | exact .inr rfl | assumption) : PSs (X.suite a ((a, oe) :: pn)) (.Assign [.Name v pv] e pos :: sts) (A9 X.K a cls d C k ((i, it) :: its)) :=
 pss_cons (fE (ps_set (X := X.suite a ((a, oe) :: pn)) hN hi hx h hs hf) fun D σ H q => q) r
end
def wH (x y : Vl) (S : aM) : Res Vl := match x, y with
 | .cel n, .dat (.int i) => (match S[n]? with
  | some (.lst ds) => if 0 <= i /\ i < 2 ^ 62 then (match ds[i.toNat]? with
   | some d => .ok (.dat d) (S.set n (.lst (ds.take i.toNat ++ ds.drop (i.toNat + 1))))
   | none => .stuck) else .stuck
  | _ => .stuck)
 | _, _ => .stuck
def Gh (a b : FE) : FE := fun ρ S => (a ρ S).bind fun x S1 => match hG S1 x with
 | some _ => (b ρ S1).bind fun y S2 => wH x y S2
 | none => .stuck
def Gp (b : FE) (ρ : Ev) (x : Vl) (S1 : aM) : Res Vl := match hG S1 x with
 | some _ => (b ρ S1).bind (wH x)
 | none => .stuck
theorem NV {a b : FE} {ρ : Ev} {S : aM} : Gh a b ρ S = (a ρ S).bind (Gp b ρ) := rfl
theorem LM {b : FE} {ρ : Ev} {S : aM} {n : Nat} {ds : List PH.D} (h : S[n]? = some (.lst ds)) : Gp b ρ (.cel n) S = (b ρ S).bind (wH (.cel n)) := by
 unfold Gp hG;simp only [h]
theorem Lc {S : aM} {n k : Nat} {ds : List PH.D} {d : PH.D} (h : S[n]? = some (.lst ds)) (hk : k <= 1000000) (hd : ds[k]? = some d) : wH (.cel n) (.dat (.int (k : Int))) S = .ok (.dat d) (S.set n (.lst (ds.take k ++ ds.drop (k + 1)))) := by
 unfold wH;simp only [h];rw [if_pos ⟨by omega, by omega⟩, cZ]
 simp only [hd]
section
variable {X : Cx} {W : WX} {a b : Expr} {ma mb : FE} {pos apos cpos : Pos}
theorem OG (ha : PE X a (cY X.K W ma)) (hb : PE X b (cY X.K W mb)) (hs : starEach [b] X.env = (false, eval b X.env) :: starEach [] X.env := by rfl) (hbase : attributeBase a "pop" X.env (eval a X.env) = eval a X.env := by rfl) (hline : (apos.endLine == cpos.line) = true := by rfl)
  (hfew : ((backTo cpos (starEach [b] X.env)).all (fun x => !x.1) && (backToKw cpos (keywordEach [] X.env)).all (fun x => x.1.isSome)
   && decide ([b].length + ([] : List Keyword).length + (if ([] : List Keyword).isEmpty then 0 else 1) < 30)) = true := by rfl)
  (hpl : (backTo cpos (starEach ([] : List Expr) X.env)).any (·.1) = false := by rfl) : PE X (.Call (.Attribute a "pop" apos) [b] [] cpos) (cY X.K W (Gh ma mb)) :=
 cP (pe_bm PySem.F.plainAttrs_list PySem.F.slot_list_pop PySem.F.type_list_pop mt_popAt ha (pa_cons hb pa_nil hs) hbase hfew hline hs hpl) fun σ H Q h =>
  cA (k := fun x ρ S1 => match hG S1 x with | some _ => (mb ρ S1).bind fun y S2 => wH x y S2 | none => .stuck) h fun B φ S ρ d v H1 I E r f => by
   split at f
   ·rename_i ds q
    refine ⟨Eb (e := d) I r ⟨ds, q⟩, iJ I E f fun φ' S' d2 v2 H2 I2 X2 E2 r2 f2 => ?_⟩
    have r' := r.ext X2 I;unfold wH at f2;split at f2
    ·rename_i n i
     obtain ⟨a, rfl, h1⟩ := r';obtain rfl : v2 = .int i := r2;split at f2
     ·rename_i ds2 q2
      obtain ⟨vs, h2, l⟩ := I2.ok n _ a q2 h1;split at f2
      ·rename_i hi
       split at f2
       ·rename_i z qz
        obtain ⟨v', h3, h4⟩ := l.get qz;have hlt : i.toNat < vs.length := (aJ.mp h3).1;refine ⟨a, vs, i, i.toNat, v', rfl, rfl, h2, by omega, by omega, ?_, h3, ?_⟩
        ·unfold seqIndex?
         have h0 : ¬ i < 0 := by omega
         have h2 : i < (vs.length : Int) := by omega
         simp [h0, hi.1, h2]
        ·have e : vs.eraseIdx i.toNat = vs.take i.toNat ++ vs.drop (i.toNat + 1) := List.eraseIdx_eq_take_drop_succ vs i.toNat
         rw [e];exact yF (v := .non) (d' := .dat z) (vs := vs) I2 q2 h1 ((l.take _).append (l.drop _)) h4 f2
       ·exact f2.elim
      ·exact f2.elim
     ·exact f2.elim
    ·exact f2.elim
   ·exact f.elim
end
def nY : FS :=
 (bI (iF (m1 (fIsi "int") (aC 0)) (Hs (m1 (fIsi "bool") (aC 0)))))
def gH : FD := run 1 1 nY
def yJ : FS :=
 (bI (iF (aO gH (aB (aC 0) aI)) (jD HK HK (mC (.int 0)) (aC 0) (mC (.int 1)))))
def xN : FD := run 1 1 yJ
def lI : FE :=
 (iF (aO gH (aB (aC 4) aI)) (jD HK HK (aC 2) (aC 4) (aC 3)))
def iX : FS :=
 (aK (bJ (pK (dY (bY (m1 (fIsi "tuple") (aC 0)))) (mB (aX gC (m1 cK (aC 0)) (mC (.int 0))))) (bI (mC (.bl false))) aZ)
 (aK (bJ (pK (dY (bY (m1 (fIsi "str") (aX cQ (aC 0) (mC (.int 0)))))) (mB (m1 (fX true) (aX cQ (aC 0) (mC (.int 0)))))) (bI (mC (.bl false))) aZ)
 (aK (bL (m1 A2 (aX cQ (aC 0) (mC (.int 0)))) (.tp [1, 2, 3]))
 (aK (bJ (mB (aX A0 (m1 cK (aC 0)) (aX (dD false) (aC 1) (mC (.int 1))))) (bI (mC (.bl false))) aZ)
 (bI (m1 wJ (Bn false (jL (Ka false (aC 0) (tV (mC (.int 1))) Bm)) (.nm 4) gK lI [4])))))))
def fO : FD := run 5 1 iX
def pS : FS :=
 (aK (bL (aX cQ (aC 0) (mC (.int 0))) (.nm 1))
 (aK (bJ (pK (mB (aX gC (aC 1) (mC (.str "keep")))) (mB (aX gC (aC 1) (mC (.str "again"))))) (bI (bK false (aB (aX cQ (aC 0) (mC (.int 1))) aI))) aZ)
 (aK (bJ (mB (aX gC (aC 1) (mC (.str "either")))) (bI (bK false (aB (aX cQ (aC 0) (mC (.int 1))) (aB (aX cQ (aC 0) (mC (.int 2))) aI)))) aZ)
 (aK (bJ (mB (aX gC (aC 1) (mC (.str "call")))) (bI (aX cQ (aC 0) (mC (.int 3)))) aZ)
 (bI (bK false aI))))))
def iD : FD := run 2 1 pS
def mE : FS :=
 (aK (bL (aX cQ (aC 0) (mC (.int 0))) (.nm 2))
 (aK (bJ (pK (mB (aX gC (aC 2) (mC (.str "keep")))) (mB (aX gC (aC 2) (mC (.str "again"))))) (bI (cE (aB (aC 2) (aB (aX cQ (aC 1) (mC (.int 0))) aI)))) aZ)
 (aK (bJ (mB (aX gC (aC 2) (mC (.str "either")))) (bI (cE (aB (aC 2) (aB (aX cQ (aC 1) (mC (.int 0))) (aB (aX cQ (aC 1) (mC (.int 1))) aI))))) aZ)
 (aK (bJ (mB (aX gC (aC 2) (mC (.str "call")))) (bI (cE (aB (aC 2) (aB (aX cQ (aC 0) (mC (.int 1))) (aB (aX cQ (aC 0) (mC (.int 2))) (aB (aC 1) aI)))))) aZ)
 (bI (aC 0))))))
def lX : FD := run 3 2 mE
def gR (f_copied_block : FD) : FS :=
 (bI (aO lX (aB (aC 0) (aB (Bn false (jL (aO iD (aB (aC 0) aI))) (.nm 1) gK (aO (f_copied_block) (aB (aC 1) aI)) [1]) aI))))
def lJ (f_copied_statement : FD) : FS :=
 (bI (Bn false (jL (aC 0)) (.nm 1) gK (aO (f_copied_statement) (aB (aC 1) aI)) [1]))
def jW : Nat -> FD × FD
 | 0 => (oI, oI)
 | n + 1 => let r := jW n
  (run 2 1 (gR r.2), run 2 1 (lJ r.1))
def gI (n : Nat) : FD := (jW n).1
def fC (n : Nat) : FD := (jW n).2
def mF : FS :=
 (aK (bJ (bY (aO fO (aB (aC 0) aI))) (bI (mC (.bl true))) aZ)
 (aK (bJ (pK (dY (bY (m1 (fIsi "tuple") (aC 0)))) (pK (mB (aX ET (m1 cK (aC 0)) (mC (.int 2)))) (dY (bY (m1 (fIsi "str") (aX cQ (aC 0) (mC (.int 0)))))))) (bI (mC (.bl false))) aZ)
 (aK (bL (aX cQ (aC 0) (mC (.int 0))) (.nm 3))
 (aK (bJ (mB (aX gC (aC 3) (mC (.str "end")))) (bI (iF (aX gC (m1 cK (aC 0)) (mC (.int 2))) (aO xN (aB (aX cQ (aC 0) (mC (.int 1))) aI)))) aZ)
 (aK (bJ (mB (aX gC (aC 1) (mC (.int 3)))) (bI (mC (.bl false))) aZ)
 (aK (bJ (pK (mB (aX gC (aC 3) (mC (.str "keep")))) (mB (aX gC (aC 3) (mC (.str "again"))))) (bI (iF (aX gC (m1 cK (aC 0)) (mC (.int 2))) (m1 (fIsi "list") (aX cQ (aC 0) (mC (.int 1)))))) aZ)
 (aK (bJ (mB (aX gC (aC 3) (mC (.str "either")))) (bI (iF (aX gC (m1 cK (aC 0)) (mC (.int 3))) (iF (m1 (fIsi "list") (aX cQ (aC 0) (mC (.int 1)))) (m1 (fIsi "list") (aX cQ (aC 0) (mC (.int 2))))))) aZ)
 (aK (bJ (pK (mB (aX A0 (aC 3) (mC (.str "call")))) (mB (aX A0 (m1 cK (aC 0)) (mC (.int 4))))) (bI (mC (.bl false))) aZ)
 (aK (bJ (pK (dY (bY (aO gH (aB (aX cQ (aC 0) (mC (.int 1))) aI)))) (dY (mB (jD HK ET (mC (.int 0)) (aX cQ (aC 0) (mC (.int 1))) (aC 2))))) (bI (mC (.bl false))) aZ)
 (aK (bJ (pK (dY (bY (m1 (fIsi "bool") (aX cQ (aC 0) (mC (.int 2)))))) (pK (dY (bY (m1 (fIsi "list") (aX cQ (aC 0) (mC (.int 3)))))) (mB (aX A0 (m1 cK (aX cQ (aC 0) (mC (.int 3)))) (mC (.int 2)))))) (bI (mC (.bl false))) aZ)
 (bI (iF (m1 (fIsi "list") (aX cQ (aX cQ (aC 0) (mC (.int 3))) (mC (.int 0)))) (m1 (fIsi "list") (aX cQ (aX cQ (aC 0) (mC (.int 3))) (mC (.int 1))))))))))))))))
def jJ : FD := run 4 3 mF
def fL (f_first_fault : FD) : FS :=
 (eU [8, 9, 10] (aK (bL (aO (f_first_fault) (aB (aC 9) (aB (aX (dD false) (aC 1) (mC (.int 1))) (aB (aC 2) (aB (aX (dD false) (aC 7) (cE (aB (aC 8) aI))) (aB (aC 4) aI)))))) (.tp [10, 4]))
 (bJ (mB (aX (lH true) (aC 10) (mC .non))) (bI (cE (aB (aC 10) (aB (aC 4) aI)))) aZ)))
def jQ (f_first_fault : FD) : FS :=
 (eU [5, 6, 7, 8, 9, 10] (aK (bL (aX (dD false) (aC 3) (cE (aB (aC 5) aI))) (.nm 7))
 (aK (bJ (pK (mB (aX gC (aC 5) (mC (.int 8)))) (pK (mB (aX gC (aC 4) (mC (.int 12)))) (dY (bY (aO jJ (aB (aC 6) (aB (aC 1) (aB (aC 2) aI)))))))) (bI (cE (aB (aC 7) (aB (aC 4) aI)))) aZ)
 (aK (Kf (fun x y => x + y) 4 (mC (.int 1)))
 (kP (sO (aO iD (aB (aC 6) aI))) (.tp [8, 9]) (fL (f_first_fault)))))))
def mI (f_first_fault : FD) : FS :=
 (aK (kP (sO (aC 0)) (.tp [5, 6]) (jQ (f_first_fault)))
 (bI (cE (aB (mC .non) (aB (aC 4) aI)))))
def dE : Nat -> FD
 | 0 => oI
 | n + 1 => run 11 5 (mI (dE n))
def dP : FS :=
 (eU [2, 3, 4, 5] (aK (bJ (dY (bY (m1 (fIsi "list") (aC 3)))) (dR "NoBook" ["path", "procedure"] (aB (aC 2) (aB (cE aI) aI))) aZ)
 (aK (bL (aO (dE 10) (aB (aC 3) (aB (mC (.int 0)) (aB (m1 cK (aC 1)) (aB (cE aI) (aB (mC (.int 0)) aI)))))) (.tp [4, 5]))
 (bJ (mB (aX (lH true) (aC 4) (mC .non))) (dR "NoBook" ["path", "procedure"] (aB (aC 2) (aB (aC 4) aI))) aZ))))
def pW : FS :=
 (aK (bJ (pK (dY (bY (m1 (fIsi "list") (aC 1)))) (dY (mB (jD HK HK (mC (.int 1)) (m1 cK (aC 1)) (mC (.int 3)))))) (dR "NoBook" ["path", "procedure"] (aB (m1 oS (mC (.int 1))) (aB (cE aI) aI))) aZ)
 (aK (kP (sO (aC 1)) (.tp [2, 3]) dP)
 (Kb "Book" "own" (aC 0) (Bn false (jL (aC 1)) (.nm 3) gK (aO (fC 20) (aB (aC 3) aI)) [3]))))
def kN : FD := run 6 2 pW
def sF : FS :=
 (bI (m1 cK (wB "Book" "own" (aC 0))))
def lU : FD := run 1 1 sF
def yK : FS :=
 (bI (aX (dD true) (bK false (aB (mC (.int 0)) aI)) (Pt (Bn false (jL (Ka false (aC 0) Bm (tV (mC (.int 63))))) (.nm 1) gK (m1 Ae (aC 1)) [1]) (bK false (aB (mC (.int 0)) aI)))))
def xO : FD := run 2 1 yK
def yM : FS :=
 (aK (lB (fun x y => x + y) (aC 0) (mC (.int 0)) (mC (.int 1)))
 (aK (bL (aX (dD false) (mC (.int 1)) (aX wI (m1 Ae (aX cQ (aC 0) (mC (.int 0)))) (aX uD (m1 cK (aC 0)) (mC (.int 1))))) (.nm 2))
 (aK (bL (m1 Ae (aX cQ (aC 0) (aC 2))) (.nm 3))
 (aK (bJ (mB (aX fGe (aC 3) (aX OI (mC (.int 10)) (mC (.int 18))))) (aK (Hr (aX pO (aC 3) (aC 1)) (aC 0) (aC 2))
 (bI (aX wI (aC 3) (aC 1)))) aZ)
 (aK (bL (aX wI (aX A1 (m1 Ae (aX (dD false) (aX (dD false) (aC 3) (aX A1 (mC (.int 7919)) (aX cQ (aC 0) (mC (.int 0))))) (mC (.int 1)))) (mC (.int 48271))) (mC (.int 2147483647))) (.nm 4))
 (aK (bL (aX wI (aX A1 (aC 4) (aX (dD false) (aX pO (aC 4) (mC (.int 1009))) (mC (.int 69621)))) (mC (.int 2147483647))) (.nm 4))
 (aK (bL (aX wI (aX A1 (aC 4) (aX (dD false) (aX pO (aC 4) (mC (.int 2003))) (mC (.int 40692)))) (mC (.int 2147483399))) (.nm 4))
 (bI (aX wI (aX pO (aC 4) (mC (.int 11))) (aC 1))))))))))
def bA : FD := run 5 2 yM
def pV : FS :=
 (aK (bL (bK false (aB (bK false (aB (mC (.int 0)) (aB (mC (.int 0)) (aB (mC (.int 0)) (aB (mC (.int 1)) (aB (mC (.int 1)) aI)))))) (aB (bK false (aB (mC (.int 0)) (aB (mC (.int 0)) (aB (mC (.int 2)) (aB (mC (.int 3)) (aB (mC (.int 1)) aI)))))) (aB (bK false (aB (mC (.int 0)) (aB (mC (.int 6)) (aB (mC (.int 7)) (aB (mC (.int 8)) (aB (mC (.int 8)) aI)))))) (aB (bK false (aB (mC (.int 0)) (aB (mC (.int 4)) (aB (mC (.int 5)) (aB (mC (.int 6)) (aB (mC (.int 7)) aI)))))) (aB (bK false (aB (mC (.int 0)) (aB (mC (.int 1)) (aB (mC (.int 3)) (aB (mC (.int 6)) (aB (mC (.int 8)) aI)))))) aI)))))) (.nm 2))
 (aK (bL (aX (dD false) (aC 2) (bK false (aB (bK false (aB (mC (.int 0)) (aB (mC (.int 1)) (aB (mC (.int 2)) (aB (mC (.int 3)) (aB (mC (.int 4)) (aB (mC (.int 5)) (aB (mC (.int 6)) (aB (mC (.int 7)) (aB (mC (.int 8)) aI)))))))))) (aB (bK false (aB (mC (.int 1)) (aB (mC (.int 1)) (aB (mC (.int 2)) (aB (mC (.int 3)) (aB (mC (.int 4)) aI)))))) (aB (bK false (aB (mC (.int 5)) (aB (mC (.int 6)) (aB (mC (.int 7)) (aB (mC (.int 8)) (aB (mC (.int 8)) aI)))))) aI))))) (.nm 2))
 (aK (bL (aX cQ (aC 2) (aC 1)) (.nm 3))
 (aK (bL (aX cQ (aC 3) (aO bA (aB (aC 0) (aB (m1 cK (aC 3)) aI)))) (.nm 4))
 (aK (bJ (mB (aX gC (aC 4) (mC (.int 0)))) (aK (bL (aX uD (aO bA (aB (aC 0) (aB (mC (.int 19)) aI))) (mC (.int 9))) (.nm 5))
 (bI (cE (aB (mC (.str "go")) (aB (aX cQ (bK false (aB (aC 5) (aB (mC (.int 2)) (aB (aX uD (aX wI (m1 Ae (aC 5)) (mC (.int 3))) (mC (.int 1))) (aB (mC (.int 1)) aI))))) (aO bA (aB (aC 0) (aB (mC (.int 4)) aI)))) aI))))) aZ)
 (aK (bJ (mB (aX gC (aC 4) (mC (.int 1)))) (bI (cE (aB (mC (.str "turn")) (aB (aX (dD false) (mC (.int 1)) (aO bA (aB (aC 0) (aB (mC (.int 3)) aI)))) aI)))) aZ)
 (aK (bJ (mB (aX gC (aC 4) (mC (.int 2)))) (bI (cE (aB (mC (.str "mirror")) aI))) aZ)
 (aK (bJ (mB (aX gC (aC 4) (mC (.int 3)))) (bI (cE (aB (mC (.str "scale")) (aB (aX cQ (cE (aB (m1 oS (mC (.int 1))) (aB (m1 oS (mC (.int 1))) (aB (m1 oS (mC (.int 1))) (aB (mC (.int 1)) (aB (mC (.int 1)) (aB (mC (.int 0)) (aB (mC (.int 2)) (aB (m1 oS (mC (.int 3))) aI))))))))) (aO bA (aB (aC 0) (aB (mC (.int 8)) aI)))) aI)))) aZ)
 (aK (bJ (mB (aX ET (aC 4) (mC (.int 6)))) (bI (cE (aB (aX cQ (cE (aB (mC (.str "aim")) (aB (mC (.str "place")) aI))) (aX uD (aC 4) (mC (.int 4)))) (aB (aX uD (aO bA (aB (aC 0) (aB (mC (.int 19)) aI))) (mC (.int 9))) (aB (aX uD (aO bA (aB (aC 0) (aB (mC (.int 19)) aI))) (mC (.int 9))) aI))))) aZ)
 (bI (cE (aB (aX cQ (cE (aB (mC (.str "mark")) (aB (mC (.str "return")) (aB (mC (.str "exchange")) aI)))) (aX uD (aC 4) (mC (.int 6)))) aI))))))))))))
def iE : FD := run 6 2 pV
def yL : FS :=
 (aK (bL (aX (dD false) (mC (.int 1)) (aO bA (aB (aC 0) (aB (mC (.int 3)) aI)))) (.nm 2))
 (aK (bL (aO bA (aB (aC 0) (aB (mC (.int 4)) aI))) (.nm 3))
 (aK (bJ (mB (aX gC (aC 1) (mC (.int 6)))) (bL (aX (dD false) (mC (.int 1)) (aX wI (aC 3) (mC (.int 2)))) (.nm 3)) aZ)
 (aK (bJ (mB (aX gC (aC 1) (mC (.int 7)))) (bL (mC (.int 3)) (.nm 3)) aZ)
 (aK (bL (bK false (aB (bK false (aB (cE (aB (mC (.str "go")) (aB (aC 2) aI))) (aB (cE (aB (mC (.str "go")) (aB (m1 oS (aC 2)) aI))) aI))) (aB (bK false (aB (cE (aB (mC (.str "turn")) (aB (aC 2) aI))) (aB (cE (aB (mC (.str "turn")) (aB (aX uD (mC (.int 4)) (aC 2)) aI))) aI))) (aB (bK false (aB (cE (aB (mC (.str "mirror")) aI)) (aB (cE (aB (mC (.str "mirror")) aI)) aI))) aI)))) (.nm 4))
 (bI (aX cQ (aX (dD false) (aC 4) (bK false (aB (bK false (aB (cE (aB (mC (.str "exchange")) aI)) (aB (cE (aB (mC (.str "exchange")) aI)) aI))) aI))) (aC 3))))))))
def qU : FD := run 5 2 yL
def kE (f_L_piece : FD) : FS :=
 (eU [7] (bJ (mB (aX GH (aX cQ (aC 3) (mC (.int 0))) (mC (.int 0)))) (bL (aX (dD false) (aC 6) (aO (f_L_piece) (aB (aC 0) (aB (aC 1) (aB (aC 2) (aB (aC 3) (aB (aC 4) (aB (aC 5) aI)))))))) (.nm 6)) aZ))
def vE (f_L_piece : FD) : FS :=
 (aK (bL (bK false aI) (.nm 6))
 (aK (kP (gX (aO bA (aB (aC 0) (aB (mC (.int 3)) aI)))) (.nm 7) (kE (f_L_piece)))
 (bI (aC 6))))
def uZ (f_L_block : FD) (f_L_piece : FD) : FS :=
 (aK (bL (aO bA (aB (aC 0) (aB (mC (.int 17)) aI))) (.nm 6))
 (aK (bJ (xQ (mB (aX GH (aC 6) (mC (.int 6)))) (xQ (mB (aX ET (aC 6) (mC (.int 15)))) (mB (aX GH (aC 2) (mC (.int 2)))))) (bL (aX wI (aC 6) (mC (.int 6))) (.nm 6)) aZ)
 (aK (bJ (xQ (mB (aX gC (aC 6) (mC (.int 6)))) (mB (aX ET (aX cQ (aC 3) (mC (.int 0))) (mC (.int 2))))) (bL (mC (.int 0)) (.nm 6)) aZ)
 (aK (bJ (xQ (mB (aX GH (aC 6) (mC (.int 10)))) (xQ (mB (aX ET (aC 6) (mC (.int 15)))) (pK (mB (aX ET (aX cQ (aC 4) (mC (.int 0))) (mC (.int 1)))) (mB (aX fGe (aC 5) (aX cQ (aC 4) (mC (.int 1)))))))) (bL (mC (.int 0)) (.nm 6)) aZ)
 (aK (lB (fun x y => x - y) (aC 3) (mC (.int 0)) (mC (.int 1)))
 (aK (bJ (mB (aX ET (aC 6) (mC (.int 6)))) (bI (bK false (aB (aO iE (aB (aC 0) (aB (aC 1) aI))) aI))) aZ)
 (aK (bJ (mB (aX gC (aC 6) (mC (.int 6)))) (aK (lB (fun x y => x - y) (aC 3) (mC (.int 0)) (mC (.int 1)))
 (aK (bL (aO qU (aB (aC 0) (aB (aC 1) aI))) (.nm 7))
 (aK (bL (bK false aI) (.nm 8))
 (aK (bJ (mB (aX GH (aX cQ (aC 3) (mC (.int 0))) (mC (.int 0)))) (bL (aO (f_L_piece) (aB (aC 0) (aB (aC 1) (aB (aC 2) (aB (aC 3) (aB (aC 4) (aB (aC 5) aI))))))) (.nm 8)) aZ)
 (bI (aX (dD false) (aX (dD false) (Ka false (aC 7) Bm (tV (mC (.int 1)))) (aC 8)) (Ka false (aC 7) (tV (mC (.int 1))) Bm))))))) aZ)
 (aK (bJ (mB (aX ET (aC 6) (mC (.int 9)))) (aK (bL (aO (f_L_block) (aB (aC 0) (aB (aC 1) (aB (aX (dD false) (aC 2) (mC (.int 1))) (aB (aC 3) (aB (aC 4) (aB (mC (.int 0)) aI))))))) (.nm 9))
 (bI (bK false (aB (cE (aB (mC (.str "either")) (aB (aC 9) (aB (aO (f_L_block) (aB (aC 0) (aB (aC 1) (aB (aX (dD false) (aC 2) (mC (.int 1))) (aB (aC 3) (aB (aC 4) (aB (aC 5) aI))))))) aI)))) aI)))) aZ)
 (aK (bJ (mB (aX gC (aC 6) (mC (.int 9)))) (bI (bK false (aB (cE (aB (mC (.str "again")) (aB (aO (f_L_block) (aB (aC 0) (aB (aC 1) (aB (aX (dD false) (aC 2) (mC (.int 1))) (aB (aC 3) (aB (aC 4) (aB (mC (.int 0)) aI))))))) aI))) aI))) aZ)
 (aK (bJ (mB (aX gC (aC 6) (mC (.int 10)))) (bI (bK false (aB (cE (aB (mC (.str "keep")) (aB (aO (f_L_block) (aB (aC 0) (aB (aC 1) (aB (aX (dD false) (aC 2) (mC (.int 1))) (aB (aC 3) (aB (aC 4) (aB (aC 5) aI))))))) aI))) aI))) aZ)
 (aK (bJ (mB (aX GH (aC 6) (mC (.int 14)))) (bI (bK false (aB (cE (aB (mC (.str "end")) (aB (aO bA (aB (aC 0) (aB (mC (.int 2)) aI))) aI))) aI))) aZ)
 (aK (lB (fun x y => x - y) (aC 4) (mC (.int 0)) (mC (.int 1)))
 (aK (bL (aX (dD false) (aC 5) (aO bA (aB (aC 0) (aB (aX uD (aX cQ (aC 4) (mC (.int 1))) (aC 5)) aI)))) (.nm 10))
 (aK (bL (aX gC (aO bA (aB (aC 0) (aB (mC (.int 3)) aI))) (mC (.int 0))) (.nm 11))
 (aK (bL (aO (f_L_block) (aB (aC 0) (aB (aC 1) (aB (aX (dD false) (aC 2) (mC (.int 1))) (aB (aC 3) (aB (aC 4) (aB (aC 5) aI))))))) (.nm 9))
 (bI (bK false (aB (cE (aB (mC (.str "call")) (aB (aC 10) (aB (aC 11) (aB (bK false (aB (aC 9) (aB (aO (f_L_block) (aB (aC 0) (aB (aC 1) (aB (aX (dD false) (aC 2) (mC (.int 1))) (aB (aC 3) (aB (aC 4) (aB (aC 5) aI))))))) aI))) aI))))) aI))))))))))))))))))
def zW : Nat -> FD × FD
 | 0 => (oI, oI)
 | n + 1 => let r := zW n
  (run 8 6 (vE r.2), run 12 6 (uZ r.1 r.2))
def uU (n : Nat) : FD := (zW n).1
def kK (n : Nat) : FD := (zW n).2
def sE : FS :=
 (aK (lB (fun x y => x - y) (aC 2) (mC (.int 0)) (mC (.int 4)))
 (aK (lB (fun x y => x - y) (aC 3) (mC (.int 0)) (mC (.int 1)))
 (aK (bL (aO bA (aB (aC 0) (aB (aX cQ (aC 3) (mC (.int 1))) aI))) (.nm 4))
 (aK (bL (aX gC (aO bA (aB (aC 0) (aB (mC (.int 3)) aI))) (mC (.int 0))) (.nm 5))
 (aK (bL (aO bA (aB (aC 0) (aB (mC (.int 2)) aI))) (.nm 6))
 (aK (bL (bK false (aB (aO iE (aB (aC 0) (aB (aC 1) aI))) (aB (aO iE (aB (aC 0) (aB (aC 1) aI))) aI))) (.nm 7))
 (aK (bJ (mB (aX gC (aO bA (aB (aC 0) (aB (mC (.int 2)) aI))) (mC (.int 0)))) (bL (aO qU (aB (aC 0) (aB (aC 1) aI))) (.nm 7)) aZ)
 (aK (bL (bK false (aB (bK false aI) (aB (bK false (aB (aX cQ (aC 7) (mC (.int 0))) (aB (cE (aB (mC (.str "call")) (aB (aC 4) (aB (aC 5) (aB (bK false (aB (bK false aI) (aB (bK false aI) aI))) aI))))) (aB (aX cQ (aC 7) (mC (.int 1))) aI)))) aI))) (.nm 8))
 (bI (bK false (aB (cE (aB (mC (.str "either")) (aB (aX cQ (aC 8) (aC 6)) (aB (aX cQ (aC 8) (aX uD (mC (.int 1)) (aC 6))) aI)))) aI)))))))))))
def rT : FD := run 9 4 sE
def jT : FS :=
 (eU [7] (bJ (mB (aX GH (aX cQ (aC 2) (mC (.int 0))) (mC (.int 0)))) (bL (aX (dD false) (aC 6) (aO (kK 30) (aB (aC 0) (aB (aC 1) (aB (mC (.int 0)) (aB (aC 2) (aB (aC 3) (aB (aC 4) aI)))))))) (.nm 6)) aZ))
def yO : FS :=
 (aK (bL (aO bA (aB (aC 0) (aB (mC (.int 6)) aI))) (.nm 5))
 (aK (bL (bK false aI) (.nm 6))
 (aK (bJ (xQ (mB (aX gC (aO bA (aB (aC 0) (aB (mC (.int 2)) aI))) (mC (.int 0)))) (xQ (mB (aX GH (aX cQ (aC 2) (mC (.int 0))) (mC (.int 3)))) (mB (aX GH (aX cQ (aC 3) (mC (.int 0))) (mC (.int 0)))))) (bL (aO rT (aB (aC 0) (aB (aC 1) (aB (aC 2) (aB (aC 3) aI))))) (.nm 6)) aZ)
 (aK (kP (gX (aX (dD false) (mC (.int 1)) (aO bA (aB (aC 0) (aB (mC (.int 4)) aI))))) (.nm 7) jT)
 (aK (bL (bK false (aB (bK false (aB (cE (aB (mC (.str "either")) (aB (bK false (aB (cE (aB (mC (.str "end")) (aB (mC (.int 1)) aI))) aI)) (aB (bK false aI) aI)))) aI)) (aB (bK false (aB (cE (aB (mC (.str "end")) (aB (mC (.int 1)) aI))) aI)) aI))) (.nm 8))
 (aK (bJ (pK (mB (aX gC (aC 5) (mC (.int 1)))) (mB (aX gC (aC 5) (mC (.int 3))))) (bI (aX (dD false) (aC 6) (aX cQ (aC 8) (aX pO (aC 5) (mC (.int 2)))))) aZ)
 (aK (bJ (mB (aX gC (aC 5) (mC (.int 2)))) (bI (aX (dD false) (aX cQ (aC 8) (mC (.int 0))) (aC 6))) aZ)
 (bI (aC 6)))))))))
def tU : FD := run 9 5 yO
def lQ : FS :=
 (eU [8, 9, 10] (aK (bL (bK true (aB (aX uD (aX uD (aC 2) (mC (.int 2))) (m1 Ae (aX GH (aC 5) (mC (.int 2))))) aI)) (.nm 9))
 (aK (bL (aX (dD false) (aC 8) (mC (.int 1))) (.nm 10))
 (aK (bJ (bY (aC 4)) (bL (mC (.int 0)) (.nm 10)) aZ)
 (eV (vK (aC 7) (aO tU (aB (aC 0) (aB (aC 3) (aB (aC 9) (aB (aC 6) (aB (aC 10) aI))))))))))))
def yN : FS :=
 (aK (bL (aO bA (aB (aC 0) (aB (mC (.int 6)) aI))) (.nm 3))
 (aK (bL (aX gC (aO bA (aB (aC 0) (aB (mC (.int 8)) aI))) (mC (.int 0))) (.nm 4))
 (aK (bL (aX (dD false) (mC (.int 1)) (aO bA (aB (aC 0) (aB (aC 1) aI)))) (.nm 5))
 (aK (bL (bK true (aB (mC (.int 4)) (aB (aC 5) aI))) (.nm 6))
 (aK (bL (bK true aI) (.nm 7))
 (aK (kP (gX (aC 5)) (.nm 8) lQ)
 (bI (Ca (aC 7)))))))))
def xP : FD := Ab 11 3 yN
def fT (f_placed : FD) : FS :=
 (eU [6, 7] (bL (aX (dD true) (aC 2) (aO (f_placed) (aB (aC 7) (aB (aX (dD false) (aC 5) (cE (aB (aC 6) aI))) aI)))) (.nm 2)))
def gD (f_placed : FD) : FS :=
 (eU [3, 4, 5, 6, 7] (aK (bL (aX (dD false) (aC 1) (cE (aB (aC 3) aI))) (.nm 5))
 (aK (eV (vK (aC 2) (cE (aB (aC 5) (aB (aC 4) aI)))))
 (kP (sO (aO iD (aB (aC 4) aI))) (.tp [6, 7]) (fT (f_placed))))))
def yI (f_placed : FD) : FS :=
 (aK (bL (bK true aI) (.nm 2))
 (aK (kP (sO (aC 0)) (.tp [3, 4]) (gD (f_placed)))
 (bI (Ca (aC 2)))))
def eB : Nat -> FD
 | 0 => oI
 | n + 1 => Ab 8 2 (yI (eB n))
def iO : FS :=
 (eU [4, 5] (aK (bJ (pK (dY (bY (aO gH (aB (aC 5) aI)))) (dY (mB (jD HK ET (mC (.int 0)) (aC 5) (m1 cK (aC 3)))))) (bI (mC .non)) aZ)
 (bJ (mB (aX gC (aX wI (aC 4) (mC (.int 2))) (mC (.int 0)))) (aK (bL (aX cQ (aC 3) (aC 5)) (.nm 2))
 (bL (aO iD (aB (aC 2) aI)) (.nm 3))) (bL (aX cQ (aC 3) (aC 5)) (.nm 3)))))
def gB : FS :=
 (eU [4, 5] (bJ (mB (aX gC (aX cQ (aC 5) (mC (.int 0))) (mC (.str "call")))) (eV (vK (aC 1) (cE (aB (aC 2) (aB (aC 4) aI))))) aZ))
def hZ : FS :=
 (eU [2, 3, 4, 5] (kP (jL (aO (eB 10) (aB (aC 3) (aB (cE aI) aI)))) (.tp [4, 5]) gB))
def oC : FS :=
 (aK (bL (bK true aI) (.nm 1))
 (aK (kP (sO (wB "Book" "own" (aC 0))) (.tp [2, 3]) hZ)
 (bI (Ca (aC 1)))))
def nO : FD := Ab 6 1 oC
theorem Eh {x0 : Vl} {S : aM} : nO [x0] S = trunc S.length (cH (oC [some x0, none, none, none, none, none] S)) := (rfl)
def Dj : FS :=
 (eU [9] (mPar 4 5 (m1 oS (aC 5)) (aC 4)))
def HQ : FS :=
 (aK (bL (aC 0) (.tp [2, 3, 4, 5, 6, 7]))
 (aK (bL (aX cQ (aC 1) (mC (.int 0))) (.nm 8))
 (aK (bJ (mB (aX gC (aC 8) (mC (.str "go")))) (bI (cE (aB (aX (dD false) (aC 2) (aX A1 (aX cQ (aC 1) (mC (.int 1))) (aC 4))) (aB (aX (dD false) (aC 3) (aX A1 (aX cQ (aC 1) (mC (.int 1))) (aC 5))) (aB (aC 4) (aB (aC 5) (aB (aC 6) (aB (aC 7) aI)))))))) aZ)
 (aK (bJ (mB (aX gC (aC 8) (mC (.str "turn")))) (aK (kP (gX (aX cQ (aC 1) (mC (.int 1)))) (.nm 9) Dj)
 (bI (cE (aB (aC 2) (aB (aC 3) (aB (aC 4) (aB (aC 5) (aB (aC 6) (aB (aC 7) aI))))))))) aZ)
 (aK (bJ (mB (aX gC (aC 8) (mC (.str "mirror")))) (bI (cE (aB (aC 2) (aB (aC 3) (aB (aC 4) (aB (m1 oS (aC 5)) (aB (aC 6) (aB (aC 7) aI)))))))) aZ)
 (aK (bJ (mB (aX gC (aC 8) (mC (.str "scale")))) (bI (cE (aB (aC 2) (aB (aC 3) (aB (aX A1 (aX cQ (aC 1) (mC (.int 1))) (aC 4)) (aB (aX A1 (aX cQ (aC 1) (mC (.int 1))) (aC 5)) (aB (aC 6) (aB (aC 7) aI)))))))) aZ)
 (aK (bJ (mB (aX gC (aC 8) (mC (.str "aim")))) (bI (cE (aB (aC 2) (aB (aC 3) (aB (aX cQ (aC 1) (mC (.int 1))) (aB (aX cQ (aC 1) (mC (.int 2))) (aB (aC 6) (aB (aC 7) aI)))))))) aZ)
 (aK (bJ (mB (aX gC (aC 8) (mC (.str "place")))) (bI (cE (aB (aX cQ (aC 1) (mC (.int 1))) (aB (aX cQ (aC 1) (mC (.int 2))) (aB (aC 4) (aB (aC 5) (aB (aC 6) (aB (aC 7) aI)))))))) aZ)
 (aK (bJ (mB (aX gC (aC 8) (mC (.str "mark")))) (bI (cE (aB (aC 2) (aB (aC 3) (aB (aC 4) (aB (aC 5) (aB (aC 2) (aB (aC 3) aI)))))))) aZ)
 (aK (bJ (mB (aX gC (aC 8) (mC (.str "return")))) (bI (cE (aB (aC 6) (aB (aC 7) (aB (aC 4) (aB (aC 5) (aB (aC 6) (aB (aC 7) aI)))))))) aZ)
 (bI (cE (aB (aC 6) (aB (aC 7) (aB (aC 4) (aB (aC 5) (aB (aC 2) (aB (aC 3) aI))))))))))))))))))
def Bj : FD := run 10 2 HQ
def Ce : FE :=
 (aX uD (aX cQ (aC 5) (aC 6)) (aX cQ (aC 1) (aC 6)))
def CO : FS :=
 (eU [3, 4, 5] (aK (bL (m1 fTuple (Bn false (gX (mC (.int 6))) (.nm 6) gK (m1 Ae (aX gC (aC 6) (aC 3))) [6])) (.nm 4))
 (aK (bL (aO Bj (aB (aC 4) (aB (aC 0) aI))) (.nm 5))
 (eV (vK (aC 2) (aX (dD false) (bK false (aB (mC (.int 0)) aI)) (Bn false (gX (mC (.int 6))) (.nm 6) gK Ce [6])))))))
def G1 : FS :=
 (aK (bJ (dY (bY (aO fO (aB (aC 0) aI)))) (Kc "NoCommand") aZ)
 (aK (bL (aO Bj (aB (cE (aB (mC (.int 0)) (aB (mC (.int 0)) (aB (mC (.int 0)) (aB (mC (.int 0)) (aB (mC (.int 0)) (aB (mC (.int 0)) aI))))))) (aB (aC 0) aI))) (.nm 1))
 (aK (bL (bK true (aB (bK false (aB (mC (.int 1)) (mStar (aC 1) aI))) aI)) (.nm 2))
 (aK (kP (gX (mC (.int 6))) (.nm 3) CO)
 (bI (J3 false (gX (mC (.int 7))) (.nm 7) gK (gX (mC (.int 7))) (.nm 8) gK (aX cQ (aX cQ (aC 2) (aC 8)) (aC 7)) [7, 8] [8]))))))
def FG : FD := Ab 9 1 G1
def Cg : FS :=
 (aK (eV (Ot (wB "Graph" "edges" (aC 0)) (bK true aI)))
 (aK (eV (Ot (wB "Graph" "users" (aC 0)) (bK true aI)))
 (bI (aX uD (m1 fLenV (wB "Graph" "edges" (aC 0))) (mC (.int 1))))))
def mD : FD := run 1 1 Cg
def CP : FS :=
 (eU [5, 6] (eV (vK (aX oV (wB "Graph" "users" (aC 0)) (aC 5)) (cE (aB (aC 1) (aB (aC 3) (aB (aC 6) aI)))))))
def G2 : FS :=
 (aK (eV (vK (aX oV (wB "Graph" "edges" (aC 0)) (aC 1)) (cE (aB (mC (.str "unit")) (aB (aC 2) (aB (aC 3) (aB (aC 4) aI)))))))
 (kP (Oo (aC 2) (aC 4)) (.tp [5, 6]) CP))
def AF : FD := run 7 5 G2
def tD (f_Graph_statement_point : FD) : FS :=
 (eU [5] (bL (pL "Graph" "statement_point" (f_Graph_statement_point) (aC 0) (aB (aC 5) (aB (aC 4) (aB (aC 3) aI)))) (.nm 4)))
def wQ (f_Graph_statement_point : FD) : FS :=
 (aK (bL (aC 2) (.nm 4))
 (aK (kP (Os (m1 (oU false) (aC 1))) (.nm 5) (tD (f_Graph_statement_point)))
 (bI (aC 4))))
def oZ (f_Graph_list_point : FD) : FS :=
 (eU [6] (eV (vK (aX oV (wB "Graph" "edges" (aC 0)) (aC 5)) (cE (aB (mC (.str "bit")) (aB (aC 6) (aB (pL "Graph" "list_point" (f_Graph_list_point) (aC 0) (aB (aX cQ (aC 1) (aX (dD false) (mC (.int 1)) (aC 6))) (aB (aC 2) (aB (aC 3) aI)))) aI)))))))
def pA (f_Graph_list_point : FD) : FE :=
 (pL "Graph" "list_point" (f_Graph_list_point) (aC 0) (aB (aC 9) (aB (aC 2) (aB (aC 3) aI))))
def rE (f_Graph_list_point : FD) : FS :=
 (aK (bL (aX cQ (aC 1) (mC (.int 0))) (.nm 4))
 (aK (bJ (mB (aX gC (aC 4) (mC (.str "end")))) (bI (aX cQ (aC 3) (aX cQ (aC 1) (mC (.int 1))))) aZ)
 (aK (bL (pL "Graph" "point" mD (aC 0) aI) (.nm 5))
 (aK (bJ (bY (aO fO (aB (aC 1) aI))) (eV (vK (aX oV (wB "Graph" "edges" (aC 0)) (aC 5)) (cE (aB (mC (.str "command")) (aB (aO FG (aB (aC 1) aI)) (aB (aC 2) aI)))))) (bJ (mB (aX gC (aC 4) (mC (.str "either")))) (kP (gX (mC (.int 2))) (.nm 6) (oZ (f_Graph_list_point))) (bJ (mB (aX gC (aC 4) (mC (.str "again")))) (aK (eV (vK (aX oV (wB "Graph" "edges" (aC 0)) (aC 5)) (cE (aB (mC (.str "bit")) (aB (mC (.int 0)) (aB (aC 2) aI))))))
 (eV (vK (aX oV (wB "Graph" "edges" (aC 0)) (aC 5)) (cE (aB (mC (.str "bit")) (aB (mC (.int 1)) (aB (pL "Graph" "list_point" (f_Graph_list_point) (aC 0) (aB (aX cQ (aC 1) (mC (.int 1))) (aB (aC 5) (aB (aC 3) aI)))) aI))))))) (bJ (mB (aX gC (aC 4) (mC (.str "keep")))) (aK (bL (cE (aB (pL "Graph" "point" mD (aC 0) aI) (aB (pL "Graph" "point" mD (aC 0) aI) (aB (pL "Graph" "point" mD (aC 0) aI) aI)))) (.nm 7))
 (aK (eV (vK (wB "Graph" "starts" (aC 0)) (pL "Graph" "list_point" (f_Graph_list_point) (aC 0) (aB (aX cQ (aC 1) (mC (.int 1))) (aB (aX cQ (aC 7) (mC (.int 0))) (aB (cE (aB (aX cQ (aC 7) (mC (.int 1))) (aB (aX cQ (aC 7) (mC (.int 2))) aI))) aI))))))
 (eV (pL "Graph" "use" AF (aC 0) (aB (aC 5) (aB (aC 7) (aB (mC (.bl true)) (aB (cE (aB (aC 2) (aB (aX cQ (aC 3) (mC (.int 0))) (aB (aX cQ (aC 3) (mC (.int 1))) aI)))) aI)))))))) (aK (bL (Bn false (jL (aX cQ (aC 1) (mC (.int 3)))) (.nm 9) gK (pA (f_Graph_list_point)) [9]) (.nm 8))
 (eV (pL "Graph" "use" AF (aC 0) (aB (aC 5) (aB (aX cQ (wB "Graph" "exits" (aC 0)) (aX cQ (aC 1) (mC (.int 1)))) (aB (aX cQ (aC 1) (mC (.int 2))) (aB (m1 fTuple (aC 8)) aI)))))))))))
 (bI (aC 5))))))
def wD : Nat -> FD × FD
 | 0 => (oI, oI)
 | n + 1 => let r := wD n
  (run 6 4 (wQ r.2), run 10 4 (rE r.1))
def yH : FS :=
 (bI (iF (m1 (fIsi "int") (aC 0)) (Hs (m1 (fIsi "bool") (aC 0)))))
def xM : FD := run 1 1 yH
def uN : FS :=
 (bI (iF (aO xM (aB (aC 0) aI)) (jD HK ET (mC (.int 0)) (aC 0) (aC 1))))
def jI : FD := run 2 2 uN
def jO : FS :=
 (aK (bJ (pK (dY (bY (m1 (fIsi "tuple") (aC 0)))) (mB (aX A0 (m1 cK (aC 0)) (mC (.int 2))))) (bI (mC (.bl false))) aZ)
 (bI (iF (aO jI (aB (aX cQ (aC 0) (mC (.int 0))) (aB (aC 1) aI))) (aO jI (aB (aX cQ (aC 0) (mC (.int 1))) (aB (mC (.int 2)) aI))))))
def eT : FD := run 2 2 jO
def gZ : FS :=
 (aK (bJ (pK (dY (bY (m1 (fIsi "list") (aC 0)))) (dY (mB (jD HK HK (mC (.int 1)) (m1 cK (aC 0)) (aC 2))))) (bI (mC (.bl false))) aZ)
 (bI (m1 wJ (Bn false (jL (aC 0)) (.nm 3) gK (aO eT (aB (aC 3) (aB (aC 1) aI))) [3]))))
def gW : FD := run 4 3 gZ
def hX : FS :=
 (eU [2, 3] (bJ (pK (dY (bY (aO jI (aB (aC 3) (aB (aC 1) aI))))) (mB (aX (Cd false) (aC 3) (Ka false (aC 0) Bm (tV (aC 2)))))) (bI (mC (.bl false))) aZ))
def rC : FS :=
 (aK (bJ (dY (bY (m1 (fIsi "list") (aC 0)))) (bI (mC (.bl false))) aZ)
 (aK (kP (sO (aC 0)) (.tp [2, 3]) hX)
 (bI (mC (.bl true)))))
def oF : FD := run 4 2 rC
def eS : FS :=
 (eU [2] (aK (bJ (pK (dY (bY (aO jI (aB (aC 2) (aB (mC (.int 3)) aI))))) (mB (aX ET (aC 2) (aC 1)))) (bI (mC (.bl false))) aZ)
 (bL (aX (dD false) (aC 2) (mC (.int 1))) (.nm 1))))
def mY : FS :=
 (aK (bJ (pK (dY (bY (m1 (fIsi "list") (aC 0)))) (dY (bY (aC 0)))) (bI (mC (.bl false))) aZ)
 (aK (bL (mC (.int 0)) (.nm 1))
 (aK (kP (jL (aC 0)) (.nm 2) eS)
 (bI (mC (.bl true))))))
def mT : FD := run 3 1 mY
def qN : FS :=
 (aK (eV (Ke (aC 3) (aC 2)))
 (bL (J3 false (jL (aC 2)) (.nm 4) gK (gX (aC 1)) (.nm 5) (pK (dY (bY (aC 4))) (mB (aX GH (aC 5) (aX cQ (aC 4) (m1 oS (mC (.int 1))))))) (aX (dD false) (aC 4) (bK false (aB (aC 5) aI))) [4, 5] [5]) (.nm 2)))
def qW : FE :=
 (Bn false (jL (aC 4)) (.nm 5) gK (aX cQ (aC 0) (aC 5)) [5])
def uO : FS :=
 (aK (bL (m1 cK (aC 0)) (.nm 1))
 (aK (bL (bK false (aB (bK false aI) aI)) (.nm 2))
 (aK (bL (bK true aI) (.nm 3))
 (aK (Gg 1000000 (bY (aC 2)) qN)
 (bI (Bn false (jL (Ca (aC 3))) (.nm 4) gK qW [4]))))))
def tT : FD := Ab 6 1 uO
def nX (f_L_same_2 : FD) : FE :=
 (aO (f_L_same_2) (aB (aX cQ (aC 0) (aC 2)) (aB (aX cQ (aC 1) (aC 2)) aI)))
def rZ (f_L_same_2 : FD) : FS :=
 (aK (bJ (bY (m1 (fIsi2 "list" "tuple") (aC 1))) (aK (bJ (pK (dY (bY (m1 (fIsi2 "list" "tuple") (aC 0)))) (mB (aX A0 (m1 (fIsi "list") (aC 0)) (m1 (fIsi "list") (aC 1))))) (bI (mC (.bl false))) aZ)
 (bI (iF (aX gC (m1 cK (aC 0)) (m1 cK (aC 1))) (m1 wJ (Bn false (gX (m1 cK (aC 1))) (.nm 2) gK (nX (f_L_same_2)) [2]))))) aZ)
 (aK (bJ (pK (bY (m1 (fIsi "bool") (aC 0))) (bY (m1 (fIsi "bool") (aC 1)))) (bI (iF (m1 (fIsi "bool") (aC 0)) (iF (m1 (fIsi "bool") (aC 1)) (aX gC (aC 0) (aC 1))))) aZ)
 (aK (bJ (bY (m1 (fIsi "int") (aC 1))) (bI (iF (m1 (fIsi "int") (aC 0)) (aX gC (aC 0) (aC 1)))) aZ)
 (aK (bJ (bY (m1 (fIsi "str") (aC 1))) (bI (iF (m1 (fIsi "str") (aC 0)) (aX gC (aC 0) (aC 1)))) aZ)
 (bI (iF (aX (lH false) (aC 0) (mC .non)) (aX (lH false) (aC 1) (mC .non))))))))
def gJ : Nat -> FD
 | 0 => oI
 | n + 1 => run 3 2 (rZ (gJ n))
theorem IS {x0 : Vl} {S : aM} : xM [x0] S = cH (yH [some x0] S) := (rfl)
theorem G9 {x0 x1 : Vl} {S : aM} : jI [x0, x1] S = cH (uN [some x0, some x1] S) := (rfl)
theorem vV {x0 x1 : Vl} {S : aM} : eT [x0, x1] S = cH (jO [some x0, some x1] S) := (rfl)
theorem sU {x0 x1 x2 : Vl} {S : aM} : gW [x0, x1, x2] S = cH (gZ [some x0, some x1, some x2, none] S) := (rfl)
theorem De {x0 x1 : Vl} {S : aM} : oF [x0, x1] S = cH (rC [some x0, some x1, none, none] S) := (rfl)
theorem AZ {x0 : Vl} {S : aM} : mT [x0] S = cH (mY [some x0, none, none] S) := (rfl)
theorem HU {n : Nat} {x0 x1 : Vl} {S : aM} : gJ (n + 1) [x0, x1] S = cH ((rZ (gJ n)) [some x0, some x1, none] S) := (rfl)
def sD (f_L_copied : FD) : FS :=
 (aK (bJ (bY (m1 (fIsi "list") (aC 0))) (bI (Bn false (jL (aC 0)) (.nm 1) gK (aO (f_L_copied) (aB (aC 1) aI)) [1])) aZ)
 (aK (bJ (bY (m1 (fIsi "tuple") (aC 0))) (bI (m1 fTuple (Bn false (jL (aC 0)) (.nm 1) gK (aO (f_L_copied) (aB (aC 1) aI)) [1]))) aZ)
 (bI (aC 0))))
def cF : Nat -> FD
 | 0 => oI
 | n + 1 => run 2 1 (sD (cF n))
theorem HV {n : Nat} {x0 : Vl} {S : aM} : cF (n + 1) [x0] S = cH ((sD (cF n)) [some x0, none] S) := (rfl)
def hY : FS :=
 (eU [8, 9] (aK (eV (vK (aC 3) (aX cQ (aC 1) (aO bA (aB (aC 0) (aB (m1 cK (aC 1)) aI))))))
 (aK (bL (aO bA (aB (aC 0) (aB (mC (.int 4)) aI))) (.nm 9))
 (aK (bJ (mB (aX A0 (aC 9) (mC (.int 1)))) (eV (Gi (aC 4) (aO bA (aB (aC 0) (aB (aX (dD false) (m1 cK (aC 4)) (mC (.int 1))) aI))) (aC 8))) aZ)
 (bJ (mB (aX A0 (aC 9) (mC (.int 0)))) (eV (Gi (aC 5) (aO bA (aB (aC 0) (aB (aX (dD false) (m1 cK (aC 5)) (mC (.int 1))) aI))) (aC 8))) aZ)))))
def nZ : FS :=
 (aK (bL (bK true aI) (.nm 3))
 (aK (bL (bK true aI) (.nm 4))
 (aK (bL (bK true aI) (.nm 5))
 (aK (bL (bK false (aB (bK false (aB (mC (.int 0)) aI)) (aB (bK false (aB (mC (.int 1)) aI)) (aB (bK false (aB (mC (.int 2)) aI)) (aB (bK false (aB (mC (.int 0)) (aB (mC (.int 1)) aI))) (aB (bK false (aB (mC (.int 0)) (aB (mC (.int 2)) aI))) (aB (bK false (aB (mC (.int 1)) (aB (mC (.int 2)) aI))) (aB (bK false (aB (mC (.int 0)) (aB (mC (.int 1)) (aB (mC (.int 2)) aI)))) (aB (bK false (aB (mC (.int 0)) (aB (mC (.int 1)) (aB (mC (.int 2)) aI)))) aI))))))))) (.nm 6))
 (aK (bL (aX cQ (aC 6) (aO bA (aB (aC 0) (aB (mC (.int 8)) aI)))) (.nm 7))
 (aK (kP (gX (aX (dD false) (mC (.int 1)) (aO bA (aB (aC 0) (aB (aC 2) aI))))) (.nm 8) hY)
 (bI (cE (aB (Ca (aC 3)) (aB (Ca (aC 4)) (aB (Ca (aC 5)) (aB (aC 7) aI))))))))))))
def kZ : FD := Ab 10 3 nZ
theorem Eg {x0 x1 x2 : Vl} {S : aM} : kZ [x0, x1, x2] S = trunc S.length (cH (nZ [some x0, some x1, some x2, none, none, none, none, none, none, none] S)) := (rfl)
def lK : FS :=
 (aK (bJ (bY (m1 (fIsi "list") (aC 0))) (bI (Bn true (jL (aC 0)) (.nm 1) gK (aO (cF 10) (aB (aC 1) aI)) [1])) aZ)
 (aK (bJ (bY (m1 (fIsi "tuple") (aC 0))) (bI (m1 fTuple (Bn false (jL (aC 0)) (.nm 1) gK (aO (cF 10) (aB (aC 1) aI)) [1]))) aZ)
 (bI (aC 0))))
def fP : FD := run 2 1 lK
theorem yT {x0 : Vl} {S : aM} : fP [x0] S = cH (lK [some x0, none] S) := (rfl)
def dM : FE :=
 (Pr (aX (Cd false) (aC 6) (aC 3)) (aX (Cd false) (aC 6) (aC 4)))
def dZ : FS :=
 (aK (bJ (pK (dY (bY (m1 (fIsi "tuple") (aC 1)))) (mB (aX A0 (m1 cK (aC 1)) (mC (.int 4))))) (dR "NoEquation" ["place"] (aB (mC (.str "equation")) aI)) aZ)
 (aK (bL (aC 1) (.tp [2, 3, 4, 5]))
 (aK (bJ (dY (bY (zQ gW (aB (aC 2) (aB (m1 (Bx "Book" lU) (aC 0)) (aB (mC (.int 3)) aI)))))) (dR "NoEquation" ["place"] (aB (mC (.str "variables")) aI)) aZ)
 (aK (bJ (dY (bY (zQ oF (aB (aC 3) (aB (m1 cK (aC 2)) aI))))) (dR "NoEquation" ["place"] (aB (mC (.str "left")) aI)) aZ)
 (aK (bJ (dY (bY (zQ oF (aB (aC 4) (aB (m1 cK (aC 2)) aI))))) (dR "NoEquation" ["place"] (aB (mC (.str "right")) aI)) aZ)
 (aK (bJ (dY (bY (m1 wJ (Bn false (gX (m1 cK (aC 2))) (.nm 6) gK dM [6])))) (dR "NoEquation" ["place"] (aB (mC (.str "right")) aI)) aZ)
 (bJ (dY (bY (zQ mT (aB (aC 5) aI)))) (dR "NoEquation" ["place"] (aB (mC (.str "parts")) aI)) aZ)))))))
def cL : FD := run 7 2 dZ
theorem jZ {x0 x1 : Vl} {S : aM} : cL [x0, x1] S = cH (dZ [some x0, some x1, none, none, none, none, none] S) := (rfl)
def DZ : FS :=
 (bI (J3 false (gX (m1 (Bx "Book" lU) (aC 0))) (.nm 1) gK (gX (mC (.int 2))) (.nm 2) gK (cE (aB (aC 1) (aB (aC 2) aI))) [1, 2] [2]))
def Cz : FD := run 3 1 DZ
def xW : FE :=
 (iF (aX (Cd false) (aC 3) (aC 1)) (m1 (OJ "Space") (aX cQ (aC 1) (aC 3))))
def rY : FS :=
 (aK (bJ (dY (bY (m1 (fIsi "dict") (aC 1)))) (bI (mC (.bl false))) aZ)
 (aK (bL (aO Cz (aB (aC 0) aI)) (.nm 2))
 (aK (bJ (mB (aX A0 (m1 cK (aC 1)) (m1 cK (aC 2)))) (bI (mC (.bl false))) aZ)
 (bI (m1 wJ (Bn false (jL (aC 2)) (.nm 3) gK xW [3]))))))
def rS : FD := run 4 2 rY
def mG : FS :=
 (aK (bJ (dY (bY (aO rS (aB (aC 0) (aB (aC 1) aI))))) (bI (cE (aB (mC (.str "form")) aI))) aZ)
 (aK (fun _ _ => .stuck)
 (bI (mC .non))))
def lY : FD := run 6 2 mG
def cM : FS :=
 (eU [2, 3] (D0 ["NoBook", "NoCall", "NoCommand", "NoEquation", "NoEquations", "NoPath", "NoProcedure", "NoRows", "NoRun", "TooMany"] (eV (aO cL (aB (aC 0) (aB (aC 3) aI)))) "NoEquation" (dR "NoEquations" ["index"] (aB (aC 2) aI))))
def eM : FS :=
 (aK (bJ (dY (bY (m1 (fIsi "list") (aC 1)))) (dR "NoEquations" ["index"] (aB (m1 oS (mC (.int 1))) aI)) aZ)
 (kP (sO (aC 1)) (.tp [2, 3]) cM))
def dX : FD := run 4 2 eM
def jP : FS :=
 (aK (eV (aO dX (aB (aC 0) (aB (aC 1) aI))))
 (aK (bL (aO lY (aB (aC 0) (aB (aC 2) aI))) (.nm 3))
 (aK (bJ (mB (aX (lH true) (aC 3) (mC .non))) (bI (aC 3)) aZ)
 (aK (fun _ _ => .stuck)
 (bI (mC .non))))))
def fU : FD := run 9 3 jP
def fQ : FS :=
 (aK (eV (aO dX (aB (aC 0) (aB (aC 1) aI))))
 (aK (bL (pL "Book" "calls" nO (aC 0) aI) (.nm 2))
 (aK (bJ (mB (aX GH (m1 cK (aC 2)) (mC (.int 5)))) (dR "TooMany" ["many"] (aB (m1 cK (aC 2)) aI)) aZ)
 (bI (aC 2)))))
def eG : FD := run 3 2 fQ
def oH : FS :=
 (eU [3, 4] (aK (fun _ _ => .stuck)
 (aK (fun _ _ => .stuck)
 (fun _ _ => .stuck))))
def iY : FS :=
 (aK (bL (bK true aI) (.nm 2))
 (aK (kP (jL (aO tT (aB (aO eG (aB (aC 0) (aB (aC 1) aI))) aI))) (.nm 3) oH)
 (bI (cE (aB (mC (.str "none")) (aB (Ca (aC 2)) aI))))))
def eY : FD := Ab 5 2 iY
def mH : FS :=
 (aK (bJ (pK (dY (bY (m1 (fIsi "tuple") (aC 0)))) (mB (aX (Cd true) (m1 cK (aC 0)) (cE (aB (mC (.int 2)) (aB (mC (.int 3)) aI)))))) (bI (mC (.bl false))) aZ)
 (aK (bJ (pK (dY (bY (m1 (fIsi "str") (aX cQ (aC 0) (mC (.int 0)))))) (dY (bY (m1 (fIsi "list") (aX cQ (aC 0) (m1 oS (mC (.int 1)))))))) (bI (mC (.bl false))) aZ)
 (aK (bJ (mB (aX gC (m1 cK (aC 0)) (mC (.int 2)))) (bI (aX gC (aX cQ (aC 0) (mC (.int 0))) (mC (.str "none")))) aZ)
 (bI (iF (aX gC (aX cQ (aC 0) (mC (.int 0))) (mC (.str "saved"))) (m1 (fIsi "list") (aX cQ (aC 0) (mC (.int 1)))))))))
def lZ : FD := run 1 1 mH
def gY : FS :=
 (aK (bL (aO eG (aB (aC 0) (aB (aC 1) aI))) (.nm 3))
 (aK (bJ (dY (bY (aO lZ (aB (aC 2) aI)))) (bI (cE (aB (mC (.str "form")) aI))) aZ)
 (aK (fun _ _ => .stuck)
 (aK (fun _ _ => .stuck)
 (aK (fun _ _ => .stuck)
 (aK (bJ (mB (aX A0 (m1 cK (aC 5)) (m1 cK (aC 4)))) (bI (cE (aB (mC (.str "count")) aI))) aZ)
 (aK (fun _ _ => .stuck)
 (aK (fun _ _ => .stuck)
 (bI (mC .non))))))))))
def eJ : FD := run 9 3 gY
def pU : FS :=
 (aK (bJ (pK (dY (bY (m1 (fIsi "int") (aC 0)))) (bY (m1 (fIsi "bool") (aC 0)))) (bI (mC (.bl false))) aZ)
 (bI (iF (aX HK (mC (.int 0)) (aC 0)) (aX ET (aC 0) (aC 1)))))
def kM : FD := run 2 2 pU
def jF : FS :=
 (eU [2] (bJ (pK (dY (bY (aO kM (aB (aX cQ (aC 0) (aC 2)) (aB (aC 1) aI))))) (mB (aX (Cd false) (aX cQ (aC 0) (aC 2)) (Ka false (aC 0) Bm (tV (aC 2)))))) (bI (mC (.bl false))) aZ))
def pT : FS :=
 (aK (bJ (dY (bY (m1 (fIsi "list") (aC 0)))) (bI (mC (.bl false))) aZ)
 (aK (kP (gX (m1 cK (aC 0))) (.nm 2) jF)
 (bI (mC (.bl true)))))
def kL : FD := run 3 2 pT
def mN : FS :=
 (eU [6] (aK (bJ (pK (dY (bY (m1 (fIsi "tuple") (aC 6)))) (mB (aX A0 (m1 cK (aC 6)) (mC (.int 2))))) (bI (mC (.str "variables"))) aZ)
 (bJ (pK (dY (bY (aO kM (aB (aX cQ (aC 6) (mC (.int 0))) (aB (aC 1) aI))))) (dY (bY (aO kM (aB (aX cQ (aC 6) (mC (.int 1))) (aB (mC (.int 2)) aI)))))) (bI (mC (.str "variables"))) aZ)))
def kD : FS :=
 (eU [7] (bJ (xQ (mB (aX (Cd true) (aC 7) (aC 3))) (mB (aX (Cd true) (aC 7) (aC 4)))) (bI (mC (.str "right"))) aZ))
def rD : FS :=
 (aK (bJ (pK (dY (bY (m1 (fIsi "tuple") (aC 0)))) (mB (aX A0 (m1 cK (aC 0)) (mC (.int 4))))) (bI (mC (.str "equation"))) aZ)
 (aK (bL (aC 0) (.tp [2, 3, 4, 5]))
 (aK (bJ (pK (dY (bY (m1 (fIsi "list") (aC 2)))) (pK (mB (aX ET (m1 cK (aC 2)) (mC (.int 1)))) (mB (aX GH (m1 cK (aC 2)) (mC (.int 3)))))) (bI (mC (.str "variables"))) aZ)
 (aK (kP (jL (aC 2)) (.nm 6) mN)
 (aK (bJ (dY (bY (aO kL (aB (aC 3) (aB (m1 cK (aC 2)) aI))))) (bI (mC (.str "left"))) aZ)
 (aK (bJ (dY (bY (aO kL (aB (aC 4) (aB (m1 cK (aC 2)) aI))))) (bI (mC (.str "right"))) aZ)
 (aK (kP (gX (m1 cK (aC 2))) (.nm 7) kD)
 (aK (bJ (pK (dY (bY (aO kL (aB (aC 5) (aB (mC (.int 3)) aI))))) (pK (mB (aX ET (m1 cK (aC 5)) (mC (.int 1)))) (mB (aX A0 (aC 5) (m1 (xV false) (aC 5)))))) (bI (mC (.str "parts"))) aZ)
 (bI (mC .non))))))))))
def kJ : FD := run 8 2 rD
def vD : FS :=
 (aK (bL (bK false (aB (mC .non) (aB (mC (.bl true)) (aB (mC (.int 0)) (aB (m1 oS (mC (.int 1))) (aB (mC (.int 2)) (aB (mC (.str "left")) (aB (cE aI) (aB (bK false aI) (aB (bK false (aB (mC (.int 0)) (aB (mC (.int 0)) aI))) (aB (bK false (aB (mC (.int 1)) (aB (mC (.int 0)) aI))) (aB (bK false (aB (mC (.bl true)) aI)) (aB (bK false (aB (mC (.int 0)) (aB (mC (.int 3)) aI))) (aB (bK false (aB (bK false (aB (mC (.int 0)) aI)) aI)) (aB (cE (aB (mC (.int 0)) (aB (mC (.int 1)) aI))) (aB (bK false (aB (mC (.int 0)) (aB (mC (.str "1")) aI))) aI)))))))))))))))) (.nm 1))
 (aK (bL (aX (dD false) (aC 1) (bK false (aB (bK false (aB (mC (.int 0)) (aB (m1 oS (mC (.int 1))) aI))) (aB (bK false (aB (mC (.int 2)) (aB (mC (.int 1)) aI))) (aB (bK false (aB (mC (.bl false)) (aB (mC (.int 1)) aI))) (aB (bK false (aB (cE (aB (mC (.int 0)) (aB (mC (.int 0)) aI))) aI)) (aB (bK false (aB (cE (aB (mC (.int 0)) (aB (mC (.int 2)) aI))) aI)) (aB (bK false (aB (cE (aB (mC (.int 3)) (aB (mC (.int 0)) aI))) aI)) (aB (bK false (aB (cE (aB (mC (.int 0)) (aB (mC (.bl true)) aI))) aI)) (aB (bK false (aB (bK false (aB (mC (.int 0)) (aB (mC (.int 0)) aI))) aI)) (aB (bK false (aB (cE (aB (mC (.int 0)) (aB (mC (.int 0)) (aB (mC (.int 0)) aI)))) aI)) aI))))))))))) (.nm 1))
 (bI (aO (cF 10) (aB (aX cQ (aC 1) (aO bA (aB (aC 0) (aB (m1 cK (aC 1)) aI)))) aI)))))
def uT : FD := run 2 1 vD
def vC : FS :=
 (aK (bL (bK false (aB (mC .non) (aB (mC (.bl true)) (aB (mC (.int 0)) (aB (m1 oS (mC (.int 1))) (aB (mC (.int 2)) (aB (mC (.str "left")) (aB (cE aI) (aB (bK false aI) (aB (bK false (aB (mC (.int 0)) (aB (mC (.int 0)) aI))) (aB (bK false (aB (mC (.int 1)) (aB (mC (.int 0)) aI))) (aB (bK false (aB (mC (.bl true)) aI)) (aB (bK false (aB (mC (.int 0)) (aB (mC (.int 3)) aI))) (aB (bK false (aB (bK false (aB (mC (.int 0)) aI)) aI)) (aB (cE (aB (mC (.int 0)) (aB (mC (.int 1)) aI))) (aB (bK false (aB (mC (.int 0)) (aB (mC (.str "1")) aI))) aI)))))))))))))))) (.nm 1))
 (aK (bL (aX (dD false) (aC 1) (bK false (aB (bK false (aB (mC (.int 0)) (aB (m1 oS (mC (.int 1))) aI))) (aB (bK false (aB (mC (.int 2)) (aB (mC (.int 1)) aI))) (aB (bK false (aB (mC (.bl false)) (aB (mC (.int 1)) aI))) (aB (bK false (aB (cE (aB (mC (.int 0)) (aB (mC (.int 0)) aI))) aI)) (aB (bK false (aB (cE (aB (mC (.int 0)) (aB (mC (.int 2)) aI))) aI)) (aB (bK false (aB (cE (aB (mC (.int 3)) (aB (mC (.int 0)) aI))) aI)) (aB (bK false (aB (cE (aB (mC (.int 0)) (aB (mC (.bl true)) aI))) aI)) (aB (bK false (aB (bK false (aB (mC (.int 0)) (aB (mC (.int 0)) aI))) aI)) (aB (bK false (aB (cE (aB (mC (.int 0)) (aB (mC (.int 0)) (aB (mC (.int 0)) aI)))) aI)) aI))))))))))) (.nm 1))
 (bI (aO fP (aB (aX cQ (aC 1) (aO bA (aB (aC 0) (aB (m1 cK (aC 1)) aI)))) aI)))))
def oG : FD := run 2 1 vC
def gU : FS :=
 (eU [3, 4, 6, 7] (aK (bL (aO bA (aB (aC 0) (aB (mC (.int 4)) aI))) (.nm 4))
 (aK (bL (aO bA (aB (aC 0) (aB (mC (.int 4)) aI))) (.nm 5))
 (bJ (pK (mB (aX gC (aC 5) (mC (.int 0)))) (pK (dY (bY (m1 (fIsi "list") (aX oV (aC 2) (aC 4))))) (mB (aX gC (m1 cK (aX oV (aC 2) (aC 4))) (mC (.int 0)))))) (Bl (aO oG (aB (aC 0) aI)) (aC 2) (aC 4)) (bJ (mB (aX gC (aC 5) (mC (.int 1)))) (eV (Gi (aX oV (aC 2) (aC 4)) (aO bA (aB (aC 0) (aB (aX (dD false) (m1 cK (aX oV (aC 2) (aC 4))) (mC (.int 1))) aI))) (aX cQ (aX oV (aC 2) (aC 4)) (aO bA (aB (aC 0) (aB (m1 cK (aX oV (aC 2) (aC 4))) aI)))))) (bJ (mB (aX gC (aC 5) (mC (.int 2)))) (eV (Gh (aX oV (aC 2) (aC 4)) (aO bA (aB (aC 0) (aB (m1 cK (aX oV (aC 2) (aC 4))) aI))))) (aK (bL (aO bA (aB (aC 0) (aB (m1 cK (aX oV (aC 2) (aC 4))) aI))) (.nm 6))
 (aK (bL (aX cQ (bK false (aB (m1 oS (mC (.int 1))) (aB (mC (.int 3)) (aB (mC (.bl true)) (aB (mC .non) (aB (cE (aB (mC (.int 0)) (aB (mC (.int 2)) aI))) (aB (cE (aB (mC (.int 0)) (aB (mC (.int 0)) aI))) (aB (cE (aB (m1 oS (mC (.int 1))) (aB (mC (.int 0)) aI))) (aB (mC (.int 1)) aI))))))))) (aO bA (aB (aC 0) (aB (mC (.int 8)) aI)))) (.nm 7))
 (Bl (aX (dD true) (aX (dD false) (Ka false (aX oV (aC 2) (aC 4)) Bm (tV (aC 6))) (bK false (aB (aC 7) aI))) (Ka false (aX oV (aC 2) (aC 4)) (tV (aX (dD false) (aC 6) (mC (.int 1)))) Bm)) (aC 2) (aC 4))))))))))
def mJ : FS :=
 (aK (bL (Ht (aB (aO fP (aB (aX cQ (aC 1) (mC (.int 0))) aI)) (aB (m1 (oU true) (aX cQ (aC 1) (mC (.int 1)))) (aB (m1 (oU true) (aX cQ (aC 1) (mC (.int 2)))) (aB (m1 (oU true) (aX cQ (aC 1) (mC (.int 3)))) aI))))) (.nm 2))
 (aK (kP (gX (aX (dD false) (mC (.int 1)) (aO bA (aB (aC 0) (aB (mC (.int 2)) aI))))) (.nm 3) gU)
 (aK (DA 2) (aK (bL (aO bA (aB (aC 0) (aB (mC (.int 12)) aI))) (.nm 5))
 (aK (bJ (mB (aX gC (aC 5) (mC (.int 0)))) (bI (aC 2)) aZ)
 (aK (bJ (mB (aX gC (aC 5) (mC (.int 1)))) (bI (m1 fTuple (Ka false (aC 2) Bm (tV (mC (.int 3)))))) aZ)
 (aK (bJ (mB (aX gC (aC 5) (mC (.int 2)))) (bI (m1 fTuple (aX (dD false) (aC 2) (bK false (aB (bK false (aB (mC (.int 0)) aI)) aI))))) aZ)
 (aK (bJ (mB (aX gC (aC 5) (mC (.int 3)))) (bI (aO uT (aB (aC 0) aI))) aZ)
 (bI (m1 fTuple (aC 2)))))))))))
def jK : FD := Ab 8 2 mJ
def oX : FS :=
 (aK (bL (mC .non) (.nm 3))
 (aK (bL (mC .non) (.nm 4))
 (aK (bL (mC (.bl true)) (.nm 5))
 (aK (AG ["NoBook", "NoCall", "NoCommand", "NoEquation", "NoEquations", "NoPath", "NoProcedure", "NoRows", "NoRun", "TooMany"] (bJ (mB (aX gC (aC 2) (mC (.int 0)))) (bL (aO fU (aB (aC 0) (aB (aC 1) (aB (mC .non) aI)))) (.nm 3)) (bJ (mB (aX gC (aC 2) (mC (.int 1)))) (bL (aO eJ (aB (aC 0) (aB (aC 1) (aB (mC .non) aI)))) (.nm 3)) (bL (aO eY (aB (aC 0) (aB (aC 1) aI))) (.nm 3)))) [("NoEquations", 6, [(4, .f "index"), (5, .is "HomeError" true)])])
 (aK (bJ (dY (bY (aC 5))) (bI (cE (aB (mC (.str "apart")) aI))) aZ)
 (aK (bJ (mB (aX (lH true) (aC 4) (mC .non))) (bI (cE (aB (mC (.str "refused")) (aB (aC 4) aI)))) aZ)
 (bI (cE (aB (mC (.str "told")) (aB (aC 3) aI))))))))))
def jV : FD := run 7 3 oX
def pP : FE :=
 (cE (aB (aX pO (aC 14) (mC (.int 2))) (aB (aX wI (aC 14) (mC (.int 2))) aI)))
def kB : FS :=
 (eU [8, 9] (aK (bL (aO kZ (aB (aC 1) (aB (aC 4) (aB (mC (.int 3)) aI)))) (.nm 9))
 (aK (bJ (xQ (dY (bY (aC 7))) (mB (aX gC (aO bA (aB (aC 1) (aB (mC (.int 4)) aI))) (mC (.int 0))))) (bL (aO jK (aB (aC 1) (aB (aC 9) aI))) (.nm 9)) aZ)
 (aK (eV (vK (aC 5) (aC 9)))
 (bJ (xQ (mB (aX (lH false) (aC 6) (mC .non))) (mB (aX (lH true) (aO kJ (aB (aC 9) (aB (m1 cK (aC 2)) aI))) (mC .non)))) (bL (aC 8) (.nm 6)) aZ)))))
def mM : FS :=
 (eU [13] (bJ (pK (dY (bY (aO (gJ 20) (aB (aO jV (aB (aC 3) (aB (aC 11) (aB (aC 13) aI)))) (aB (aC 12) aI))))) (dY (bY (aO (gJ 20) (aB (aC 11) (aB (aC 5) aI)))))) (bI (mC (.bl false))) aZ))
def tP : FS :=
 (aK (bJ (mB (aX (lH false) (aC 6) (mC .non))) (bI (mC (.bl true))) aZ)
 (bI (iF (aO (gJ 20) (aB (aO jV (aB (aC 3) (aB (aC 11) (aB (mC (.int 2)) aI)))) (aB (aC 12) aI))) (aO (gJ 20) (aB (aC 11) (aB (aC 5) aI))))))
def pE : FS :=
 (aK (kP (gX (mC (.int 2))) (.nm 13) mM)
 tP)
def pD : FS :=
 (aK (nD 5) (aK (bL (aO (cF 10) (aB (aC 5) aI)) (.nm 11))
 (aK (bL (cE (aB (mC (.str "told")) (aB (cE (aB (mC (.str "form")) aI)) aI))) (.nm 12))
 (aK (bJ (mB (aX (lH true) (aC 6) (mC .non))) (bL (cE (aB (mC (.str "refused")) (aB (aC 6) aI))) (.nm 12)) aZ)
 pE))))
def tO : FS :=
 (aK (bL (aO bA (aB (aC 1) (aB (mC (.int 8)) aI))) (.nm 10))
 (aK (bJ (mB (aX gC (aC 10) (mC (.int 0)))) (aK (bL (aX cQ (bK false (aB (m1 fTuple (aC 5)) (aB (mC .non) (aB (mC (.int 0)) (aB (mC (.str "")) (aB (mC (.bl true)) aI)))))) (aO bA (aB (aC 1) (aB (mC (.int 5)) aI)))) (.nm 5))
 (bL (m1 oS (mC (.int 1))) (.nm 6))) aZ)
 pD))
def rB : FS :=
 (aK (bL (aO xO (aB (aC 0) aI)) (.nm 1))
 (aK (bL (aO xP (aB (aC 1) (aB (mC (.int 3)) (aB (mC (.int 4)) aI)))) (.nm 2))
 (aK (bL (Kd false "Book" kN (aB (aO (cF 10) (aB (aC 2) aI)) aI)) (.nm 3))
 (aK (bL (Bn false (gX (aX A1 (mC (.int 2)) (m1 cK (aC 2)))) (.nm 14) gK pP [14]) (.nm 4))
 (aK (bL (bK true aI) (.nm 5))
 (aK (bL (mC .non) (.nm 6))
 (aK (bL (aX gC (aO bA (aB (aC 1) (aB (mC (.int 4)) aI))) (mC (.int 0))) (.nm 7))
 (aK (kP (gX (aO bA (aB (aC 1) (aB (mC (.int 5)) aI)))) (.nm 8) kB)
 tO))))))))
def m_law_k62 : FD := Ab 15 1 rB
theorem HS {x0 x1 : Vl} {S : aM} : rS [x0, x1] S = cH (rY [some x0, some x1, none, none] S) := (rfl)
theorem Ci {x0 x1 : Vl} {S : aM} : lY [x0, x1] S = cH (mG [some x0, some x1, none, none, none, none] S) := (rfl)
theorem nL {x0 x1 : Vl} {S : aM} : dX [x0, x1] S = cH (eM [some x0, some x1, none, none] S) := (rfl)
theorem vW {x0 x1 x2 : Vl} {S : aM} : fU [x0, x1, x2] S = cH (jP [some x0, some x1, some x2, none, none, none, none, none, none] S) := (rfl)
theorem pX {x0 x1 : Vl} {S : aM} : eG [x0, x1] S = cH (fQ [some x0, some x1, none] S) := (rfl)
theorem A5 {x0 x1 : Vl} {S : aM} : eY [x0, x1] S = trunc S.length (cH (iY [some x0, some x1, none, none, none] S)) := (rfl)
theorem Cj {x0 : Vl} {S : aM} : lZ [x0] S = cH (mH [some x0] S) := (rfl)
theorem sS {x0 x1 x2 : Vl} {S : aM} : eJ [x0, x1, x2] S = cH (gY [some x0, some x1, some x2, none, none, none, none, none, none] S) := (rfl)
theorem GB {x0 x1 : Vl} {S : aM} : kM [x0, x1] S = cH (pU [some x0, some x1] S) := (rfl)
theorem GA {x0 x1 : Vl} {S : aM} : kL [x0, x1] S = cH (pT [some x0, some x1, none] S) := (rfl)
theorem Df {x0 x1 : Vl} {S : aM} : kJ [x0, x1] S = cH (rD [some x0, some x1, none, none, none, none, none, none] S) := (rfl)
theorem Jo {x0 : Vl} {S : aM} : uT [x0] S = cH (vD [some x0, none] S) := (rfl)
theorem Dg {x0 : Vl} {S : aM} : oG [x0] S = cH (vC [some x0, none] S) := (rfl)
theorem Ck {x0 x1 : Vl} {S : aM} : jK [x0, x1] S = trunc S.length (cH (mJ [some x0, some x1, none, none, none, none, none, none] S)) := (rfl)
theorem CK {x0 x1 x2 : Vl} {S : aM} : jV [x0, x1, x2] S = cH (oX [some x0, some x1, some x2, none, none, none, none] S) := (rfl)
theorem Jn {x0 : Vl} {S : aM} : m_law_k62 [x0] S = trunc S.length (cH (rB [some x0, none, none, none, none, none, none, none, none, none, none, none, none, none, none] S)) := (rfl)
end PH
namespace PHZ
open PH PySem PySem.Spec PyProof.Rows L2
theorem CQ : FnScope ["value"] ["value"] (defScope rL) := ⟨rfl, rfl, rfl, by decide +kernel, rfl, by decide +kernel, by decide +kernel⟩
theorem Ie : FnScope ["value"] ["value"] (defScope BO) := ⟨rfl, rfl, rfl, by decide +kernel, rfl, by decide +kernel, by decide +kernel⟩
theorem CS : FnScope ["value", "many", "low", "high", "number"] ["value"] (defScope nM) := ⟨rfl, rfl, rfl, by decide +kernel, rfl, by decide +kernel, by decide +kernel⟩
theorem Dq : FnScope ["statement", "word"] ["statement"] (defScope tH) := ⟨rfl, rfl, rfl, by decide +kernel, rfl, by decide +kernel, by decide +kernel⟩
theorem BC : FnScope ["statement", "blocks", "word"] ["statement", "blocks"] (defScope pZ) := ⟨rfl, rfl, rfl, by decide +kernel, rfl, by decide +kernel, by decide +kernel⟩
theorem sM : FnScope ["block", "statement"] ["block"] (defScope kR) := ⟨rfl, rfl, rfl, by decide +kernel, rfl, by decide +kernel, by decide +kernel⟩
theorem nG : FnScope ["statement", "block"] ["statement"] (defScope gE) := ⟨rfl, rfl, rfl, by decide +kernel, rfl, by decide +kernel, by decide +kernel⟩
theorem BD : FnScope ["value", "level", "many", "word"] ["value", "level", "many"] (defScope qA) := ⟨rfl, rfl, rfl, by decide +kernel, rfl, by decide +kernel, by decide +kernel⟩
theorem tF : FnScope ["block", "level", "many", "path", "met", "at", "statement", "here", "number", "inner", "fault"] ["block", "level", "many", "path", "met"] (defScope qF) := ⟨rfl, rfl, rfl, by decide +kernel, rfl, by decide +kernel, by decide +kernel⟩
theorem Cp : FnScope ["block", "path", "found", "at", "statement", "here", "number", "inner"] ["block", "path"] (defScope BM) := ⟨rfl, rfl, rfl, by decide +kernel, rfl, by decide +kernel, by decide +kernel⟩
theorem Dx : FnScope ["self", "bodies", "procedure", "body", "fault", "met"] ["self", "bodies"] (defScope kF) := ⟨rfl, rfl, rfl, by decide +kernel, rfl, by decide +kernel, by decide +kernel⟩
theorem F5 : FnScope ["self"] ["self"] (defScope oL) := ⟨rfl, rfl, rfl, by decide +kernel, rfl, by decide +kernel, by decide +kernel⟩
theorem CV : FnScope ["self", "found", "procedure", "body", "path", "statement"] ["self"] (defScope kU) := ⟨rfl, rfl, rfl, by decide +kernel, rfl, by decide +kernel, by decide +kernel⟩
theorem GP : FnScope ["book", "procedure", "way"] ["book"] (defScope uQ) := ⟨rfl, rfl, rfl, by decide +kernel, rfl, by decide +kernel, by decide +kernel⟩
theorem F2 : FnScope ["book", "thing", "keys", "key"] ["book", "thing"] (defScope rK) := ⟨rfl, rfl, rfl, by decide +kernel, rfl, by decide +kernel, by decide +kernel⟩
theorem BE : FnScope ["book", "thing", "procedure", "way", "space", "row"] ["book", "thing"] (defScope qB) := ⟨rfl, rfl, rfl, by decide +kernel, rfl, by decide +kernel, by decide +kernel⟩
theorem KC : FnScope ["value"] ["value"] (defScope Dy) := ⟨rfl, rfl, rfl, by decide +kernel, rfl, by decide +kernel, by decide +kernel⟩
theorem Ic : FnScope ["value", "bound"] ["value", "bound"] (defScope BL) := ⟨rfl, rfl, rfl, by decide +kernel, rfl, by decide +kernel, by decide +kernel⟩
theorem BF : FnScope ["item", "procedures"] ["item", "procedures"] (defScope qC) := ⟨rfl, rfl, rfl, by decide +kernel, rfl, by decide +kernel, by decide +kernel⟩
theorem zC : FnScope ["things", "procedures", "most", "item"] ["things", "procedures", "most"] (defScope jR) := ⟨rfl, rfl, rfl, by decide +kernel, rfl, by decide +kernel, by decide +kernel⟩
theorem GQ : FnScope ["things", "many", "at", "index"] ["things", "many"] (defScope zE) := ⟨rfl, rfl, rfl, by decide +kernel, rfl, by decide +kernel, by decide +kernel⟩
theorem Ds : FnScope ["things", "least", "part"] ["things"] (defScope tJ) := ⟨rfl, rfl, rfl, by decide +kernel, rfl, by decide +kernel, by decide +kernel⟩
theorem vH : FnScope ["book", "equation", "variables", "left", "right", "parts", "k"] ["book", "equation"] (defScope gG) := ⟨rfl, rfl, rfl, by decide +kernel, rfl, by decide +kernel, by decide +kernel⟩
theorem tG : FnScope ["book", "equations", "index", "equation"] ["book", "equations"] (defScope jC) := ⟨rfl, rfl, rfl, by decide +kernel, rfl, by decide +kernel, by decide +kernel⟩
theorem BH : FnScope ["book", "equations", "thing", "fault", "index", "equation", "spaces", "matrices", "variable"] ["book", "equations", "thing"] (defScope qE) := ⟨rfl, rfl, rfl, by decide +kernel, rfl, by decide +kernel, by decide +kernel⟩
theorem Aa : FnScope ["calls", "many", "level", "positions", "row", "at"] ["calls"] (defScope iB) := ⟨rfl, rfl, rfl, by decide +kernel, rfl, by decide +kernel, by decide +kernel⟩
theorem vX : FnScope ["book", "equations", "calls"] ["book", "equations"] (defScope kS) := ⟨rfl, rfl, rfl, by decide +kernel, rfl, by decide +kernel, by decide +kernel⟩
theorem xD : FnScope ["book", "equations", "reasons", "choice", "broken"] ["book", "equations"] (defScope lR) := ⟨rfl, rfl, rfl, by decide +kernel, rfl, by decide +kernel, by decide +kernel⟩
theorem BG : FnScope ["thing"] ["thing"] (defScope qD) := ⟨rfl, rfl, rfl, by decide +kernel, rfl, by decide +kernel, by decide +kernel⟩
theorem yZ : FnScope ["book", "equations", "thing", "calls", "ahead", "reasons", "i", "choice", "broken"] ["book", "equations", "thing"] (defScope nA) := ⟨rfl, rfl, rfl, by decide +kernel, rfl, by decide +kernel, by decide +kernel⟩
theorem Ig : FnScope ["_law_script", "_law_cell"] ["_law_script"] (defScope xH) := ⟨rfl, rfl, rfl, by decide +kernel, rfl, by decide +kernel, by decide +kernel⟩
theorem Ii : FnScope ["_law_pool_here", "_law_many", "_law_at", "_law_cell", "_law_number"] ["_law_pool_here", "_law_many"] (defScope BQ) := ⟨rfl, rfl, rfl, by decide +kernel, rfl, by decide +kernel, by decide +kernel⟩
theorem Dw : FnScope ["_law_pool_here", "_law_mood", "_law_menus", "_law_menu", "_law_kind", "_law_far"] ["_law_pool_here", "_law_mood"] (defScope tM) := ⟨rfl, rfl, rfl, by decide +kernel, rfl, by decide +kernel, by decide +kernel⟩
theorem Ih : FnScope ["_law_pool_here", "_law_mood", "_law_k", "_law_kind", "_law_rows"] ["_law_pool_here", "_law_mood"] (defScope BP) := ⟨rfl, rfl, rfl, by decide +kernel, rfl, by decide +kernel, by decide +kernel⟩
theorem BJ : FnScope ["_law_pool_here", "_law_mood", "_law_level", "_law_room", "_law_calls", "_law_low", "_law_kind", "_law_pair_here", "_law_inner", "_law_one", "_law_goal", "_law_saved"] ["_law_pool_here", "_law_mood", "_law_level", "_law_room", "_law_calls", "_law_low"] (defScope zI) := ⟨rfl, rfl, rfl, by decide +kernel, rfl, by decide +kernel, by decide +kernel⟩
theorem BK : FnScope ["_law_pool_here", "_law_mood", "_law_level", "_law_room", "_law_calls", "_law_low", "_law_block_here", "_law_turn"] ["_law_pool_here", "_law_mood", "_law_level", "_law_room", "_law_calls", "_law_low"] (defScope zL) := ⟨rfl, rfl, rfl, by decide +kernel, rfl, by decide +kernel, by decide +kernel⟩
theorem F3 : FnScope ["_law_pool_here", "_law_mood", "_law_room", "_law_calls", "_law_goal", "_law_saved", "_law_at", "_law_pair_here", "_law_rows"] ["_law_pool_here", "_law_mood", "_law_room", "_law_calls"] (defScope vY) := ⟨rfl, rfl, rfl, by decide +kernel, rfl, by decide +kernel, by decide +kernel⟩
theorem Ik : FnScope ["_law_pool_here", "_law_mood", "_law_room", "_law_calls", "_law_low", "_law_ending", "_law_body_here", "_law_turn", "_law_rows"] ["_law_pool_here", "_law_mood", "_law_room", "_law_calls", "_law_low"] (defScope BS) := ⟨rfl, rfl, rfl, by decide +kernel, rfl, by decide +kernel, by decide +kernel⟩
theorem Ij : FnScope ["_law_pool_here", "_law_most", "_law_size", "_law_mood", "_law_wild", "_law_many", "_law_calls", "_law_bodies", "_law_procedure", "_law_room", "_law_low"] ["_law_pool_here", "_law_most", "_law_size"] (defScope BR) := ⟨rfl, rfl, rfl, by decide +kernel, rfl, by decide +kernel, by decide +kernel⟩
theorem AB : FnScope ["_law_value", "_law_item"] ["_law_value"] (defScope oK) := ⟨rfl, rfl, rfl, by decide +kernel, rfl, by decide +kernel, by decide +kernel⟩
theorem AA : FnScope ["_law_one", "_law_other", "_law_k"] ["_law_one", "_law_other"] (defScope rM) := ⟨rfl, rfl, rfl, by decide +kernel, rfl, by decide +kernel, by decide +kernel⟩
theorem CT : FnScope ["_law_pool_here", "_law_keys", "_law_most", "_law_variables", "_law_left", "_law_right", "_law_rows", "_law_row", "_law_at", "_law_sides"] ["_law_pool_here", "_law_keys", "_law_most"] (defScope rN) := ⟨rfl, rfl, rfl, by decide +kernel, rfl, by decide +kernel, by decide +kernel⟩
theorem Du : FnScope ["_law_thing", "_law_bound"] ["_law_thing", "_law_bound"] (defScope tL) := ⟨rfl, rfl, rfl, by decide +kernel, rfl, by decide +kernel, by decide +kernel⟩
theorem Dt : FnScope ["_law_thing", "_law_bound", "_law_k"] ["_law_thing", "_law_bound"] (defScope tK) := ⟨rfl, rfl, rfl, by decide +kernel, rfl, by decide +kernel, by decide +kernel⟩
theorem GT : FnScope ["_law_equation_here", "_law_procedures", "_law_variables", "_law_left", "_law_right", "_law_row", "_law_item", "_law_k"] ["_law_equation_here", "_law_procedures"] (defScope zH) := ⟨rfl, rfl, rfl, by decide +kernel, rfl, by decide +kernel, by decide +kernel⟩
theorem GV : FnScope ["_law_pool_here", "_law_odds"] ["_law_pool_here"] (defScope zK) := ⟨rfl, rfl, rfl, by decide +kernel, rfl, by decide +kernel, by decide +kernel⟩
theorem CU : FnScope ["_law_value", "_law_item"] ["_law_value"] (defScope kT) := ⟨rfl, rfl, rfl, by decide +kernel, rfl, by decide +kernel, by decide +kernel⟩
theorem GU : FnScope ["_law_pool_here", "_law_odds"] ["_law_pool_here"] (defScope zJ) := ⟨rfl, rfl, rfl, by decide +kernel, rfl, by decide +kernel, by decide +kernel⟩
theorem BI : FnScope ["_law_pool_here", "_law_equation_here", "_law_rows", "_law_turn", "_law_at", "_law_kind", "_law_k", "_law_item"] ["_law_pool_here", "_law_equation_here"] (defScope qG) := ⟨rfl, rfl, rfl, by decide +kernel, rfl, by decide +kernel, by decide +kernel⟩
theorem F4 : FnScope ["_law_book_here", "_law_equations", "_law_kind", "_law_found", "_law_index", "_law_above", "e"] ["_law_book_here", "_law_equations", "_law_kind"] (defScope vZ) := ⟨rfl, rfl, rfl, by decide +kernel, rfl, by decide +kernel, by decide +kernel⟩
theorem sc_law_k62 : FnScope ["_law_script", "_law_pool_here", "_law_bodies", "_law_book_here", "_law_keys", "_law_equations", "_law_index", "_law_sound", "_law_at", "_law_equation_here", "_law_odd_here", "_law_passed", "_law_due", "_law_kind", "_law_k"] ["_law_script"] (defScope qP) := ⟨rfl, rfl, rfl, by decide +kernel, rfl, by decide +kernel, by decide +kernel⟩
theorem GO : FnScope ["self", "procedure", "path"] ["self", "procedure", "path"] (defScope qO) := ⟨rfl, rfl, rfl, by decide +kernel, rfl, by decide +kernel, by decide +kernel⟩
theorem BB : FnScope ["self", "place"] ["self", "place"] (defScope jG) := ⟨rfl, rfl, rfl, by decide +kernel, rfl, by decide +kernel, by decide +kernel⟩
theorem sL : FnScope ["self", "index"] ["self", "index"] (defScope iA) := ⟨rfl, rfl, rfl, by decide +kernel, rfl, by decide +kernel, by decide +kernel⟩
theorem F0 : FnScope ["self", "many"] ["self", "many"] (defScope oJ) := ⟨rfl, rfl, rfl, by decide +kernel, rfl, by decide +kernel, by decide +kernel⟩
structure Txt (w : World) (K : aD) (mg : Str -> Option Value) : Prop where
 n_isinstance : mg "isinstance" = none
 n_int : mg "int" = none
 n_bool : mg "bool" = none
 n_tuple : mg "tuple" = none
 n_len : mg "len" = none
 n_str : mg "str" = none
 lim : Lim K
 k_LIMITS : ∃ es n, KDict K w (He.ga K "LIMITS") es n
 g_LIMITS : mg "LIMITS" = some (.ref (He.ga K "LIMITS"))
 n_all : mg "all" = none
 i_DEEPEST : ∃ t, mg "DEEPEST" = some (.int 3 t)
 n_list : mg "list" = none
 n_enumerate : mg "enumerate" = none
 i_MOST_IN_LIST : ∃ t, mg "MOST_IN_LIST" = some (.int 8 t)
 i_MOST_IN_PROCEDURE : ∃ t, mg "MOST_IN_PROCEDURE" = some (.int 12 t)
 i_MOST_PROCEDURES : ∃ t, mg "MOST_PROCEDURES" = some (.int 3 t)
 xa_NoBook : XaF K mg "NoBook" ["procedure", "path"]
 fx_NoBook : Jt K "NoBook" "__init__" "NoBook.__init__" qO
 c_Book : Cls K (He.ga K "Book")
 a_Book_own : NoAttr K (He.ga K "Book") "own"
 n_range : mg "range" = none
 n_dict : mg "dict" = none
 I_Space : IsF K "Space"
 g_Space : mg "Space" = some (.ref (He.ga K "Space"))
 xa_NoEquation : XaF K mg "NoEquation" ["place"]
 fx_NoEquation : Jt K "NoEquation" "__init__" "NoEquation.__init__" jG
 xa_NoEquations : XaF K mg "NoEquations" ["index"]
 fx_NoEquations : Jt K "NoEquations" "__init__" "NoEquations.__init__" iA
 xm : RQ K ["NoBook", "NoCall", "NoCommand", "NoEquation", "NoEquations", "NoPath", "NoProcedure", "NoRows", "NoRun", "TooMany"]
 g_NoEquation : mg "NoEquation" = some (.ref (He.ga K "NoEquation"))
 xa_TooMany : XaF K mg "TooMany" ["many"]
 fx_TooMany : Jt K "TooMany" "__init__" "TooMany.__init__" oJ
 n_sorted : mg "sorted" = none
 xs_NoEquations : XsF K (He.ga K "NoEquations")
 g_HomeError : mg "HomeError" = some (.ref (He.ga K "HomeError"))
 ki_NoEquations_HomeError : iM K (.ref (He.ga K "NoEquations")) (.ref (He.ga K "HomeError")) = some true
 T_Book : ClF K mg "Book"
 G_is_integer : mg "is_integer" = some (.ref (He.ga K "is_integer"))
 f_is_integer : mK K "is_integer" rL
 G_is_bit : mg "is_bit" = some (.ref (He.ga K "is_bit"))
 f_is_bit : mK K "is_bit" BO
 G_is_command : mg "is_command" = some (.ref (He.ga K "is_command"))
 f_is_command : mK K "is_command" nM
 G_blocks_of : mg "blocks_of" = some (.ref (He.ga K "blocks_of"))
 f_blocks_of : mK K "blocks_of" tH
 G_with_blocks : mg "with_blocks" = some (.ref (He.ga K "with_blocks"))
 f_with_blocks : mK K "with_blocks" pZ
 G_copied_block : mg "copied_block" = some (.ref (He.ga K "copied_block"))
 f_copied_block : mK K "copied_block" kR
 G_copied_statement : mg "copied_statement" = some (.ref (He.ga K "copied_statement"))
 f_copied_statement : mK K "copied_statement" gE
 G_well_formed : mg "well_formed" = some (.ref (He.ga K "well_formed"))
 f_well_formed : mK K "well_formed" qA
 G_first_fault : mg "first_fault" = some (.ref (He.ga K "first_fault"))
 f_first_fault : mK K "first_fault" qF
 G_placed : mg "placed" = some (.ref (He.ga K "placed"))
 f_placed : mK K "placed" BM
 M_Book_init : Meth K (He.ga K "Book") "__init__" (He.ma K (He.ga K "Book") "__init__")
 f_Book_init : Jt K "Book" "__init__" "Book.__init__" kF
 M_Book_len : Meth K (He.ga K "Book") "__len__" (He.ma K (He.ga K "Book") "__len__")
 f_Book_len : Jt K "Book" "__len__" "Book.__len__" oL
 M_Book_calls : Meth K (He.ga K "Book") "calls" (He.ma K (He.ga K "Book") "calls")
 f_Book_calls : Jt K "Book" "calls" "Book.calls" kU
 G_keys_of : mg "keys_of" = some (.ref (He.ga K "keys_of"))
 f_keys_of : mK K "keys_of" uQ
 G_is_table : mg "is_table" = some (.ref (He.ga K "is_table"))
 f_is_table : mK K "is_table" rK
 G_table_fault : mg "table_fault" = some (.ref (He.ga K "table_fault"))
 f_table_fault : mK K "table_fault" qB
 G_whole : mg "whole" = some (.ref (He.ga K "whole"))
 f_whole : mK K "whole" Dy
 G_within : mg "within" = some (.ref (He.ga K "within"))
 f_within : mK K "within" BL
 G_is_variable : mg "is_variable" = some (.ref (He.ga K "is_variable"))
 f_is_variable : mK K "is_variable" qC
 G_are_variables : mg "are_variables" = some (.ref (He.ga K "are_variables"))
 f_are_variables : mK K "are_variables" jR
 G_is_side : mg "is_side" = some (.ref (He.ga K "is_side"))
 f_is_side : mK K "is_side" zE
 G_are_parts : mg "are_parts" = some (.ref (He.ga K "are_parts"))
 f_are_parts : mK K "are_parts" tJ
 G_check_equation_N : mg "check_equation" = some (.ref (He.ga K "check_equation"))
 f_check_equation_N : mK K "check_equation" gG
 G_check_equations_4 : mg "check_equations" = some (.ref (He.ga K "check_equations"))
 f_check_equations_4 : mK K "check_equations" jC
 G_holds_fault : mg "holds_fault" = some (.ref (He.ga K "holds_fault"))
 f_holds_fault : mK K "holds_fault" qE
 G_call_choices : mg "call_choices" = some (.ref (He.ga K "call_choices"))
 f_call_choices : mK K "call_choices" iB
 G_checked_calls_4 : mg "checked_calls" = some (.ref (He.ga K "checked_calls"))
 f_checked_calls_4 : mK K "checked_calls" kS
 G_fewest_saves_4 : mg "fewest_saves" = some (.ref (He.ga K "fewest_saves"))
 f_fewest_saves_4 : mK K "fewest_saves" lR
 G_is_result_2 : mg "is_result" = some (.ref (He.ga K "is_result"))
 f_is_result_2 : mK K "is_result" qD
 G_saves_fault_3 : mg "saves_fault" = some (.ref (He.ga K "saves_fault"))
 f_saves_fault_3 : mK K "saves_fault" nA
 G_L_pool : mg "_law_pool" = some (.ref (He.ga K "_law_pool"))
 f_L_pool : mK K "_law_pool" xH
 G_L_draw : mg "_law_draw" = some (.ref (He.ga K "_law_draw"))
 f_L_draw : mK K "_law_draw" BQ
 G_L_command : mg "_law_command" = some (.ref (He.ga K "_law_command"))
 f_L_command : mK K "_law_command" tM
 G_L_pair : mg "_law_pair" = some (.ref (He.ga K "_law_pair"))
 f_L_pair : mK K "_law_pair" BP
 G_L_piece : mg "_law_piece" = some (.ref (He.ga K "_law_piece"))
 f_L_piece : mK K "_law_piece" zI
 G_L_block : mg "_law_block" = some (.ref (He.ga K "_law_block"))
 f_L_block : mK K "_law_block" zL
 G_L_around : mg "_law_around" = some (.ref (He.ga K "_law_around"))
 f_L_around : mK K "_law_around" vY
 G_L_body : mg "_law_body" = some (.ref (He.ga K "_law_body"))
 f_L_body : mK K "_law_body" BS
 G_L_book : mg "_law_book" = some (.ref (He.ga K "_law_book"))
 f_L_book : mK K "_law_book" BR
 G_L_copied : mg "_law_copied" = some (.ref (He.ga K "_law_copied"))
 f_L_copied : mK K "_law_copied" oK
 G_L_same_2 : mg "_law_same" = some (.ref (He.ga K "_law_same"))
 f_L_same_2 : mK K "_law_same" rM
 G_L_equation : mg "_law_equation" = some (.ref (He.ga K "_law_equation"))
 f_L_equation : mK K "_law_equation" rN
 G_L_integer : mg "_law_integer" = some (.ref (He.ga K "_law_integer"))
 f_L_integer : mK K "_law_integer" tL
 G_L_list_of : mg "_law_list_of" = some (.ref (He.ga K "_law_list_of"))
 f_L_list_of : mK K "_law_list_of" tK
 G_L_place : mg "_law_place" = some (.ref (He.ga K "_law_place"))
 f_L_place : mK K "_law_place" zH
 G_L_odd_2 : mg "_law_odd" = some (.ref (He.ga K "_law_odd"))
 f_L_odd_2 : mK K "_law_odd" zK
 G_L_copied_c : mg "_law_copied" = some (.ref (He.ga K "_law_copied"))
 f_L_copied_c : mK K "_law_copied" kT
 G_L_odd_c : mg "_law_odd" = some (.ref (He.ga K "_law_odd"))
 f_L_odd_c : mK K "_law_odd" zJ
 G_L_spoiled_4 : mg "_law_spoiled" = some (.ref (He.ga K "_law_spoiled"))
 f_L_spoiled_4 : mK K "_law_spoiled" qG
 G_L_answer : mg "_law_answer" = some (.ref (He.ga K "_law_answer"))
 f_L_answer : mK K "_law_answer" vZ
 G_law_k62 : mg "law" = some (.ref (He.ga K "law"))
 f_law_k62 : mK K "law" qP
section
variable {P : Program} {w : World} {K : aD} {mg : Str -> Option Value} {base : Heap}
theorem xa_NoBook (T : Txt w K mg) : XcA P w K mg base 1 "NoBook" ["self", "procedure", "path"] (PZ (He.ga K "NoBook") "procedure" "path") :=
 EE (m := "__init__") T.xa_NoBook T.fx_NoBook GO K2 (fun _ _ _ _ _ _ us hl => match us, hl with | [_, _, _], _ => rfl) fun cdv A outer s H vs Q E hr hsp => by
  obtain ⟨a, y, z, e, ha, h⟩ := hsp;subst e;exact ⟨_, (pss_cons (ps_ost (cv 0) (cv 1)) (pss_one (ps_ost (cv 0) (cv 2)))), rd_X2 T.xa_NoBook (by simp) (by simp) ha (fun _ _ => rfl) h⟩
theorem xa_NoEquation (T : Txt w K mg) : XcA P w K mg base 1 "NoEquation" ["self", "place"] (Do (He.ga K "NoEquation") "place") :=
 EE (m := "__init__") T.xa_NoEquation T.fx_NoEquation BB xB (fun _ _ _ _ _ _ us hl => match us, hl with | [_, _], _ => rfl) fun cdv A outer s H vs Q E hr hsp => by
  obtain ⟨a, y, e, ha, h⟩ := hsp;subst e;exact ⟨_, (pss_one (ps_ost (cv 0) (cv 1))), Hj T.xa_NoEquation (by simp) ha (fun _ _ => rfl) h⟩
theorem xa_NoEquations (T : Txt w K mg) : XcA P w K mg base 1 "NoEquations" ["self", "index"] (Do (He.ga K "NoEquations") "index") :=
 EE (m := "__init__") T.xa_NoEquations T.fx_NoEquations sL xB (fun _ _ _ _ _ _ us hl => match us, hl with | [_, _], _ => rfl) fun cdv A outer s H vs Q E hr hsp => by
  obtain ⟨a, y, e, ha, h⟩ := hsp;subst e;exact ⟨_, (pss_one (ps_ost (cv 0) (cv 1))), Hj T.xa_NoEquations (by simp) ha (fun _ _ => rfl) h⟩
theorem Ay (T : Txt w K mg) : XcH P w K mg base 1 "NoEquations" ["self", "index"] (Do (He.ga K "NoEquations") "index") :=
 Mz T.xa_NoEquations T.fx_NoEquations sL xB (fun _ _ _ _ _ _ us hl => match us, hl with | [_, _], _ => rfl) fun cdv A outer s H vs Q E p hsp => by
  obtain ⟨a, y, e, ha, h⟩ := hsp;subst e;exact ⟨_, (pss_one (ps_ost (cv 0) (cv 1))), Hj T.xa_NoEquations (by simp) ha (fun _ _ => rfl) h⟩
theorem xa_TooMany (T : Txt w K mg) : XcA P w K mg base 1 "TooMany" ["self", "many"] (Do (He.ga K "TooMany") "many") :=
 EE (m := "__init__") T.xa_TooMany T.fx_TooMany F0 xB (fun _ _ _ _ _ _ us hl => match us, hl with | [_, _], _ => rfl) fun cdv A outer s H vs Q E hr hsp => by
  obtain ⟨a, y, e, ha, h⟩ := hsp;subst e;exact ⟨_, (pss_one (ps_ost (cv 0) (cv 1))), Hj T.xa_TooMany (by simp) ha (fun _ _ => rfl) h⟩
theorem qH (T : Txt w K mg) : lO P w K mg base 1 "is_integer" ["value"] (spF K gH) :=
 fH (k := 0) T.f_is_integer T.G_is_integer CQ (Runs.plain (n := 1) (np := 1)) (fun _ _ _ _ _ _ us hl => match us, hl with | [_], _ => rfl) fun _ _ _ _ _ _ hr tk nd => by
  unfold nY;exact (aH (aP (fW (cW (T := "int") T.n_isinstance T.n_int (fv 0)) (pe_one (Lv (cW (T := "bool") T.n_isinstance T.n_bool (fv 0)))))))
theorem Iu (T : Txt w K mg) : lO P w K mg base 2 "is_bit" ["value"] (spF K xN) :=
 fH (k := 1) T.f_is_bit T.G_is_bit Ie (Runs.plain (n := 1) (np := 1)) (fun _ _ _ _ _ _ us hl => match us, hl with | [_], _ => rfl) fun _ _ _ _ _ _ hr tk nd => by
  unfold yJ;exact (aH (aP (fW (aN (qH T) hr tk (aA (fv 0) aF)) (pe_one (ES oN BN oN BN fI (fv 0) fI)))))
theorem CW (T : Txt w K mg) : lO P w K mg base 2 "is_command" ["value"] (spF K fO) :=
 fH (k := 1) T.f_is_command T.G_is_command CS (Runs.plain (n := 5) (np := 1)) (fun _ _ _ _ _ _ us hl => match us, hl with | [_], _ => rfl) fun _ _ _ _ _ _ hr tk nd => by
  unfold iX lI;exact (aE (bD (PW.pt (dU (bX (bP (cW (T := "tuple") T.n_isinstance T.n_tuple (fv 0)))) (pw_or1 (aU (bS hr.units) s_eq (cS T.n_len (fv 0)) fI)))) (aH (aP fB)) aL)
  (aE (bD (PW.pt (dU (bX (bP (cW (T := "str") T.n_isinstance T.n_str (cO (fv 0) fI)))) (pw_or1 (JW T.lim T.k_LIMITS T.g_LIMITS (cO (fv 0) fI))))) (aH (aP fB)) aL)
  (aE (Bw (t := (.tp [1, 2, 3])) (f_lim T.lim T.k_LIMITS T.g_LIMITS (cO (fv 0) fI)) (pg_tup rfl (pgs_cons (pg_name (i := 1) nd rfl (.inl rfl)) (pgs_cons (pg_name (i := 2) nd rfl (.inr rfl)) (pgs_cons (pg_name (i := 3) nd rfl (.inr rfl)) pgs_nil)))))
  (aE (bD (aU (kX hr.units) xF (cS T.n_len (fv 0)) (cR bQ dC (fv 1) fI)) (aH (aP fB)) aL)
  (aH (aP (Fp T.n_all (wG (own := [("number", 4)]) (t := (.nm 4)) rfl nd (hJ (EO (fv 0) (nV fI) nW)) (blkOk_by (own := [("number", 4)]) (N := ["value", "many", "low", "high", "number"]) (sc := defScope nM) (by decide +kernel)) (fun _ _ _ _ _ => (pg_name (i := 4) nd rfl (.inl rfl))) (fun _ _ _ _ _ => eR) (fun _ _ _ _ _ => (fW (aN (qH T) hr takes0 (aA (fv 4) aF)) (pe_one (ES oN BN oN BN (fv 2) (fv 4) (fv 3)))))))))))))
theorem rO (T : Txt w K mg) : lO P w K mg base 1 "blocks_of" ["statement"] (spF K iD) :=
 fH (k := 0) T.f_blocks_of T.G_blocks_of Dq (Runs.plain (n := 2) (np := 1)) (fun _ _ _ _ _ _ us hl => match us, hl with | [_], _ => rfl) fun _ _ _ _ _ _ hr tk nd => by
  unfold pS;exact (aE (aT (i := 1) nd rfl (.inl rfl) (cO (fv 0) fI))
  (aE (bD (PW.pt (dU (aU (bS hr.units) s_eq (fv 1) fS) (pw_or1 (aU (bS hr.units) s_eq (fv 1) fS)))) (aH (aP (bC (aA (cO (fv 0) fI) aF)))) aL)
  (aE (bD (aU (bS hr.units) s_eq (fv 1) fS) (aH (aP (bC (aA (cO (fv 0) fI) (aA (cO (fv 0) fI) aF))))) aL)
  (aE (bD (aU (bS hr.units) s_eq (fv 1) fS) (aH (aP (cO (fv 0) fI))) aL)
  (aH (aP (bC aF)))))))
theorem Ba (T : Txt w K mg) : lO P w K mg base 1 "with_blocks" ["statement", "blocks"] (spF K lX) :=
 fH (k := 0) T.f_with_blocks T.G_with_blocks BC (Runs.plain (n := 3) (np := 2)) (fun _ _ _ _ _ _ us hl => match us, hl with | [_, _], _ => rfl) fun _ _ _ _ _ _ hr tk nd => by
  unfold mE;exact (aE (aT (i := 2) nd rfl (.inl rfl) (cO (fv 0) fI))
  (aE (bD (PW.pt (dU (aU (bS hr.units) s_eq (fv 2) fS) (pw_or1 (aU (bS hr.units) s_eq (fv 2) fS)))) (aH (aP (bU (aA (fv 2) (aA (cO (fv 1) fI) aF))))) aL)
  (aE (bD (aU (bS hr.units) s_eq (fv 2) fS) (aH (aP (bU (aA (fv 2) (aA (cO (fv 1) fI) (aA (cO (fv 1) fI) aF)))))) aL)
  (aE (bD (aU (bS hr.units) s_eq (fv 2) fS) (aH (aP (bU (aA (fv 2) (aA (cO (fv 0) fI) (aA (cO (fv 0) fI) (aA (fv 1) aF))))))) aL)
  (aH (aP (fv 0)))))))
theorem mQ (T : Txt w K mg) : ∀ n, (lO P w K mg base (1 + n + 1) "copied_statement" ["statement"] (spF K (gI n))) /\ (lO P w K mg base (1 + n + 1) "copied_block" ["block"] (spF K (fC n)))
 | 0 => ⟨pI T.f_copied_statement T.G_copied_statement nG (fun _ _ _ _ _ _ us hl => match us, hl with | [_], _ => rfl), pI T.f_copied_block T.G_copied_block sM (fun _ _ _ _ _ _ us hl => match us, hl with | [_], _ => rfl)⟩
 | n + 1 => by
  have ih := mQ T n;have ih_copied_statement := ih.1;have ih_copied_block := ih.2;refine ⟨?_, ?_⟩
  ·exact fH (k := 1 + n + 1) T.f_copied_statement T.G_copied_statement nG (Runs.plain (n := 2) (np := 1)) (fun _ _ _ _ _ _ us hl => match us, hl with | [_], _ => rfl) fun _ _ _ _ _ _ hr tk nd => by
    unfold gR;exact (aH (aP (aN (Ba T) hr tk (aA (fv 0) (aA (wG (own := [("block", 1)]) (t := (.nm 1)) rfl nd (hJ (aN (rO T) hr tk (aA (fv 0) aF) (by omega))) (blkOk_by (own := [("block", 1)]) (N := ["statement", "block"]) (sc := defScope gE) (by decide +kernel)) (fun _ _ _ _ _ => (pg_name (i := 1) nd rfl (.inl rfl))) (fun _ _ _ _ _ => eR) (fun _ _ _ _ _ => (aN ih_copied_block hr takes0 (aA (fv 1) aF) (by omega)))) aF)) (by omega))))
  ·exact fH (k := 1 + n + 1) T.f_copied_block T.G_copied_block sM (Runs.plain (n := 2) (np := 1)) (fun _ _ _ _ _ _ us hl => match us, hl with | [_], _ => rfl) fun _ _ _ _ _ _ hr tk nd => by
    unfold lJ;exact (aH (aP (wG (own := [("statement", 1)]) (t := (.nm 1)) rfl nd (hJ (fv 0)) (blkOk_by (own := [("statement", 1)]) (N := ["block", "statement"]) (sc := defScope kR) (by decide +kernel)) (fun _ _ _ _ _ => (pg_name (i := 1) nd rfl (.inl rfl))) (fun _ _ _ _ _ => eR) (fun _ _ _ _ _ => (aN ih_copied_statement hr takes0 (aA (fv 1) aF) (by omega))))))
theorem Ac (T : Txt w K mg) (n : Nat) : lO P w K mg base (1 + n + 1) "copied_block" ["block"] (spF K (fC n)) := (mQ T n).2
theorem Bb (T : Txt w K mg) : lO P w K mg base 3 "well_formed" ["value", "level", "many"] (spF K jJ) :=
 fH (k := 2) T.f_well_formed T.G_well_formed BD (Runs.plain (n := 4) (np := 3)) (fun _ _ _ _ _ _ us hl => match us, hl with | [_, _, _], _ => rfl) fun _ _ _ _ _ _ hr tk nd => by
  unfold mF;exact (aE (bD (bP (aN (CW T) hr tk (aA (fv 0) aF))) (aH (aP fB)) aL)
  (aE (bD (PW.pt (dU (bX (bP (cW (T := "tuple") T.n_isinstance T.n_tuple (fv 0)))) (dU (aU kY xG (cS T.n_len (fv 0)) fI) (pw_or1 (bX (bP (cW (T := "str") T.n_isinstance T.n_str (cO (fv 0) fI)))))))) (aH (aP fB)) aL)
  (aE (aT (i := 3) nd rfl (.inl rfl) (cO (fv 0) fI))
  (aE (bD (aU (bS hr.units) s_eq (fv 3) fS) (aH (aP (fW (jN (bS hr.units) s_eq (cS T.n_len (fv 0)) fI) (pe_one (aN (Iu T) hr tk (aA (cO (fv 0) fI) aF)))))) aL)
  (aE (bD (aU (bS hr.units) s_eq (fv 1) (ER T.i_DEEPEST)) (aH (aP fB)) aL)
  (aE (bD (PW.pt (dU (aU (bS hr.units) s_eq (fv 3) fS) (pw_or1 (aU (bS hr.units) s_eq (fv 3) fS)))) (aH (aP (fW (jN (bS hr.units) s_eq (cS T.n_len (fv 0)) fI) (pe_one (cW (T := "list") T.n_isinstance T.n_list (cO (fv 0) fI)))))) aL)
  (aE (bD (aU (bS hr.units) s_eq (fv 3) fS) (aH (aP (fW (jN (bS hr.units) s_eq (cS T.n_len (fv 0)) fI) (fW (cW (T := "list") T.n_isinstance T.n_list (cO (fv 0) fI)) (pe_one (cW (T := "list") T.n_isinstance T.n_list (cO (fv 0) fI))))))) aL)
  (aE (bD (PW.pt (dU (aU (kX hr.units) xF (fv 3) fS) (pw_or1 (aU (kX hr.units) xF (cS T.n_len (fv 0)) fI)))) (aH (aP fB)) aL)
  (aE (bD (PW.pt (dU (bX (bP (aN (qH T) hr tk (aA (cO (fv 0) fI) aF)))) (pw_or1 (bX (Bv oN BN kY xG fI (cO (fv 0) fI) (fv 2)))))) (aH (aP fB)) aL)
  (aE (bD (PW.pt (dU (bX (bP (cW (T := "bool") T.n_isinstance T.n_bool (cO (fv 0) fI)))) (dU (bX (bP (cW (T := "list") T.n_isinstance T.n_list (cO (fv 0) fI)))) (pw_or1 (aU (kX hr.units) xF (cS T.n_len (cO (fv 0) fI)) fI))))) (aH (aP fB)) aL)
  (aH (aP (fW (cW (T := "list") T.n_isinstance T.n_list (cO (cO (fv 0) fI) fI)) (pe_one (cW (T := "list") T.n_isinstance T.n_list (cO (cO (fv 0) fI) fI))))))))))))))))
theorem tQ (T : Txt w K mg) : ∀ n, lO P w K mg base (3 + n + 1) "first_fault" ["block", "level", "many", "path", "met"] (spF K (dE n))
 | 0 => pI T.f_first_fault T.G_first_fault tF (fun _ _ _ _ _ _ us hl => match us, hl with | [_, _, _, _, _], _ => rfl)
 | n + 1 => by
  have ih_first_fault := tQ T n;exact fH (k := 3 + n + 1) T.f_first_fault T.G_first_fault tF (Runs.plain (n := 11) (np := 5)) (fun _ _ _ _ _ _ us hl => match us, hl with | [_, _, _, _, _], _ => rfl) fun _ _ _ _ _ _ hr tk nd => by
   unfold mI jQ fL;exact (aE (fV (t := (.tp [5, 6])) (passes_of rfl) rfl (pN (by rfl) T.n_enumerate (fv 0)) (pg_tup rfl (pgs_cons (pg_name (i := 5) nd rfl (.inl rfl)) (pgs_cons (pg_name (i := 6) nd rfl (.inl rfl)) pgs_nil))) (dJ [5, 6, 7, 8, 9, 10] (aE (aT (i := 7) nd rfl (.inl rfl) (cR bQ dC (fv 3) (bU (aA (fv 5) aF))))
  (aE (bD (PW.pt (dU (aU (bS hr.units) s_eq (fv 5) (ER T.i_MOST_IN_LIST)) (dU (aU (bS hr.units) s_eq (fv 4) (ER T.i_MOST_IN_PROCEDURE)) (pw_or1 (bX (bP (aN (Bb T) hr tk (aA (fv 6) (aA (fv 1) (aA (fv 2) aF))) (by omega)))))))) (aH (aP (bU (aA (fv 7) (aA (fv 4) aF))))) aL)
  (aE (Ja (k := 4) nd rfl (.inl rfl) fI)
  (aH (fV (t := (.tp [8, 9])) (passes_of rfl) rfl (pN (by rfl) T.n_enumerate (aN (rO T) hr tk (aA (fv 6) aF) (by omega))) (pg_tup rfl (pgs_cons (pg_name (i := 8) nd rfl (.inl rfl)) (pgs_cons (pg_name (i := 9) nd rfl (.inl rfl)) pgs_nil))) (dJ [8, 9, 10] (aE (Bw (t := (.tp [10, 4])) (aN ih_first_fault hr tk (aA (fv 9) (aA (cR bQ dC (fv 1) fI) (aA (fv 2) (aA (cR bQ dC (fv 7) (bU (aA (fv 8) aF))) (aA (fv 4) aF))))) (by omega)) (pg_tup rfl (pgs_cons (pg_name (i := 10) nd rfl (.inl rfl)) (pgs_cons (pg_name (i := 4) nd rfl (.inl rfl)) pgs_nil))))
  (aH (bD (aU qR zD (fv 10) fN) (aH (aP (bU (aA (fv 10) (aA (fv 4) aF))))) aL)))))))))))
  (aH (aP (bU (aA fN (aA (fv 4) aF))))))
theorem Cv (T : Txt w K mg) : ∀ n, lO P w K mg base (1 + n + 1) "placed" ["block", "path"] (spF K (eB n))
 | 0 => pI T.f_placed T.G_placed Cp (fun _ _ _ _ _ _ us hl => match us, hl with | [_, _], _ => rfl)
 | n + 1 => by
  have ih_placed := Cv T n;exact fH (k := 1 + n + 1) T.f_placed T.G_placed Cp (Runs.cut (n := 8) (np := 2)) (fun _ _ _ _ _ _ us hl => match us, hl with | [_, _], _ => rfl) fun _ _ _ _ _ _ hr tk nd => by
   unfold yI gD fT;exact (aE (aT (i := 2) nd rfl (.inl rfl) (bC aF))
  (aE (fV (t := (.tp [3, 4])) (passes_of rfl) rfl (pN (by rfl) T.n_enumerate (fv 0)) (pg_tup rfl (pgs_cons (pg_name (i := 3) nd rfl (.inl rfl)) (pgs_cons (pg_name (i := 4) nd rfl (.inl rfl)) pgs_nil))) (dJ [3, 4, 5, 6, 7] (aE (aT (i := 5) nd rfl (.inl rfl) (cR bQ dC (fv 1) (bU (aA (fv 3) aF))))
  (aE (iW (Fo (fv 2) (bU (aA (fv 5) (aA (fv 4) aF)))))
  (aH (fV (t := (.tp [6, 7])) (passes_of rfl) rfl (pN (by rfl) T.n_enumerate (aN (rO T) hr tk (aA (fv 4) aF) (by omega))) (pg_tup rfl (pgs_cons (pg_name (i := 6) nd rfl (.inl rfl)) (pgs_cons (pg_name (i := 7) nd rfl (.inl rfl)) pgs_nil))) (dJ [6, 7] (aH (aT (i := 2) nd rfl (.inl rfl) (cR bQ dC (fv 2) (aN ih_placed hr tk (aA (fv 7) (aA (cR bQ dC (fv 5) (bU (aA (fv 6) aF))) aF)) (by omega))))))))))))
  (aH (aP (AO (fv 2))))))
theorem ED (T : Txt w K mg) : OkMX P w K mg base 23 "Book" "__init__" ["self", "bodies"] (spF K kN) :=
 KW (k := 22) T.f_Book_init T.M_Book_init Dx (Runs.plain (n := 6) (np := 2)) (fun _ _ _ _ _ _ us hl => match us, hl with | [_, _], _ => rfl) fun _ _ _ _ _ _ hr tk nd => by
  unfold pW dP;exact (aE (bD (PW.pt (dU (bX (bP (cW (T := "list") T.n_isinstance T.n_list (fv 1)))) (pw_or1 (bX (Bv oN BN oN BN fI (cS T.n_len (fv 1)) (ER T.i_MOST_PROCEDURES)))))) (aH (zY (xa_NoBook T) hr tk (aA (nI fI) (aA (bU aF) aF)))) aL)
  (aE (fV (t := (.tp [2, 3])) (passes_of rfl) rfl (pN (by rfl) T.n_enumerate (fv 1)) (pg_tup rfl (pgs_cons (pg_name (i := 2) nd rfl (.inl rfl)) (pgs_cons (pg_name (i := 3) nd rfl (.inl rfl)) pgs_nil))) (dJ [2, 3, 4, 5] (aE (bD (bX (bP (cW (T := "list") T.n_isinstance T.n_list (fv 3)))) (aH (zY (xa_NoBook T) hr tk (aA (fv 2) (aA (bU aF) aF)))) aL)
  (aE (Bw (t := (.tp [4, 5])) (aN (tQ T 10) hr tk (aA (fv 3) (aA fI (aA (cS T.n_len (fv 1)) (aA (bU aF) (aA fI aF)))))) (pg_tup rfl (pgs_cons (pg_name (i := 4) nd rfl (.inl rfl)) (pgs_cons (pg_name (i := 5) nd rfl (.inl rfl)) pgs_nil))))
  (aH (bD (aU qR zD (fv 4) fN) (aH (zY (xa_NoBook T) hr tk (aA (fv 2) (aA (fv 4) aF)))) aL))))))
  (aH (OF T.c_Book T.a_Book_own (fv 0) (wG (own := [("body", 3)]) (t := (.nm 3)) rfl nd (hJ (fv 1)) (blkOk_by (own := [("body", 3)]) (N := ["self", "bodies", "procedure", "body", "fault", "met"]) (sc := defScope kF) (by decide +kernel)) (fun _ _ _ _ _ => (pg_name (i := 3) nd rfl (.inl rfl))) (fun _ _ _ _ _ => eR) (fun _ _ _ _ _ => (aN (Ac T 20) hr takes0 (aA (fv 3) aF))))))))
theorem AE (T : Txt w K mg) : OkMX P w K mg base 1 "Book" "__len__" ["self"] (spF K lU) :=
 KW (k := 0) T.f_Book_len T.M_Book_len F5 (Runs.plain (n := 1) (np := 1)) (fun _ _ _ _ _ _ us hl => match us, hl with | [_], _ => rfl) fun _ _ _ _ _ _ hr tk nd => by
  unfold sF;exact (aH (aP (cS T.n_len (P9 T.c_Book T.a_Book_own (fv 0)))))
theorem CZ (T : Txt w K mg) : OkMX P w K mg base 13 "Book" "calls" ["self"] (spF K nO) :=
 KW (k := 12) T.f_Book_calls T.M_Book_calls CV (Runs.cut (n := 6) (np := 1)) (fun _ _ _ _ _ _ us hl => match us, hl with | [_], _ => rfl) fun _ _ _ _ _ _ hr tk nd => by
  unfold oC hZ gB;exact (aE (aT (i := 1) nd rfl (.inl rfl) (bC aF))
  (aE (fV (t := (.tp [2, 3])) (passes_of rfl) rfl (pN (by rfl) T.n_enumerate (P9 T.c_Book T.a_Book_own (fv 0))) (pg_tup rfl (pgs_cons (pg_name (i := 2) nd rfl (.inl rfl)) (pgs_cons (pg_name (i := 3) nd rfl (.inl rfl)) pgs_nil))) (dJ [2, 3, 4, 5] (aH (fV (t := (.tp [4, 5])) (passes_of rfl) rfl (hJ (aN (Cv T 10) hr tk (aA (fv 3) (aA (bU aF) aF)))) (pg_tup rfl (pgs_cons (pg_name (i := 4) nd rfl (.inl rfl)) (pgs_cons (pg_name (i := 5) nd rfl (.inl rfl)) pgs_nil))) (dJ [4, 5] (aH (bD (aU (bS hr.units) s_eq (cO (fv 5) fI) fS) (aH (iW (Fo (fv 1) (bU (aA (fv 2) (aA (fv 4) aF)))))) aL)))))))
  (aH (aP (AO (fv 1))))))
theorem GX (T : Txt w K mg) : lO P w K mg base 3 "keys_of" ["book"] (spF K Cz) :=
 fH (k := 2) T.f_keys_of T.G_keys_of GP (Runs.plain (n := 3) (np := 1)) (fun _ _ _ _ _ _ us hl => match us, hl with | [_], _ => rfl) fun _ _ _ _ _ _ hr tk nd => by
  unfold DZ;exact (aH (aP (f_lc2 (own := [("procedure", 1), ("way", 2)]) (vs1 := [2]) (t := (.nm 1)) (t1 := (.nm 2)) rfl nd (gQ (by rfl) T.n_range (Lz T.n_len (AE T) hr (fv 0))) (blkOk_by (own := [("procedure", 1), ("way", 2)]) (N := ["book", "procedure", "way"]) (sc := defScope uQ) (by decide +kernel)) (by decide) (fun _ _ _ _ _ => (pg_name (i := 1) nd rfl (.inl rfl))) (fun _ _ _ _ _ => eR) (fun _ _ _ _ _ => (gQ (by rfl) T.n_range fI)) (fun _ _ _ _ _ => (pg_name (i := 2) nd rfl (.inl rfl))) (fun _ _ _ _ _ => eR) (fun _ _ _ _ _ => (bU (aA (fv 1) (aA (fv 2) aF)))))))
theorem FC (T : Txt w K mg) : lO P w K mg base 4 "is_table" ["book", "thing"] (spF K rS) :=
 fH (k := 3) T.f_is_table T.G_is_table F2 (Runs.plain (n := 4) (np := 2)) (fun _ _ _ _ _ _ us hl => match us, hl with | [_, _], _ => rfl) fun _ _ _ _ _ _ hr tk nd => by
  unfold rY xW;exact (aE (bD (bX (bP (cW (T := "dict") T.n_isinstance T.n_dict (fv 1)))) (aH (aP fB)) aL)
  (aE (aT (i := 2) nd rfl (.inl rfl) (aN (GX T) hr tk (aA (fv 0) aF)))
  (aE (bD (aU (kX hr.units) xF (cS T.n_len (fv 1)) (cS T.n_len (fv 2))) (aH (aP fB)) aL)
  (aH (aP (Fp T.n_all (wG (own := [("key", 3)]) (t := (.nm 3)) rfl nd (hJ (fv 2)) (blkOk_by (own := [("key", 3)]) (N := ["book", "thing", "keys", "key"]) (sc := defScope rK) (by decide +kernel)) (fun _ _ _ _ _ => (pg_name (i := 3) nd rfl (.inl rfl))) (fun _ _ _ _ _ => eR) (fun _ _ _ _ _ => (fW (jN (op_inD (AM hr)) KE (fv 3) (fv 1)) (pe_one (f_isC T.I_Space T.n_isinstance T.g_Space (cO (fv 1) (fv 3)))))))))))))
theorem Bc (T : Txt w K mg) : lO P w K mg base 5 "table_fault" ["book", "thing"] (spF K lY) :=
 fH (k := 4) T.f_table_fault T.G_table_fault BE (Runs.plain (n := 6) (np := 2)) (fun _ _ _ _ _ _ us hl => match us, hl with | [_, _], _ => rfl) fun _ _ _ _ _ _ hr tk nd => by
  unfold mG;exact (aE (bD (bX (bP (aN (FC T) hr tk (aA (fv 0) (aA (fv 1) aF))))) (aH (aP (bU (aA fS aF)))) aL)
  (aE jM
  (aH (aP fN))))
theorem KS (T : Txt w K mg) : lO P w K mg base 1 "whole" ["value"] (spF K xM) :=
 fH (k := 0) T.f_whole T.G_whole KC (Runs.plain (n := 1) (np := 1)) (fun _ _ _ _ _ _ us hl => match us, hl with | [_], _ => rfl) fun _ _ _ _ _ _ hr tk nd => by
  unfold yH;exact (aH (aP (fW (cW (T := "int") T.n_isinstance T.n_int (fv 0)) (pe_one (Lv (cW (T := "bool") T.n_isinstance T.n_bool (fv 0)))))))
theorem uS (T : Txt w K mg) : lO P w K mg base 2 "within" ["value", "bound"] (spF K jI) :=
 fH (k := 1) T.f_within T.G_within Ic (Runs.plain (n := 2) (np := 2)) (fun _ _ _ _ _ _ us hl => match us, hl with | [_, _], _ => rfl) fun _ _ _ _ _ _ hr tk nd => by
  unfold uN;exact (aH (aP (fW (aN (KS T) hr tk (aA (fv 0) aF)) (pe_one (ES oN BN kY xG fI (fv 0) (fv 1))))))
theorem Be (T : Txt w K mg) : lO P w K mg base 3 "is_variable" ["item", "procedures"] (spF K eT) :=
 fH (k := 2) T.f_is_variable T.G_is_variable BF (Runs.plain (n := 2) (np := 2)) (fun _ _ _ _ _ _ us hl => match us, hl with | [_, _], _ => rfl) fun _ _ _ _ _ _ hr tk nd => by
  unfold jO;exact (aE (bD (PW.pt (dU (bX (bP (cW (T := "tuple") T.n_isinstance T.n_tuple (fv 0)))) (pw_or1 (aU (kX hr.units) xF (cS T.n_len (fv 0)) fI)))) (aH (aP fB)) aL)
  (aH (aP (fW (aN (uS T) hr tk (aA (cO (fv 0) fI) (aA (fv 1) aF))) (pe_one (aN (uS T) hr tk (aA (cO (fv 0) fI) (aA fI aF))))))))
theorem zP (T : Txt w K mg) : lO P w K mg base 4 "are_variables" ["things", "procedures", "most"] (spF K gW) :=
 fH (k := 3) T.f_are_variables T.G_are_variables zC (Runs.plain (n := 4) (np := 3)) (fun _ _ _ _ _ _ us hl => match us, hl with | [_, _, _], _ => rfl) fun _ _ _ _ _ _ hr tk nd => by
  unfold gZ;exact (aE (bD (PW.pt (dU (bX (bP (cW (T := "list") T.n_isinstance T.n_list (fv 0)))) (pw_or1 (bX (Bv oN BN oN BN fI (cS T.n_len (fv 0)) (fv 2)))))) (aH (aP fB)) aL)
  (aH (aP (Fp T.n_all (wG (own := [("item", 3)]) (t := (.nm 3)) rfl nd (hJ (fv 0)) (blkOk_by (own := [("item", 3)]) (N := ["things", "procedures", "most", "item"]) (sc := defScope jR) (by decide +kernel)) (fun _ _ _ _ _ => (pg_name (i := 3) nd rfl (.inl rfl))) (fun _ _ _ _ _ => eR) (fun _ _ _ _ _ => (aN (Be T) hr takes0 (aA (fv 3) (aA (fv 1) aF)))))))))
theorem Bf (T : Txt w K mg) : lO P w K mg base 3 "is_side" ["things", "many"] (spF K oF) :=
 fH (k := 2) T.f_is_side T.G_is_side GQ (Runs.plain (n := 4) (np := 2)) (fun _ _ _ _ _ _ us hl => match us, hl with | [_, _], _ => rfl) fun _ _ _ _ _ _ hr tk nd => by
  unfold rC hX;exact (aE (bD (bX (bP (cW (T := "list") T.n_isinstance T.n_list (fv 0)))) (aH (aP fB)) aL)
  (aE (fV (t := (.tp [2, 3])) (passes_of rfl) rfl (pN (by rfl) T.n_enumerate (fv 0)) (pg_tup rfl (pgs_cons (pg_name (i := 2) nd rfl (.inl rfl)) (pgs_cons (pg_name (i := 3) nd rfl (.inl rfl)) pgs_nil))) (dJ [2, 3] (aH (bD (PW.pt (dU (bX (bP (aN (uS T) hr tk (aA (fv 3) (aA (fv 1) aF))))) (pw_or1 (aU (op_inD (AM hr)) KE (fv 3) (EO (fv 0) nW (nV (fv 2))))))) (aH (aP fB)) aL))))
  (aH (aP fB))))
theorem EC (T : Txt w K mg) : lO P w K mg base 3 "are_parts" ["things"] (spF K mT) :=
 fH (k := 2) T.f_are_parts T.G_are_parts Ds (Runs.plain (n := 3) (np := 1)) (fun _ _ _ _ _ _ us hl => match us, hl with | [_], _ => rfl) fun _ _ _ _ _ _ hr tk nd => by
  unfold mY eS;exact (aE (bD (PW.pt (dU (bX (bP (cW (T := "list") T.n_isinstance T.n_list (fv 0)))) (pw_or1 (bX (bP (fv 0)))))) (aH (aP fB)) aL)
  (aE (aT (i := 1) nd rfl (.inl rfl) fI)
  (aE (fV (t := (.nm 2)) (passes_of rfl) rfl (hJ (fv 0)) (pg_name (i := 2) nd rfl (.inl rfl)) (dJ [2] (aE (bD (PW.pt (dU (bX (bP (aN (uS T) hr tk (aA (fv 2) (aA fI aF))))) (pw_or1 (aU kY xG (fv 2) (fv 1))))) (aH (aP fB)) aL)
  (aH (aT (i := 1) nd rfl (.inl rfl) (cR bQ dC (fv 2) fI))))))
  (aH (aP fB)))))
theorem vI (T : Txt w K mg) : RR P w K mg base 5 "check_equation" ["book", "equation"] (spF K cL) :=
 okF2N (k := 4) T.f_check_equation_N T.G_check_equation_N vH (Runs.plain (n := 7) (np := 2)) (fun _ _ _ _ _ _ us hl => match us, hl with | [_, _], _ => rfl) fun _ _ _ _ _ _ hr tk nd => by
  unfold dZ dM;exact (aE (bD (PW.pt (dU (bX (bP (cW (T := "tuple") T.n_isinstance T.n_tuple (fv 1)))) (pw_or1 (aU (kX hr.units) xF (cS T.n_len (fv 1)) fI)))) (aH (lV (xa_NoEquation T) hr tk (aA fS aF))) aL)
  (aE (Bw (t := (.tp [2, 3, 4, 5])) (fv 1) (pg_tup rfl (pgs_cons (pg_name (i := 2) nd rfl (.inl rfl)) (pgs_cons (pg_name (i := 3) nd rfl (.inr rfl)) (pgs_cons (pg_name (i := 4) nd rfl (.inr rfl)) (pgs_cons (pg_name (i := 5) nd rfl (.inl rfl)) pgs_nil))))))
  (aE (bD (bX (bP (Av (zP T) hr (aA (fv 2) (aA (Lz T.n_len (AE T) hr (fv 0)) (aA fI aF)))))) (aH (lV (xa_NoEquation T) hr tk (aA fS aF))) aL)
  (aE (bD (bX (bP (Av (Bf T) hr (aA (fv 3) (aA (cS T.n_len (fv 2)) aF))))) (aH (lV (xa_NoEquation T) hr tk (aA fS aF))) aL)
  (aE (bD (bX (bP (Av (Bf T) hr (aA (fv 4) (aA (cS T.n_len (fv 2)) aF))))) (aH (lV (xa_NoEquation T) hr tk (aA fS aF))) aL)
  (aE (bD (bX (bP (Fp T.n_all (wG (own := [("k", 6)]) (t := (.nm 6)) rfl nd (gQ (by rfl) T.n_range (cS T.n_len (fv 2))) (blkOk_by (own := [("k", 6)]) (N := ["book", "equation", "variables", "left", "right", "parts", "k"]) (sc := defScope gG) (by decide +kernel)) (fun _ _ _ _ _ => (pg_name (i := 6) nd rfl (.inl rfl))) (fun _ _ _ _ _ => eR) (fun _ _ _ _ _ => (fe_or (jN (op_inD (AM hr)) KE (fv 6) (fv 3)) (pe_one (jN (op_inD (AM hr)) KE (fv 6) (fv 4))))))))) (aH (lV (xa_NoEquation T) hr tk (aA fS aF))) aL)
  (aH (bD (bX (bP (Av (EC T) hr (aA (fv 5) aF)))) (aH (lV (xa_NoEquation T) hr tk (aA fS aF))) aL))))))))
theorem mR (T : Txt w K mg) : lO P w K mg base 6 "check_equations" ["book", "equations"] (spF K dX) :=
 fH (k := 5) T.f_check_equations_4 T.G_check_equations_4 tG (Runs.plain (n := 4) (np := 2)) (fun _ _ _ _ _ _ us hl => match us, hl with | [_, _], _ => rfl) fun _ _ _ _ _ _ hr tk nd => by
  unfold eM cM;exact (aE (bD (bX (bP (cW (T := "list") T.n_isinstance T.n_list (fv 1)))) (aH (DI (xa_NoEquations T) hr tk (aA (nI fI) aF))) aL)
  (aH (fV (t := (.tp [2, 3])) (passes_of rfl) rfl (pN (by rfl) T.n_enumerate (fv 1)) (pg_tup rfl (pgs_cons (pg_name (i := 2) nd rfl (.inl rfl)) (pgs_cons (pg_name (i := 3) nd rfl (.inl rfl)) pgs_nil))) (dJ [2, 3] (aH (OC T.xm T.g_NoEquation rfl rfl (L2H.passesAt_of rfl) tk (fun W pn xe tkn po => (aH (iW (M4 (vI T) hr tkn (aA (fv 0) (aA (fv 3) aF)))))) (fun a pn tks hot => (pss_one (HG (Ay T) hr hot tks (aA (fv 2) aF))))))))))
theorem Bh (T : Txt w K mg) : lO P w K mg base 7 "holds_fault" ["book", "equations", "thing"] (spF K fU) :=
 fH (k := 6) T.f_holds_fault T.G_holds_fault BH (Runs.plain (n := 9) (np := 3)) (fun _ _ _ _ _ _ us hl => match us, hl with | [_, _, _], _ => rfl) fun _ _ _ _ _ _ hr tk nd => by
  unfold jP;exact (aE (iW (aN (mR T) hr tk (aA (fv 0) (aA (fv 1) aF))))
  (aE (aT (i := 3) nd rfl (.inl rfl) (aN (Bc T) hr tk (aA (fv 0) (aA (fv 2) aF))))
  (aE (bD (aU qR zD (fv 3) fN) (aH (aP (fv 3))) aL)
  (aE jM
  (aH (aP fN))))))
theorem Ad (T : Txt w K mg) : lO P w K mg base 1 "call_choices" ["calls"] (spF K tT) :=
 fH (k := 0) T.f_call_choices T.G_call_choices Aa (Runs.cut (n := 6) (np := 1)) (fun _ _ _ _ _ _ us hl => match us, hl with | [_], _ => rfl) fun _ _ _ _ _ _ hr tk nd => by
  unfold uO qW qN;exact (aE (aT (i := 1) nd rfl (.inr rfl) (cS T.n_len (fv 0)))
  (aE (aT (i := 2) nd rfl (.inl rfl) (bC (aA (bC aF) aF)))
  (aE (aT (i := 3) nd rfl (.inl rfl) (bC aF))
  (aE (Lm (k := 1000000) (passes_of rfl) (bP (fv 2)) (aE (iW (RJ (fv 3) (fv 2)))
  (aH (JZ (i := 2) (own := [("row", 4), ("at", 5)]) (vs1 := [5]) (t := (.nm 4)) (t1 := (.nm 5)) rfl nd rfl rfl (sw_true rfl rfl rfl (by decide +kernel)) (hJ (fv 2)) (blkOk_by (own := [("row", 4), ("at", 5)]) (N := ["calls", "many", "level", "positions", "row", "at"]) (sc := defScope iB) (by decide +kernel)) (by decide) (fun _ _ _ _ _ => (pg_name (i := 4) nd rfl (.inl rfl))) (fun _ _ _ _ _ => eR) (fun _ _ _ _ _ => (gQ (by rfl) T.n_range (fv 1))) (fun _ _ _ _ _ => (pg_name (i := 5) nd rfl (.inl rfl))) (fun _ _ _ _ _ => (OA (PW.pt (dU (bX (bP (fv 4))) (pw_or1 (aU lS zF (fv 5) (cO (fv 4) (nI fI)))))))) (fun _ _ _ _ _ => (cR bQ dC (fv 4) (bC (aA (fv 5) aF))))))))
  (aH (aP (wG (own := [("row", 4)]) (t := (.nm 4)) rfl nd (hJ (AO (fv 3))) (blkOk_by (own := [("row", 4)]) (N := ["calls", "many", "level", "positions", "row", "at"]) (sc := defScope iB) (by decide +kernel)) (fun _ _ _ _ _ => (pg_name (i := 4) nd rfl (.inl rfl))) (fun _ _ _ _ _ => eR) (fun _ _ _ _ _ => (wG (own := [("at", 5)]) (t := (.nm 5)) rfl nd (hJ (fv 4)) (blkOk_by (own := [("at", 5)]) (N := ["calls", "many", "level", "positions", "row", "at"]) (by kernel_rfl)) (fun _ _ _ _ _ => (pg_name (i := 5) nd rfl (.inl rfl))) (fun _ _ _ _ _ => eR) (fun _ _ _ _ _ => (cO (fv 0) (fv 5))))))))))))
theorem oO (T : Txt w K mg) : lO P w K mg base 14 "checked_calls" ["book", "equations"] (spF K eG) :=
 fH (k := 13) T.f_checked_calls_4 T.G_checked_calls_4 vX (Runs.plain (n := 3) (np := 2)) (fun _ _ _ _ _ _ us hl => match us, hl with | [_, _], _ => rfl) fun _ _ _ _ _ _ hr tk nd => by
  unfold fQ;exact (aE (iW (aN (mR T) hr tk (aA (fv 0) (aA (fv 1) aF))))
  (aE (aT (i := 2) nd rfl (.inl rfl) (OH (CZ T) hr tk T.c_Book (fv 0)))
  (aE (bD (aU lS zF (cS T.n_len (fv 2)) fI) (aH (DI (xa_TooMany T) hr tk (aA (cS T.n_len (fv 2)) aF))) aL)
  (aH (aP (fv 2))))))
theorem xK (T : Txt w K mg) : lO P w K mg base 15 "fewest_saves" ["book", "equations"] (spF K eY) :=
 fH (k := 14) T.f_fewest_saves_4 T.G_fewest_saves_4 xD (Runs.cut (n := 5) (np := 2)) (fun _ _ _ _ _ _ us hl => match us, hl with | [_, _], _ => rfl) fun _ _ _ _ _ _ hr tk nd => by
  unfold iY oH;exact (aE (aT (i := 2) nd rfl (.inl rfl) (bC aF))
  (aE (fV (t := (.nm 3)) (passes_of rfl) rfl (hJ (aN (Ad T) hr tk (aA (aN (oO T) hr tk (aA (fv 0) (aA (fv 1) aF))) aF))) (pg_name (i := 3) nd rfl (.inl rfl)) (dJ [3, 4] (aE jM
  (aE jM
  (aH jM)))))
  (aH (aP (bU (aA fS (aA (AO (fv 2)) aF)))))))
theorem Bg (T : Txt w K mg) : lO P w K mg base 1 "is_result" ["thing"] (spF K lZ) :=
 fH (k := 0) T.f_is_result_2 T.G_is_result_2 BG (Runs.plain (n := 1) (np := 1)) (fun _ _ _ _ _ _ us hl => match us, hl with | [_], _ => rfl) fun _ _ _ _ _ _ hr tk nd => by
  unfold mH;exact (aE (bD (PW.pt (dU (bX (bP (cW (T := "tuple") T.n_isinstance T.n_tuple (fv 0)))) (pw_or1 (aU (op_notInD (AM hr)) Dz (cS T.n_len (fv 0)) (bU (aA fI (aA fI aF))))))) (aH (aP fB)) aL)
  (aE (bD (PW.pt (dU (bX (bP (cW (T := "str") T.n_isinstance T.n_str (cO (fv 0) fI)))) (pw_or1 (bX (bP (cW (T := "list") T.n_isinstance T.n_list (cO (fv 0) (nI fI)))))))) (aH (aP fB)) aL)
  (aE (bD (aU (bS hr.units) s_eq (cS T.n_len (fv 0)) fI) (aH (aP (jN (bS hr.units) s_eq (cO (fv 0) fI) fS))) aL)
  (aH (aP (fW (jN (bS hr.units) s_eq (cO (fv 0) fI) fS) (pe_one (cW (T := "list") T.n_isinstance T.n_list (cO (fv 0) fI)))))))))
theorem zO (T : Txt w K mg) : lO P w K mg base 15 "saves_fault" ["book", "equations", "thing"] (spF K eJ) :=
 fH (k := 14) T.f_saves_fault_3 T.G_saves_fault_3 yZ (Runs.plain (n := 9) (np := 3)) (fun _ _ _ _ _ _ us hl => match us, hl with | [_, _, _], _ => rfl) fun _ _ _ _ _ _ hr tk nd => by
  unfold gY;exact (aE (aT (i := 3) nd rfl (.inl rfl) (aN (oO T) hr tk (aA (fv 0) (aA (fv 1) aF))))
  (aE (bD (bX (bP (aN (Bg T) hr tk (aA (fv 2) aF)))) (aH (aP (bU (aA fS aF)))) aL)
  (aE jM
  (aE jM
  (aE jM
  (aE (bD (aU (kX hr.units) xF (cS T.n_len (fv 5)) (cS T.n_len (fv 4))) (aH (aP (bU (aA fS aF)))) aL)
  (aE jM
  (aE jM
  (aH (aP fN))))))))))
theorem Iv (T : Txt w K mg) : lO P w K mg base 1 "_law_pool" ["_law_script"] (spF K xO) :=
 fH (k := 0) T.f_L_pool T.G_L_pool Ig (Runs.plain (n := 2) (np := 1)) (fun _ _ _ _ _ _ us hl => match us, hl with | [_], _ => rfl) fun _ _ _ _ _ _ hr tk nd => by
  unfold yK;exact (aH (aP (cR bQ dC (bC (aA fI aF)) (RF (wG (own := [("_law_cell", 1)]) (t := (.nm 1)) rfl nd (hJ (EO (fv 0) nW (nV fI))) (blkOk_by (own := [("_law_cell", 1)]) (N := ["_law_script", "_law_cell"]) (sc := defScope xH) (by decide +kernel)) (fun _ _ _ _ _ => (pg_name (i := 1) nd rfl (.inl rfl))) (fun _ _ _ _ _ => eR) (fun _ _ _ _ _ => (zZ T.n_int (fv 1)))) (pe_one (bC (aA fI aF)))))))
theorem bF (T : Txt w K mg) : lO P w K mg base 1 "_law_draw" ["_law_pool_here", "_law_many"] (spF K bA) :=
 fH (k := 0) T.f_L_draw T.G_L_draw Ii (Runs.plain (n := 5) (np := 2)) (fun _ _ _ _ _ _ us hl => match us, hl with | [_, _], _ => rfl) fun _ _ _ _ _ _ hr tk nd => by
  unfold yM;exact (aE (HH (fv 0) fI fI)
  (aE (aT (i := 2) nd rfl (.inl rfl) (cR bQ dC fI (cR lW vN (zZ T.n_int (cO (fv 0) fI)) (cR jS sN (cS T.n_len (fv 0)) fI))))
  (aE (aT (i := 3) nd rfl (.inl rfl) (zZ T.n_int (cO (fv 0) (fv 2))))
  (aE (bD (aU KR s_ge (fv 3) (cR Mw s_pow fI fI)) (aE (OE (cR qT zG (fv 3) (fv 1)) (fv 0) (fv 2))
  (aH (aP (cR lW vN (fv 3) (fv 1))))) aL)
  (aE (aT (i := 4) nd rfl (.inl rfl) (cR lW vN (cR xJ F7 (zZ T.n_int (cR bQ dC (cR bQ dC (fv 3) (cR xJ F7 fI (cO (fv 0) fI))) fI)) fI) fI))
  (aE (aT (i := 4) nd rfl (.inl rfl) (cR lW vN (cR xJ F7 (fv 4) (cR bQ dC (cR qT zG (fv 4) fI) fI)) fI))
  (aE (aT (i := 4) nd rfl (.inl rfl) (cR lW vN (cR xJ F7 (fv 4) (cR bQ dC (cR qT zG (fv 4) fI) fI)) fI))
  (aH (aP (cR lW vN (cR qT zG (fv 4) fI) (fv 1)))))))))))
theorem rR (T : Txt w K mg) : lO P w K mg base 2 "_law_command" ["_law_pool_here", "_law_mood"] (spF K iE) :=
 fH (k := 1) T.f_L_command T.G_L_command Dw (Runs.plain (n := 6) (np := 2)) (fun _ _ _ _ _ _ us hl => match us, hl with | [_, _], _ => rfl) fun _ _ _ _ _ _ hr tk nd => by
  unfold pV;exact (aE (aT (i := 2) nd rfl (.inl rfl) (bC (aA (bC (aA fI (aA fI (aA fI (aA fI (aA fI aF)))))) (aA (bC (aA fI (aA fI (aA fI (aA fI (aA fI aF)))))) (aA (bC (aA fI (aA fI (aA fI (aA fI (aA fI aF)))))) (aA (bC (aA fI (aA fI (aA fI (aA fI (aA fI aF)))))) (aA (bC (aA fI (aA fI (aA fI (aA fI (aA fI aF)))))) aF)))))))
  (aE (aT (i := 2) nd rfl (.inl rfl) (cR bQ dC (fv 2) (bC (aA (bC (aA fI (aA fI (aA fI (aA fI (aA fI (aA fI (aA fI (aA fI (aA fI aF)))))))))) (aA (bC (aA fI (aA fI (aA fI (aA fI (aA fI aF)))))) (aA (bC (aA fI (aA fI (aA fI (aA fI (aA fI aF)))))) aF))))))
  (aE (aT (i := 3) nd rfl (.inl rfl) (cO (fv 2) (fv 1)))
  (aE (aT (i := 4) nd rfl (.inl rfl) (cO (fv 3) (aN (bF T) hr tk (aA (fv 0) (aA (cS T.n_len (fv 3)) aF)))))
  (aE (bD (aU (bS hr.units) s_eq (fv 4) fI) (aE (aT (i := 5) nd rfl (.inl rfl) (cR jS sN (aN (bF T) hr tk (aA (fv 0) (aA fI aF))) fI))
  (aH (aP (bU (aA fS (aA (cO (bC (aA (fv 5) (aA fI (aA (cR jS sN (cR lW vN (zZ T.n_int (fv 5)) fI) fI) (aA fI aF))))) (aN (bF T) hr tk (aA (fv 0) (aA fI aF)))) aF)))))) aL)
  (aE (bD (aU (bS hr.units) s_eq (fv 4) fI) (aH (aP (bU (aA fS (aA (cR bQ dC fI (aN (bF T) hr tk (aA (fv 0) (aA fI aF)))) aF))))) aL)
  (aE (bD (aU (bS hr.units) s_eq (fv 4) fI) (aH (aP (bU (aA fS aF)))) aL)
  (aE (bD (aU (bS hr.units) s_eq (fv 4) fI) (aH (aP (bU (aA fS (aA (cO (bU (aA (nI fI) (aA (nI fI) (aA (nI fI) (aA fI (aA fI (aA fI (aA fI (aA (nI fI) aF))))))))) (aN (bF T) hr tk (aA (fv 0) (aA fI aF)))) aF))))) aL)
  (aE (bD (aU kY xG (fv 4) fI) (aH (aP (bU (aA (cO (bU (aA fS (aA fS aF))) (cR jS sN (fv 4) fI)) (aA (cR jS sN (aN (bF T) hr tk (aA (fv 0) (aA fI aF))) fI) (aA (cR jS sN (aN (bF T) hr tk (aA (fv 0) (aA fI aF))) fI) aF)))))) aL)
  (aH (aP (bU (aA (cO (bU (aA fS (aA fS (aA fS aF)))) (cR jS sN (fv 4) fI)) aF)))))))))))))
theorem Cw (T : Txt w K mg) : lO P w K mg base 2 "_law_pair" ["_law_pool_here", "_law_mood"] (spF K qU) :=
 fH (k := 1) T.f_L_pair T.G_L_pair Ih (Runs.plain (n := 5) (np := 2)) (fun _ _ _ _ _ _ us hl => match us, hl with | [_, _], _ => rfl) fun _ _ _ _ _ _ hr tk nd => by
  unfold yL;exact (aE (aT (i := 2) nd rfl (.inl rfl) (cR bQ dC fI (aN (bF T) hr tk (aA (fv 0) (aA fI aF)))))
  (aE (aT (i := 3) nd rfl (.inl rfl) (aN (bF T) hr tk (aA (fv 0) (aA fI aF))))
  (aE (bD (aU (bS hr.units) s_eq (fv 1) fI) (aH (aT (i := 3) nd rfl (.inl rfl) (cR bQ dC fI (cR lW vN (fv 3) fI)))) aL)
  (aE (bD (aU (bS hr.units) s_eq (fv 1) fI) (aH (aT (i := 3) nd rfl (.inl rfl) fI)) aL)
  (aE (aT (i := 4) nd rfl (.inl rfl) (bC (aA (bC (aA (bU (aA fS (aA (fv 2) aF))) (aA (bU (aA fS (aA (nI (fv 2)) aF))) aF))) (aA (bC (aA (bU (aA fS (aA (fv 2) aF))) (aA (bU (aA fS (aA (cR jS sN fI (fv 2)) aF))) aF))) (aA (bC (aA (bU (aA fS aF)) (aA (bU (aA fS aF)) aF))) aF)))))
  (aH (aP (cO (cR bQ dC (fv 4) (bC (aA (bC (aA (bU (aA fS aF)) (aA (bU (aA fS aF)) aF))) aF))) (fv 3)))))))))
theorem AC (T : Txt w K mg) : ∀ n, (lO P w K mg base (2 + n + 1) "_law_block" ["_law_pool_here", "_law_mood", "_law_level", "_law_room", "_law_calls", "_law_low"] (spF K (uU n))) /\ (lO P w K mg base (2 + n + 1) "_law_piece" ["_law_pool_here", "_law_mood", "_law_level", "_law_room", "_law_calls", "_law_low"] (spF K (kK n)))
 | 0 => ⟨pI T.f_L_block T.G_L_block BK (fun _ _ _ _ _ _ us hl => match us, hl with | [_, _, _, _, _, _], _ => rfl), pI T.f_L_piece T.G_L_piece BJ (fun _ _ _ _ _ _ us hl => match us, hl with | [_, _, _, _, _, _], _ => rfl)⟩
 | n + 1 => by
  have ih := AC T n;have ih_L_block := ih.1;have ih_L_piece := ih.2;refine ⟨?_, ?_⟩
  ·exact fH (k := 2 + n + 1) T.f_L_block T.G_L_block BK (Runs.plain (n := 8) (np := 6)) (fun _ _ _ _ _ _ us hl => match us, hl with | [_, _, _, _, _, _], _ => rfl) fun _ _ _ _ _ _ hr tk nd => by
    unfold vE kE;exact (aE (aT (i := 6) nd rfl (.inl rfl) (bC aF))
  (aE (fV (t := (.nm 7)) (passes_of rfl) rfl (gQ (by rfl) T.n_range (aN (bF T) hr tk (aA (fv 0) (aA fI aF)) (by omega))) (pg_name (i := 7) nd rfl (.inl rfl)) (dJ [7] (aH (bD (aU lS zF (cO (fv 3) fI) fI) (aH (aT (i := 6) nd rfl (.inl rfl) (cR bQ dC (fv 6) (aN ih_L_piece hr tk (aA (fv 0) (aA (fv 1) (aA (fv 2) (aA (fv 3) (aA (fv 4) (aA (fv 5) aF)))))) (by omega))))) aL))))
  (aH (aP (fv 6)))))
  ·exact fH (k := 2 + n + 1) T.f_L_piece T.G_L_piece BJ (Runs.plain (n := 12) (np := 6)) (fun _ _ _ _ _ _ us hl => match us, hl with | [_, _, _, _, _, _], _ => rfl) fun _ _ _ _ _ _ hr tk nd => by
    unfold uZ;exact (aE (aT (i := 6) nd rfl (.inl rfl) (aN (bF T) hr tk (aA (fv 0) (aA fI aF)) (by omega)))
  (aE (bD (PW.pt (qJ (aU lS zF (fv 6) fI) (qJ (aU kY xG (fv 6) fI) (pw_and1 (aU lS zF (fv 2) fI))))) (aH (aT (i := 6) nd rfl (.inl rfl) (cR lW vN (fv 6) fI))) aL)
  (aE (bD (PW.pt (qJ (aU (bS hr.units) s_eq (fv 6) fI) (pw_and1 (aU kY xG (cO (fv 3) fI) fI)))) (aH (aT (i := 6) nd rfl (.inl rfl) fI)) aL)
  (aE (bD (PW.pt (qJ (aU lS zF (fv 6) fI) (qJ (aU kY xG (fv 6) fI) (pw_and1 (PW.pt (dU (aU kY xG (cO (fv 4) fI) fI) (pw_or1 (aU KR s_ge (fv 5) (cO (fv 4) fI))))))))) (aH (aT (i := 6) nd rfl (.inl rfl) fI)) aL)
  (aE (oR (fv 3) fI fI)
  (aE (bD (aU kY xG (fv 6) fI) (aH (aP (bC (aA (aN (rR T) hr tk (aA (fv 0) (aA (fv 1) aF)) (by omega)) aF)))) aL)
  (aE (bD (aU (bS hr.units) s_eq (fv 6) fI) (aE (oR (fv 3) fI fI)
  (aE (aT (i := 7) nd rfl (.inl rfl) (aN (Cw T) hr tk (aA (fv 0) (aA (fv 1) aF)) (by omega)))
  (aE (aT (i := 8) nd rfl (.inl rfl) (bC aF))
  (aE (bD (aU lS zF (cO (fv 3) fI) fI) (aH (aT (i := 8) nd rfl (.inl rfl) (aN ih_L_piece hr tk (aA (fv 0) (aA (fv 1) (aA (fv 2) (aA (fv 3) (aA (fv 4) (aA (fv 5) aF)))))) (by omega)))) aL)
  (aH (aP (cR bQ dC (cR bQ dC (EO (fv 7) nW (nV fI)) (fv 8)) (EO (fv 7) (nV fI) nW)))))))) aL)
  (aE (bD (aU kY xG (fv 6) fI) (aE (aT (i := 9) nd rfl (.inl rfl) (aN ih_L_block hr tk (aA (fv 0) (aA (fv 1) (aA (cR bQ dC (fv 2) fI) (aA (fv 3) (aA (fv 4) (aA fI aF)))))) (by omega)))
  (aH (aP (bC (aA (bU (aA fS (aA (fv 9) (aA (aN ih_L_block hr tk (aA (fv 0) (aA (fv 1) (aA (cR bQ dC (fv 2) fI) (aA (fv 3) (aA (fv 4) (aA (fv 5) aF)))))) (by omega)) aF)))) aF))))) aL)
  (aE (bD (aU (bS hr.units) s_eq (fv 6) fI) (aH (aP (bC (aA (bU (aA fS (aA (aN ih_L_block hr tk (aA (fv 0) (aA (fv 1) (aA (cR bQ dC (fv 2) fI) (aA (fv 3) (aA (fv 4) (aA fI aF)))))) (by omega)) aF))) aF)))) aL)
  (aE (bD (aU (bS hr.units) s_eq (fv 6) fI) (aH (aP (bC (aA (bU (aA fS (aA (aN ih_L_block hr tk (aA (fv 0) (aA (fv 1) (aA (cR bQ dC (fv 2) fI) (aA (fv 3) (aA (fv 4) (aA (fv 5) aF)))))) (by omega)) aF))) aF)))) aL)
  (aE (bD (aU lS zF (fv 6) fI) (aH (aP (bC (aA (bU (aA fS (aA (aN (bF T) hr tk (aA (fv 0) (aA fI aF)) (by omega)) aF))) aF)))) aL)
  (aE (oR (fv 4) fI fI)
  (aE (aT (i := 10) nd rfl (.inl rfl) (cR bQ dC (fv 5) (aN (bF T) hr tk (aA (fv 0) (aA (cR jS sN (cO (fv 4) fI) (fv 5)) aF)) (by omega))))
  (aE (aT (i := 11) nd rfl (.inl rfl) (jN (bS hr.units) s_eq (aN (bF T) hr tk (aA (fv 0) (aA fI aF)) (by omega)) fI))
  (aE (aT (i := 9) nd rfl (.inl rfl) (aN ih_L_block hr tk (aA (fv 0) (aA (fv 1) (aA (cR bQ dC (fv 2) fI) (aA (fv 3) (aA (fv 4) (aA (fv 5) aF)))))) (by omega)))
  (aH (aP (bC (aA (bU (aA fS (aA (fv 10) (aA (fv 11) (aA (bC (aA (fv 9) (aA (aN ih_L_block hr tk (aA (fv 0) (aA (fv 1) (aA (cR bQ dC (fv 2) fI) (aA (fv 3) (aA (fv 4) (aA (fv 5) aF)))))) (by omega)) aF))) aF))))) aF)))))))))))))))))))
theorem Ga (T : Txt w K mg) (n : Nat) : lO P w K mg base (2 + n + 1) "_law_piece" ["_law_pool_here", "_law_mood", "_law_level", "_law_room", "_law_calls", "_law_low"] (spF K (kK n)) := (AC T n).2
theorem FF (T : Txt w K mg) : lO P w K mg base 3 "_law_around" ["_law_pool_here", "_law_mood", "_law_room", "_law_calls"] (spF K rT) :=
 fH (k := 2) T.f_L_around T.G_L_around F3 (Runs.plain (n := 9) (np := 4)) (fun _ _ _ _ _ _ us hl => match us, hl with | [_, _, _, _], _ => rfl) fun _ _ _ _ _ _ hr tk nd => by
  unfold sE;exact (aE (oR (fv 2) fI fI)
  (aE (oR (fv 3) fI fI)
  (aE (aT (i := 4) nd rfl (.inl rfl) (aN (bF T) hr tk (aA (fv 0) (aA (cO (fv 3) fI) aF))))
  (aE (aT (i := 5) nd rfl (.inl rfl) (jN (bS hr.units) s_eq (aN (bF T) hr tk (aA (fv 0) (aA fI aF))) fI))
  (aE (aT (i := 6) nd rfl (.inl rfl) (aN (bF T) hr tk (aA (fv 0) (aA fI aF))))
  (aE (aT (i := 7) nd rfl (.inl rfl) (bC (aA (aN (rR T) hr tk (aA (fv 0) (aA (fv 1) aF))) (aA (aN (rR T) hr tk (aA (fv 0) (aA (fv 1) aF))) aF))))
  (aE (bD (aU (bS hr.units) s_eq (aN (bF T) hr tk (aA (fv 0) (aA fI aF))) fI) (aH (aT (i := 7) nd rfl (.inl rfl) (aN (Cw T) hr tk (aA (fv 0) (aA (fv 1) aF))))) aL)
  (aE (aT (i := 8) nd rfl (.inl rfl) (bC (aA (bC aF) (aA (bC (aA (cO (fv 7) fI) (aA (bU (aA fS (aA (fv 4) (aA (fv 5) (aA (bC (aA (bC aF) (aA (bC aF) aF))) aF))))) (aA (cO (fv 7) fI) aF)))) aF))))
  (aH (aP (bC (aA (bU (aA fS (aA (cO (fv 8) (fv 6)) (aA (cO (fv 8) (cR jS sN fI (fv 6))) aF)))) aF))))))))))))
theorem Iy (T : Txt w K mg) : lO P w K mg base 34 "_law_body" ["_law_pool_here", "_law_mood", "_law_room", "_law_calls", "_law_low"] (spF K tU) :=
 fH (k := 33) T.f_L_body T.G_L_body Ik (Runs.plain (n := 9) (np := 5)) (fun _ _ _ _ _ _ us hl => match us, hl with | [_, _, _, _, _], _ => rfl) fun _ _ _ _ _ _ hr tk nd => by
  unfold yO jT;exact (aE (aT (i := 5) nd rfl (.inl rfl) (aN (bF T) hr tk (aA (fv 0) (aA fI aF))))
  (aE (aT (i := 6) nd rfl (.inl rfl) (bC aF))
  (aE (bD (PW.pt (qJ (aU (bS hr.units) s_eq (aN (bF T) hr tk (aA (fv 0) (aA fI aF))) fI) (qJ (aU lS zF (cO (fv 2) fI) fI) (pw_and1 (aU lS zF (cO (fv 3) fI) fI))))) (aH (aT (i := 6) nd rfl (.inl rfl) (aN (FF T) hr tk (aA (fv 0) (aA (fv 1) (aA (fv 2) (aA (fv 3) aF))))))) aL)
  (aE (fV (t := (.nm 7)) (passes_of rfl) rfl (gQ (by rfl) T.n_range (cR bQ dC fI (aN (bF T) hr tk (aA (fv 0) (aA fI aF))))) (pg_name (i := 7) nd rfl (.inl rfl)) (dJ [7] (aH (bD (aU lS zF (cO (fv 2) fI) fI) (aH (aT (i := 6) nd rfl (.inl rfl) (cR bQ dC (fv 6) (aN (Ga T 30) hr tk (aA (fv 0) (aA (fv 1) (aA fI (aA (fv 2) (aA (fv 3) (aA (fv 4) aF)))))))))) aL))))
  (aE (aT (i := 8) nd rfl (.inl rfl) (bC (aA (bC (aA (bU (aA fS (aA (bC (aA (bU (aA fS (aA fI aF))) aF)) (aA (bC aF) aF)))) aF)) (aA (bC (aA (bU (aA fS (aA fI aF))) aF)) aF))))
  (aE (bD (PW.pt (dU (aU (bS hr.units) s_eq (fv 5) fI) (pw_or1 (aU (bS hr.units) s_eq (fv 5) fI)))) (aH (aP (cR bQ dC (fv 6) (cO (fv 8) (cR qT zG (fv 5) fI))))) aL)
  (aE (bD (aU (bS hr.units) s_eq (fv 5) fI) (aH (aP (cR bQ dC (cO (fv 8) fI) (fv 6)))) aL)
  (aH (aP (fv 6))))))))))
theorem Iw (T : Txt w K mg) : lO P w K mg base 35 "_law_book" ["_law_pool_here", "_law_most", "_law_size"] (spF K xP) :=
 fH (k := 34) T.f_L_book T.G_L_book Ij (Runs.cut (n := 11) (np := 3)) (fun _ _ _ _ _ _ us hl => match us, hl with | [_, _, _], _ => rfl) fun _ _ _ _ _ _ hr tk nd => by
  unfold yN lQ;exact (aE (aT (i := 3) nd rfl (.inl rfl) (aN (bF T) hr tk (aA (fv 0) (aA fI aF))))
  (aE (aT (i := 4) nd rfl (.inl rfl) (jN (bS hr.units) s_eq (aN (bF T) hr tk (aA (fv 0) (aA fI aF))) fI))
  (aE (aT (i := 5) nd rfl (.inl rfl) (cR bQ dC fI (aN (bF T) hr tk (aA (fv 0) (aA (fv 1) aF)))))
  (aE (aT (i := 6) nd rfl (.inl rfl) (bC (aA fI (aA (fv 5) aF))))
  (aE (aT (i := 7) nd rfl (.inl rfl) (bC aF))
  (aE (fV (t := (.nm 8)) (passes_of rfl) rfl (gQ (by rfl) T.n_range (fv 5)) (pg_name (i := 8) nd rfl (.inl rfl)) (dJ [8, 9, 10] (aE (aT (i := 9) nd rfl (.inl rfl) (bC (aA (cR jS sN (cR jS sN (fv 2) fI) (zZ T.n_int (jN lS zF (fv 5) fI))) aF)))
  (aE (aT (i := 10) nd rfl (.inl rfl) (cR bQ dC (fv 8) fI))
  (aE (bD (bP (fv 4)) (aH (aT (i := 10) nd rfl (.inl rfl) fI)) aL)
  (aH (iW (Fo (fv 7) (aN (Iy T) hr tk (aA (fv 0) (aA (fv 3) (aA (fv 9) (aA (fv 6) (aA (fv 10) aF))))))))))))))
  (aH (aP (AO (fv 7))))))))))
theorem kH (T : Txt w K mg) : ∀ n, lO P w K mg base (0 + n + 1) "_law_copied" ["_law_value"] (spF K (cF n))
 | 0 => pI T.f_L_copied T.G_L_copied AB (fun _ _ _ _ _ _ us hl => match us, hl with | [_], _ => rfl)
 | n + 1 => by
  have ih_L_copied := kH T n;exact fH (k := 0 + n + 1) T.f_L_copied T.G_L_copied AB (Runs.plain (n := 2) (np := 1)) (fun _ _ _ _ _ _ us hl => match us, hl with | [_], _ => rfl) fun _ _ _ _ _ _ hr tk nd => by
   unfold sD;exact (aE (bD (bP (cW (T := "list") T.n_isinstance T.n_list (fv 0))) (aH (aP (wG (own := [("_law_item", 1)]) (t := (.nm 1)) rfl nd (hJ (fv 0)) (blkOk_by (own := [("_law_item", 1)]) (N := ["_law_value", "_law_item"]) (sc := defScope oK) (by decide +kernel)) (fun _ _ _ _ _ => (pg_name (i := 1) nd rfl (.inl rfl))) (fun _ _ _ _ _ => eR) (fun _ _ _ _ _ => (aN ih_L_copied hr takes0 (aA (fv 1) aF) (by omega)))))) aL)
  (aE (bD (bP (cW (T := "tuple") T.n_isinstance T.n_tuple (fv 0))) (aH (aP (uX T.n_tuple (wG (own := [("_law_item", 1)]) (t := (.nm 1)) rfl nd (hJ (fv 0)) (blkOk_by (own := [("_law_item", 1)]) (N := ["_law_value", "_law_item"]) (sc := defScope oK) (by decide +kernel)) (fun _ _ _ _ _ => (pg_name (i := 1) nd rfl (.inl rfl))) (fun _ _ _ _ _ => eR) (fun _ _ _ _ _ => (aN ih_L_copied hr takes0 (aA (fv 1) aF) (by omega))))))) aL)
  (aH (aP (fv 0)))))
theorem mS (T : Txt w K mg) : ∀ n, lO P w K mg base (0 + n + 1) "_law_same" ["_law_one", "_law_other"] (spF K (gJ n))
 | 0 => pI T.f_L_same_2 T.G_L_same_2 AA (fun _ _ _ _ _ _ us hl => match us, hl with | [_, _], _ => rfl)
 | n + 1 => by
  have ih_L_same_2 := mS T n;exact fH (k := 0 + n + 1) T.f_L_same_2 T.G_L_same_2 AA (Runs.plain (n := 3) (np := 2)) (fun _ _ _ _ _ _ us hl => match us, hl with | [_, _], _ => rfl) fun _ _ _ _ _ _ hr tk nd => by
   unfold rZ nX;exact (aE (bD (bP (M0 (T := "list") (U := "tuple") T.n_isinstance T.n_list T.n_tuple (fv 1))) (aE (bD (PW.pt (dU (bX (bP (M0 (T := "list") (U := "tuple") T.n_isinstance T.n_list T.n_tuple (fv 0)))) (pw_or1 (aU (kX hr.units) xF (cW (T := "list") T.n_isinstance T.n_list (fv 0)) (cW (T := "list") T.n_isinstance T.n_list (fv 1)))))) (aH (aP fB)) aL)
  (aH (aP (fW (jN (bS hr.units) s_eq (cS T.n_len (fv 0)) (cS T.n_len (fv 1))) (pe_one (Fp T.n_all (wG (own := [("_law_k", 2)]) (t := (.nm 2)) rfl nd (gQ (by rfl) T.n_range (cS T.n_len (fv 1))) (blkOk_by (own := [("_law_k", 2)]) (N := ["_law_one", "_law_other", "_law_k"]) (sc := defScope rM) (by decide +kernel)) (fun _ _ _ _ _ => (pg_name (i := 2) nd rfl (.inl rfl))) (fun _ _ _ _ _ => eR) (fun _ _ _ _ _ => (aN ih_L_same_2 hr takes0 (aA (cO (fv 0) (fv 2)) (aA (cO (fv 1) (fv 2)) aF)) (by omega)))))))))) aL)
  (aE (bD (PW.pt (dU (bP (cW (T := "bool") T.n_isinstance T.n_bool (fv 0))) (pw_or1 (bP (cW (T := "bool") T.n_isinstance T.n_bool (fv 1)))))) (aH (aP (fW (cW (T := "bool") T.n_isinstance T.n_bool (fv 0)) (fW (cW (T := "bool") T.n_isinstance T.n_bool (fv 1)) (pe_one (jN (bS hr.units) s_eq (fv 0) (fv 1))))))) aL)
  (aE (bD (bP (cW (T := "int") T.n_isinstance T.n_int (fv 1))) (aH (aP (fW (cW (T := "int") T.n_isinstance T.n_int (fv 0)) (pe_one (jN (bS hr.units) s_eq (fv 0) (fv 1)))))) aL)
  (aE (bD (bP (cW (T := "str") T.n_isinstance T.n_str (fv 1))) (aH (aP (fW (cW (T := "str") T.n_isinstance T.n_str (fv 0)) (pe_one (jN (bS hr.units) s_eq (fv 0) (fv 1)))))) aL)
  (aH (aP (fW (jN Ap Hi (fv 0) fN) (pe_one (jN Ap Hi (fv 1) fN)))))))))
theorem CY (T : Txt w K mg) : lO P w K mg base 2 "_law_equation" ["_law_pool_here", "_law_keys", "_law_most"] (spF K kZ) :=
 fH (k := 1) T.f_L_equation T.G_L_equation CT (Runs.cut (n := 10) (np := 3)) (fun _ _ _ _ _ _ us hl => match us, hl with | [_, _, _], _ => rfl) fun _ _ _ _ _ _ hr tk nd => by
  unfold nZ hY;exact (aE (aT (i := 3) nd rfl (.inl rfl) (bC aF))
  (aE (aT (i := 4) nd rfl (.inl rfl) (bC aF))
  (aE (aT (i := 5) nd rfl (.inl rfl) (bC aF))
  (aE (aT (i := 6) nd rfl (.inl rfl) (bC (aA (bC (aA fI aF)) (aA (bC (aA fI aF)) (aA (bC (aA fI aF)) (aA (bC (aA fI (aA fI aF))) (aA (bC (aA fI (aA fI aF))) (aA (bC (aA fI (aA fI aF))) (aA (bC (aA fI (aA fI (aA fI aF)))) (aA (bC (aA fI (aA fI (aA fI aF)))) aF))))))))))
  (aE (aT (i := 7) nd rfl (.inl rfl) (cO (fv 6) (aN (bF T) hr tk (aA (fv 0) (aA fI aF)))))
  (aE (fV (t := (.nm 8)) (passes_of rfl) rfl (gQ (by rfl) T.n_range (cR bQ dC fI (aN (bF T) hr tk (aA (fv 0) (aA (fv 2) aF))))) (pg_name (i := 8) nd rfl (.inl rfl)) (dJ [8, 9] (aE (iW (Fo (fv 3) (cO (fv 1) (aN (bF T) hr tk (aA (fv 0) (aA (cS T.n_len (fv 1)) aF))))))
  (aE (aT (i := 9) nd rfl (.inl rfl) (aN (bF T) hr tk (aA (fv 0) (aA fI aF))))
  (aE (bD (aU (kX hr.units) xF (fv 9) fI) (aH (iW (M3 (fv 4) (aN (bF T) hr tk (aA (fv 0) (aA (cR bQ dC (cS T.n_len (fv 4)) fI) aF))) (fv 8)))) aL)
  (aH (bD (aU (kX hr.units) xF (fv 9) fI) (aH (iW (M3 (fv 5) (aN (bF T) hr tk (aA (fv 0) (aA (cR bQ dC (cS T.n_len (fv 5)) fI) aF))) (fv 8)))) aL)))))))
  (aH (aP (bU (aA (AO (fv 3)) (aA (AO (fv 4)) (aA (AO (fv 5)) (aA (fv 7) aF)))))))))))))
theorem rQ (T : Txt w K mg) : lO P w K mg base 1 "_law_integer" ["_law_thing", "_law_bound"] (spF K kM) :=
 fH (k := 0) T.f_L_integer T.G_L_integer Du (Runs.plain (n := 2) (np := 2)) (fun _ _ _ _ _ _ us hl => match us, hl with | [_, _], _ => rfl) fun _ _ _ _ _ _ hr tk nd => by
  unfold pU;exact (aE (bD (PW.pt (dU (bX (bP (cW (T := "int") T.n_isinstance T.n_int (fv 0)))) (pw_or1 (bP (cW (T := "bool") T.n_isinstance T.n_bool (fv 0)))))) (aH (aP fB)) aL)
  (aH (aP (fW (jN oN BN fI (fv 0)) (pe_one (jN kY xG (fv 0) (fv 1)))))))
theorem rP (T : Txt w K mg) : lO P w K mg base 2 "_law_list_of" ["_law_thing", "_law_bound"] (spF K kL) :=
 fH (k := 1) T.f_L_list_of T.G_L_list_of Dt (Runs.plain (n := 3) (np := 2)) (fun _ _ _ _ _ _ us hl => match us, hl with | [_, _], _ => rfl) fun _ _ _ _ _ _ hr tk nd => by
  unfold pT jF;exact (aE (bD (bX (bP (cW (T := "list") T.n_isinstance T.n_list (fv 0)))) (aH (aP fB)) aL)
  (aE (fV (t := (.nm 2)) (passes_of rfl) rfl (gQ (by rfl) T.n_range (cS T.n_len (fv 0))) (pg_name (i := 2) nd rfl (.inl rfl)) (dJ [2] (aH (bD (PW.pt (dU (bX (bP (aN (rQ T) hr tk (aA (cO (fv 0) (fv 2)) (aA (fv 1) aF))))) (pw_or1 (aU (op_inD (AM hr)) KE (cO (fv 0) (fv 2)) (EO (fv 0) nW (nV (fv 2))))))) (aH (aP fB)) aL))))
  (aH (aP fB))))
theorem GZ (T : Txt w K mg) : lO P w K mg base 3 "_law_place" ["_law_equation_here", "_law_procedures"] (spF K kJ) :=
 fH (k := 2) T.f_L_place T.G_L_place GT (Runs.plain (n := 8) (np := 2)) (fun _ _ _ _ _ _ us hl => match us, hl with | [_, _], _ => rfl) fun _ _ _ _ _ _ hr tk nd => by
  unfold rD kD mN;exact (aE (bD (PW.pt (dU (bX (bP (cW (T := "tuple") T.n_isinstance T.n_tuple (fv 0)))) (pw_or1 (aU (kX hr.units) xF (cS T.n_len (fv 0)) fI)))) (aH (aP fS)) aL)
  (aE (Bw (t := (.tp [2, 3, 4, 5])) (fv 0) (pg_tup rfl (pgs_cons (pg_name (i := 2) nd rfl (.inl rfl)) (pgs_cons (pg_name (i := 3) nd rfl (.inl rfl)) (pgs_cons (pg_name (i := 4) nd rfl (.inl rfl)) (pgs_cons (pg_name (i := 5) nd rfl (.inl rfl)) pgs_nil))))))
  (aE (bD (PW.pt (dU (bX (bP (cW (T := "list") T.n_isinstance T.n_list (fv 2)))) (dU (aU kY xG (cS T.n_len (fv 2)) fI) (pw_or1 (aU lS zF (cS T.n_len (fv 2)) fI))))) (aH (aP fS)) aL)
  (aE (fV (t := (.nm 6)) (passes_of rfl) rfl (hJ (fv 2)) (pg_name (i := 6) nd rfl (.inl rfl)) (dJ [6] (aE (bD (PW.pt (dU (bX (bP (cW (T := "tuple") T.n_isinstance T.n_tuple (fv 6)))) (pw_or1 (aU (kX hr.units) xF (cS T.n_len (fv 6)) fI)))) (aH (aP fS)) aL)
  (aH (bD (PW.pt (dU (bX (bP (aN (rQ T) hr tk (aA (cO (fv 6) fI) (aA (fv 1) aF))))) (pw_or1 (bX (bP (aN (rQ T) hr tk (aA (cO (fv 6) fI) (aA fI aF)))))))) (aH (aP fS)) aL)))))
  (aE (bD (bX (bP (aN (rP T) hr tk (aA (fv 3) (aA (cS T.n_len (fv 2)) aF))))) (aH (aP fS)) aL)
  (aE (bD (bX (bP (aN (rP T) hr tk (aA (fv 4) (aA (cS T.n_len (fv 2)) aF))))) (aH (aP fS)) aL)
  (aE (fV (t := (.nm 7)) (passes_of rfl) rfl (gQ (by rfl) T.n_range (cS T.n_len (fv 2))) (pg_name (i := 7) nd rfl (.inl rfl)) (dJ [7] (aH (bD (PW.pt (qJ (aU (op_notInD (AM hr)) Dz (fv 7) (fv 3)) (pw_and1 (aU (op_notInD (AM hr)) Dz (fv 7) (fv 4))))) (aH (aP fS)) aL))))
  (aE (bD (PW.pt (dU (bX (bP (aN (rP T) hr tk (aA (fv 5) (aA fI aF))))) (dU (aU kY xG (cS T.n_len (fv 5)) fI) (pw_or1 (aU (kX hr.units) xF (fv 5) (Ly T.n_sorted (fv 5))))))) (aH (aP fS)) aL)
  (aH (aP fN))))))))))
theorem Gc (T : Txt w K mg) : lO P w K mg base 12 "_law_odd" ["_law_pool_here"] (spF K uT) :=
 fH (k := 11) T.f_L_odd_2 T.G_L_odd_2 GV (Runs.plain (n := 2) (np := 1)) (fun _ _ _ _ _ _ us hl => match us, hl with | [_], _ => rfl) fun _ _ _ _ _ _ hr tk nd => by
  unfold vD;exact (aE (aT (i := 1) nd rfl (.inl rfl) (bC (aA fN (aA fB (aA fI (aA (nI fI) (aA fI (aA fS (aA (bU aF) (aA (bC aF) (aA (bC (aA fI (aA fI aF))) (aA (bC (aA fI (aA fI aF))) (aA (bC (aA fB aF)) (aA (bC (aA fI (aA fI aF))) (aA (bC (aA (bC (aA fI aF)) aF)) (aA (bU (aA fI (aA fI aF))) (aA (bC (aA fI (aA fS aF))) aF)))))))))))))))))
  (aE (aT (i := 1) nd rfl (.inl rfl) (cR bQ dC (fv 1) (bC (aA (bC (aA fI (aA (nI fI) aF))) (aA (bC (aA fI (aA fI aF))) (aA (bC (aA fB (aA fI aF))) (aA (bC (aA (bU (aA fI (aA fI aF))) aF)) (aA (bC (aA (bU (aA fI (aA fI aF))) aF)) (aA (bC (aA (bU (aA fI (aA fI aF))) aF)) (aA (bC (aA (bU (aA fI (aA fB aF))) aF)) (aA (bC (aA (bC (aA fI (aA fI aF))) aF)) (aA (bC (aA (bU (aA fI (aA fI (aA fI aF)))) aF)) aF))))))))))))
  (aH (aP (aN (kH T 10) hr tk (aA (cO (fv 1) (aN (bF T) hr tk (aA (fv 0) (aA (cS T.n_len (fv 1)) aF)))) aF))))))
theorem vO (T : Txt w K mg) : lO P w K mg base 12 "_law_copied" ["_law_value"] (spF K fP) :=
 fH (k := 11) T.f_L_copied_c T.G_L_copied_c CU (Runs.plain (n := 2) (np := 1)) (fun _ _ _ _ _ _ us hl => match us, hl with | [_], _ => rfl) fun _ _ _ _ _ _ hr tk nd => by
  unfold lK;exact (aE (bD (bP (cW (T := "list") T.n_isinstance T.n_list (fv 0))) (aH (aP (wG (own := [("_law_item", 1)]) (t := (.nm 1)) rfl nd (hJ (fv 0)) (blkOk_by (own := [("_law_item", 1)]) (N := ["_law_value", "_law_item"]) (sc := defScope kT) (by decide +kernel)) (fun _ _ _ _ _ => (pg_name (i := 1) nd rfl (.inl rfl))) (fun _ _ _ _ _ => eR) (fun _ _ _ _ _ => (aN (kH T 10) hr takes0 (aA (fv 1) aF)))))) aL)
  (aE (bD (bP (cW (T := "tuple") T.n_isinstance T.n_tuple (fv 0))) (aH (aP (uX T.n_tuple (wG (own := [("_law_item", 1)]) (t := (.nm 1)) rfl nd (hJ (fv 0)) (blkOk_by (own := [("_law_item", 1)]) (N := ["_law_value", "_law_item"]) (sc := defScope kT) (by decide +kernel)) (fun _ _ _ _ _ => (pg_name (i := 1) nd rfl (.inl rfl))) (fun _ _ _ _ _ => eR) (fun _ _ _ _ _ => (aN (kH T 10) hr takes0 (aA (fv 1) aF))))))) aL)
  (aH (aP (fv 0)))))
theorem Gb (T : Txt w K mg) : lO P w K mg base 13 "_law_odd" ["_law_pool_here"] (spF K oG) :=
 fH (k := 12) T.f_L_odd_c T.G_L_odd_c GU (Runs.plain (n := 2) (np := 1)) (fun _ _ _ _ _ _ us hl => match us, hl with | [_], _ => rfl) fun _ _ _ _ _ _ hr tk nd => by
  unfold vC;exact (aE (aT (i := 1) nd rfl (.inl rfl) (bC (aA fN (aA fB (aA fI (aA (nI fI) (aA fI (aA fS (aA (bU aF) (aA (bC aF) (aA (bC (aA fI (aA fI aF))) (aA (bC (aA fI (aA fI aF))) (aA (bC (aA fB aF)) (aA (bC (aA fI (aA fI aF))) (aA (bC (aA (bC (aA fI aF)) aF)) (aA (bU (aA fI (aA fI aF))) (aA (bC (aA fI (aA fS aF))) aF)))))))))))))))))
  (aE (aT (i := 1) nd rfl (.inl rfl) (cR bQ dC (fv 1) (bC (aA (bC (aA fI (aA (nI fI) aF))) (aA (bC (aA fI (aA fI aF))) (aA (bC (aA fB (aA fI aF))) (aA (bC (aA (bU (aA fI (aA fI aF))) aF)) (aA (bC (aA (bU (aA fI (aA fI aF))) aF)) (aA (bC (aA (bU (aA fI (aA fI aF))) aF)) (aA (bC (aA (bU (aA fI (aA fB aF))) aF)) (aA (bC (aA (bC (aA fI (aA fI aF))) aF)) (aA (bC (aA (bU (aA fI (aA fI (aA fI aF)))) aF)) aF))))))))))))
  (aH (aP (aN (vO T) hr tk (aA (cO (fv 1) (aN (bF T) hr tk (aA (fv 0) (aA (cS T.n_len (fv 1)) aF)))) aF))))))
theorem Bi (T : Txt w K mg) : lO P w K mg base 14 "_law_spoiled" ["_law_pool_here", "_law_equation_here"] (spF K jK) :=
 fH (k := 13) T.f_L_spoiled_4 T.G_L_spoiled_4 BI (Runs.cut (n := 8) (np := 2)) (fun _ _ _ _ _ _ us hl => match us, hl with | [_, _], _ => rfl) fun _ _ _ _ _ _ hr tk nd => by
  unfold mJ gU;exact (aE (aT (i := 2) nd rfl (.inl rfl) (RH (aA (aN (vO T) hr tk (aA (cO (fv 1) fI) aF)) (aA (HI T.n_list (cO (fv 1) fI)) (aA (HI T.n_list (cO (fv 1) fI)) (aA (HI T.n_list (cO (fv 1) fI)) aF))))))
  (aE (fV (t := (.nm 3)) (passes_of rfl) rfl (gQ (by rfl) T.n_range (cR bQ dC fI (aN (bF T) hr tk (aA (fv 0) (aA fI aF))))) (pg_name (i := 3) nd rfl (.inl rfl)) (dJ [3, 4, 6, 7] (aE (aT (i := 4) nd rfl (.inl rfl) (aN (bF T) hr tk (aA (fv 0) (aA fI aF))))
  (aE (aT (i := 5) nd rfl (.inl rfl) (aN (bF T) hr tk (aA (fv 0) (aA fI aF))))
  (aH (bD (PW.pt (dU (aU (bS hr.units) s_eq (fv 5) fI) (dU (bX (bP (cW (T := "list") T.n_isinstance T.n_list (uC (fv 2) (fv 4))))) (pw_or1 (aU (bS hr.units) s_eq (cS T.n_len (uC (fv 2) (fv 4))) fI))))) (aH (Fk (aN (Gb T) hr tk (aA (fv 0) aF)) (fv 2) (fv 4))) (aH (bD (aU (bS hr.units) s_eq (fv 5) fI) (aH (iW (M3 (uC (fv 2) (fv 4)) (aN (bF T) hr tk (aA (fv 0) (aA (cR bQ dC (cS T.n_len (uC (fv 2) (fv 4))) fI) aF))) (cO (uC (fv 2) (fv 4)) (aN (bF T) hr tk (aA (fv 0) (aA (cS T.n_len (uC (fv 2) (fv 4))) aF))))))) (aH (bD (aU (bS hr.units) s_eq (fv 5) fI) (aH (iW (OG (uC (fv 2) (fv 4)) (aN (bF T) hr tk (aA (fv 0) (aA (cS T.n_len (uC (fv 2) (fv 4))) aF)))))) (aE (aT (i := 6) nd rfl (.inl rfl) (aN (bF T) hr tk (aA (fv 0) (aA (cS T.n_len (uC (fv 2) (fv 4))) aF))))
  (aE (aT (i := 7) nd rfl (.inl rfl) (cO (bC (aA (nI fI) (aA fI (aA fB (aA fN (aA (bU (aA fI (aA fI aF))) (aA (bU (aA fI (aA fI aF))) (aA (bU (aA (nI fI) (aA fI aF))) (aA fI aF))))))))) (aN (bF T) hr tk (aA (fv 0) (aA fI aF)))))
  (aH (Fk (cR bQ dC (cR bQ dC (EO (uC (fv 2) (fv 4)) nW (nV (fv 6))) (bC (aA (fv 7) aF))) (EO (uC (fv 2) (fv 4)) (nV (cR bQ dC (fv 6) fI)) nW)) (fv 2) (fv 4)))))))))))))))
  (Lk 2 (aE (aT (i := 5) nd rfl (.inl rfl) (aN (bF T) hr tk (aA (fv 0) (aA fI aF))))
  (aE (bD (aU (bS hr.units) s_eq (fv 5) fI) (aH (aP (fv 2))) aL)
  (aE (bD (aU (bS hr.units) s_eq (fv 5) fI) (aH (aP (uX T.n_tuple (EO (fv 2) nW (nV fI))))) aL)
  (aE (bD (aU (bS hr.units) s_eq (fv 5) fI) (aH (aP (uX T.n_tuple (cR bQ dC (fv 2) (bC (aA (bC (aA fI aF)) aF)))))) aL)
  (aE (bD (aU (bS hr.units) s_eq (fv 5) fI) (aH (aP (aN (Gc T) hr tk (aA (fv 0) aF)))) aL)
  (aH (aP (uX T.n_tuple (fv 2))))))))))))
theorem AD (T : Txt w K mg) : lO P w K mg base 16 "_law_answer" ["_law_book_here", "_law_equations", "_law_kind"] (spF K jV) :=
 fH (k := 15) T.f_L_answer T.G_L_answer F4 (Runs.plain (n := 7) (np := 3)) (fun _ _ _ _ _ _ us hl => match us, hl with | [_, _, _], _ => rfl) fun _ _ _ _ _ _ hr tk nd => by
  unfold oX;exact (aE (aT (i := 3) nd rfl (.inl rfl) fN)
  (aE (aT (i := 4) nd rfl (.inl rfl) fN)
  (aE (aT (i := 5) nd rfl (.inl rfl) fB)
  (aE (OD T.xm ⟨⟨trivial, ⟨⟨T.ki_NoEquations_HomeError, trivial⟩, trivial⟩⟩, trivial⟩ rfl rfl tk (fun W pn xe tk po => (aH (bD (aU (bS hr.units) s_eq (fv 2) fI) (aH (aT (i := 3) nd rfl (.inl rfl) (aN (Bh T) hr tk (aA (fv 0) (aA (fv 1) (aA fN aF)))))) (aH (bD (aU (bS hr.units) s_eq (fv 2) fI) (aH (aT (i := 3) nd rfl (.inl rfl) (aN (zO T) hr tk (aA (fv 0) (aA (fv 1) (aA fN aF)))))) (aH (aT (i := 3) nd rfl (.inl rfl) (aN (xK T) hr tk (aA (fv 0) (aA (fv 1) aF)))))))))) (hl_as (k := 6) (its := [(4, .f "index"), (5, .is "HomeError" true)]) T.xa_NoEquations.glo nd rfl rfl (fun a oe cls dd pn hz hf => (Kk nd rfl (.inl rfl) (kl_f T.xa_NoEquations.rd (T.xa_NoEquations.no "index" (by decide)) hz hf (cv 6)) (Kk nd rfl (.inl rfl) (kl_is T.xs_NoEquations T.n_isinstance T.g_HomeError hz hf (cv 6)) Q5))) QR))
  (aE (bD (bX (bP (fv 5))) (aH (aP (bU (aA fS aF)))) aL)
  (aE (bD (aU qR zD (fv 4) fN) (aH (aP (bU (aA fS (aA (fv 4) aF))))) aL)
  (aH (aP (bU (aA fS (aA (fv 3) aF)))))))))))
theorem law_fn (T : Txt w K mg) : ∃ fd, (∀ (s : Shared) (us : List Value), us.length = (["_law_script"] : List Str).length -> BindsTo s fd ⟨us, []⟩ ((["_law_script"] : List Str).zip us)) /\ ∀ base, FnOk P w K mg base (L2.CX P w) 36 (He.ga K "law") fd ["_law_script"] (spF K m_law_k62) :=
 Kj (N := ["_law_script", "_law_pool_here", "_law_bodies", "_law_book_here", "_law_keys", "_law_equations", "_law_index", "_law_sound", "_law_at", "_law_equation_here", "_law_odd_here", "_law_passed", "_law_due", "_law_kind", "_law_k"]) T.f_law_k62 sc_law_k62 (Runs.cut (n := 15) (np := 1) (mb := rB)) (fun _ _ _ _ _ _ us hl => match us, hl with | [_], _ => rfl) fun base cdv A outer s H E hr => by
  have nd : (["_law_script", "_law_pool_here", "_law_bodies", "_law_book_here", "_law_keys", "_law_equations", "_law_index", "_law_sound", "_law_at", "_law_equation_here", "_law_odd_here", "_law_passed", "_law_due", "_law_kind", "_law_k"] : List Str).Nodup := sc_law_k62.nd;have tk := takes_of (X := cxOf (L2.CX P w) P w K mg base ["_law_script", "_law_pool_here", "_law_bodies", "_law_book_here", "_law_keys", "_law_equations", "_law_index", "_law_sound", "_law_at", "_law_equation_here", "_law_odd_here", "_law_passed", "_law_due", "_law_kind", "_law_k"] "law" (defScope qP) (He.ga K "law") cdv A outer s H E) (E := E) rfl rfl rfl rfl;unfold rB tO pD pE tP mM kB pP;exact (aE (aT (i := 1) nd rfl (.inl rfl) (aN (Iv T) hr tk (aA (fv 0) aF)))
  (aE (aT (i := 2) nd rfl (.inl rfl) (aN (Iw T) hr tk (aA (fv 1) (aA fI (aA fI aF)))))
  (aE (aT (i := 3) nd rfl (.inl rfl) (RG T.T_Book (ED T) hr tk (aA (aN (kH T 10) hr tk (aA (fv 2) aF)) aF)))
  (aE (Ln (i := 4) (own := [("_law_k", 14)]) (t := (.nm 14)) rfl nd rfl rfl (sw_true rfl rfl rfl (by decide +kernel)) (gQ (by rfl) T.n_range (cR xJ F7 fI (cS T.n_len (fv 2)))) (blkOk_by (own := [("_law_k", 14)]) (N := ["_law_script", "_law_pool_here", "_law_bodies", "_law_book_here", "_law_keys", "_law_equations", "_law_index", "_law_sound", "_law_at", "_law_equation_here", "_law_odd_here", "_law_passed", "_law_due", "_law_kind", "_law_k"]) (sc := defScope qP) (by decide +kernel)) (fun _ _ _ _ _ => (pg_name (i := 14) nd rfl (.inl rfl))) (fun _ _ _ _ _ => eR) (fun _ _ _ _ _ => (bU (aA (cR qT zG (fv 14) fI) (aA (cR lW vN (fv 14) fI) aF)))))
  (aE (aT (i := 5) nd rfl (.inl rfl) (bC aF))
  (aE (aT (i := 6) nd rfl (.inl rfl) fN)
  (aE (aT (i := 7) nd rfl (.inl rfl) (jN (bS hr.units) s_eq (aN (bF T) hr tk (aA (fv 1) (aA fI aF))) fI))
  (aE (fV (t := (.nm 8)) (passes_of rfl) rfl (gQ (by rfl) T.n_range (aN (bF T) hr tk (aA (fv 1) (aA fI aF)))) (pg_name (i := 8) nd rfl (.inl rfl)) (dJ [8, 9] (aE (aT (i := 9) nd rfl (.inl rfl) (aN (CY T) hr tk (aA (fv 1) (aA (fv 4) (aA fI aF)))))
  (aE (bD (PW.pt (qJ (bX (bP (fv 7))) (pw_and1 (aU (bS hr.units) s_eq (aN (bF T) hr tk (aA (fv 1) (aA fI aF))) fI)))) (aH (aT (i := 9) nd rfl (.inl rfl) (aN (Bi T) hr tk (aA (fv 1) (aA (fv 9) aF))))) aL)
  (aE (iW (Fo (fv 5) (fv 9)))
  (aH (bD (PW.pt (qJ (aU Ap Hi (fv 6) fN) (pw_and1 (aU qR zD (aN (GZ T) hr tk (aA (fv 9) (aA (cS T.n_len (fv 2)) aF))) fN)))) (aH (aT (i := 6) nd rfl (.inl rfl) (fv 8))) aL)))))))
  (aE (aT (i := 10) nd rfl (.inl rfl) (aN (bF T) hr tk (aA (fv 1) (aA fI aF))))
  (aE (bD (aU (bS hr.units) s_eq (fv 10) fI) (aE (aT (i := 5) nd rfl (.inl rfl) (cO (bC (aA (uX T.n_tuple (fv 5)) (aA fN (aA fI (aA fS (aA fB aF)))))) (aN (bF T) hr tk (aA (fv 1) (aA fI aF)))))
  (aH (aT (i := 6) nd rfl (.inl rfl) (nI fI)))) aL)
  (JX 5 (aE (aT (i := 11) nd rfl (.inl rfl) (aN (kH T 10) hr tk (aA (fv 5) aF)))
  (aE (aT (i := 12) nd rfl (.inl rfl) (bU (aA fS (aA (bU (aA fS aF)) aF))))
  (aE (bD (aU qR zD (fv 6) fN) (aH (aT (i := 12) nd rfl (.inl rfl) (bU (aA fS (aA (fv 6) aF))))) aL)
  (aE (fV (t := (.nm 13)) (passes_of rfl) rfl (gQ (by rfl) T.n_range fI) (pg_name (i := 13) nd rfl (.inl rfl)) (dJ [13] (aH (bD (PW.pt (dU (bX (bP (aN (mS T 20) hr tk (aA (aN (AD T) hr tk (aA (fv 3) (aA (fv 11) (aA (fv 13) aF)))) (aA (fv 12) aF))))) (pw_or1 (bX (bP (aN (mS T 20) hr tk (aA (fv 11) (aA (fv 5) aF)))))))) (aH (aP fB)) aL))))
  (aE (bD (aU Ap Hi (fv 6) fN) (aH (aP fB)) aL)
  (aH (aP (fW (aN (mS T 20) hr tk (aA (aN (AD T) hr tk (aA (fv 3) (aA (fv 11) (aA fI aF)))) (aA (fv 12) aF))) (pe_one (aN (mS T 20) hr tk (aA (fv 11) (aA (fv 5) aF)))))))))))))))))))))))
end
theorem EW {K : aD} (h : ex K = true) (i : Nat) {b : Bool} (e : (exs K)[i]? = some b := by rfl) : b = true := bZ.mp h b (eK e)
theorem ob_eq (s : Aw) : ob s = hk.obs s.abs := N3 (HandSHeadRun.getT_eq s)
theorem txt {w : World} {K : aD} {h : Heap} {mg : Str -> Option Value} (X : K.In h) (G : h.Ns mainGlobals mg) (c : He.SaysT fa fn ts w K /\ ex K = true) : Txt w K mg where
  n_isinstance := He.free_ok X G (c.1.d.fact 0 (f := .free "isinstance") rfl)
  n_int := He.free_ok X G (c.1.d.fact 1 (f := .free "int") rfl)
  n_bool := He.free_ok X G (c.1.d.fact 2 (f := .free "bool") rfl)
  n_tuple := He.free_ok X G (c.1.d.fact 3 (f := .free "tuple") rfl)
  n_len := He.free_ok X G (c.1.d.fact 4 (f := .free "len") rfl)
  n_str := He.free_ok X G (c.1.d.fact 5 (f := .free "str") rfl)
  lim := Q3 (EW c.2 0) (Jl c.1 0 (t := Gj) rfl)
  k_LIMITS := c.1.tab 0 (t := Gj) rfl
  g_LIMITS := He.glo_ok X G (c.1.d.fact 6 (f := .glo "LIMITS") rfl)
  n_all := He.free_ok X G (c.1.d.fact 7 (f := .free "all") rfl)
  i_DEEPEST := He.int_ok X G (c.1.d.fact 8 (f := .int "DEEPEST" 3) rfl)
  n_list := He.free_ok X G (c.1.d.fact 9 (f := .free "list") rfl)
  n_enumerate := He.free_ok X G (c.1.d.fact 10 (f := .free "enumerate") rfl)
  i_MOST_IN_LIST := He.int_ok X G (c.1.d.fact 11 (f := .int "MOST_IN_LIST" 8) rfl)
  i_MOST_IN_PROCEDURE := He.int_ok X G (c.1.d.fact 12 (f := .int "MOST_IN_PROCEDURE" 12) rfl)
  i_MOST_PROCEDURES := He.int_ok X G (c.1.d.fact 13 (f := .int "MOST_PROCEDURES" 3) rfl)
  xa_NoBook := Di (EW c.2 1) (He.glo_ok X G (c.1.d.fact 14 (f := .glo "NoBook") rfl))
  fx_NoBook := c.1.d.def_ 0 (d := By) rfl
  c_Book := He.cls_ok (c.1.d.fact 15 (f := .cls "Book") rfl)
  a_Book_own := He.noat_ok (c.1.d.fact 16 (f := .noat "Book" "own") rfl)
  n_range := He.free_ok X G (c.1.d.fact 17 (f := .free "range") rfl)
  n_dict := He.free_ok X G (c.1.d.fact 18 (f := .free "dict") rfl)
  I_Space := QQ (EW c.2 2) (He.cls_ok (c.1.d.fact 19 (f := .cls "Space") rfl))
  g_Space := He.glo_ok X G (c.1.d.fact 20 (f := .glo "Space") rfl)
  xa_NoEquation := Di (EW c.2 3) (He.glo_ok X G (c.1.d.fact 21 (f := .glo "NoEquation") rfl))
  fx_NoEquation := c.1.d.def_ 1 (d := uE) rfl
  xa_NoEquations := Di (EW c.2 4) (He.glo_ok X G (c.1.d.fact 22 (f := .glo "NoEquations") rfl))
  fx_NoEquations := c.1.d.def_ 2 (d := sP) rfl
  xm := PU (EW c.2 5)
  g_NoEquation := He.glo_ok X G (c.1.d.fact 23 (f := .glo "NoEquation") rfl)
  xa_TooMany := Di (EW c.2 6) (He.glo_ok X G (c.1.d.fact 24 (f := .glo "TooMany") rfl))
  fx_TooMany := c.1.d.def_ 3 (d := AQ) rfl
  n_sorted := He.free_ok X G (c.1.d.fact 25 (f := .free "sorted") rfl)
  xs_NoEquations := PR (EW c.2 7)
  g_HomeError := He.glo_ok X G (c.1.d.fact 26 (f := .glo "HomeError") rfl)
  ki_NoEquations_HomeError := of_decide_eq_true (EW c.2 8)
  T_Book := ⟨He.cls_ok (c.1.d.fact 27 (f := .cls "Book") rfl), He.mkr_ok (c.1.d.fact 28 (f := .mkr "Book") rfl), He.glo_ok X G (c.1.d.fact 29 (f := .glo "Book") rfl)⟩
  G_is_integer := He.glo_ok X G (c.1.d.fact 30 (f := .glo "is_integer") rfl)
  f_is_integer := c.1.d.def_ 4 (d := vP) rfl
  G_is_bit := He.glo_ok X G (c.1.d.fact 31 (f := .glo "is_bit") rfl)
  f_is_bit := c.1.d.def_ 5 (d := DP) rfl
  G_is_command := He.glo_ok X G (c.1.d.fact 32 (f := .glo "is_command") rfl)
  f_is_command := c.1.d.def_ 6 (d := vQ) rfl
  G_blocks_of := He.glo_ok X G (c.1.d.fact 33 (f := .glo "blocks_of") rfl)
  f_blocks_of := c.1.d.def_ 7 (d := xZ) rfl
  G_with_blocks := He.glo_ok X G (c.1.d.fact 34 (f := .glo "with_blocks") rfl)
  f_with_blocks := c.1.d.def_ 8 (d := uF) rfl
  G_copied_block := He.glo_ok X G (c.1.d.fact 35 (f := .glo "copied_block") rfl)
  f_copied_block := c.1.d.def_ 9 (d := sQ) rfl
  G_copied_statement := He.glo_ok X G (c.1.d.fact 36 (f := .glo "copied_statement") rfl)
  f_copied_statement := c.1.d.def_ 10 (d := nJ) rfl
  G_well_formed := He.glo_ok X G (c.1.d.fact 37 (f := .glo "well_formed") rfl)
  f_well_formed := c.1.d.def_ 11 (d := uG) rfl
  G_first_fault := He.glo_ok X G (c.1.d.fact 38 (f := .glo "first_fault") rfl)
  f_first_fault := c.1.d.def_ 12 (d := uL) rfl
  G_placed := He.glo_ok X G (c.1.d.fact 39 (f := .glo "placed") rfl)
  f_placed := c.1.d.def_ 13 (d := DO) rfl
  M_Book_init := He.meth_ok (c.1.d.fact 40 (f := .meth "Book" "__init__") rfl)
  f_Book_init := c.1.d.def_ 14 (d := yE) rfl
  M_Book_len := He.meth_ok (c.1.d.fact 41 (f := .meth "Book" "__len__") rfl)
  f_Book_len := c.1.d.def_ 15 (d := AX) rfl
  M_Book_calls := He.meth_ok (c.1.d.fact 42 (f := .meth "Book" "calls") rfl)
  f_Book_calls := c.1.d.def_ 16 (d := vT) rfl
  G_keys_of := He.glo_ok X G (c.1.d.fact 43 (f := .glo "keys_of") rfl)
  f_keys_of := c.1.d.def_ 17 (d := C0) rfl
  G_is_table := He.glo_ok X G (c.1.d.fact 44 (f := .glo "is_table") rfl)
  f_is_table := c.1.d.def_ 18 (d := AR) rfl
  G_table_fault := He.glo_ok X G (c.1.d.fact 45 (f := .glo "table_fault") rfl)
  f_table_fault := c.1.d.def_ 19 (d := uH) rfl
  G_whole := He.glo_ok X G (c.1.d.fact 46 (f := .glo "whole") rfl)
  f_whole := c.1.d.def_ 20 (d := Fv) rfl
  G_within := He.glo_ok X G (c.1.d.fact 47 (f := .glo "within") rfl)
  f_within := c.1.d.def_ 21 (d := DN) rfl
  G_is_variable := He.glo_ok X G (c.1.d.fact 48 (f := .glo "is_variable") rfl)
  f_is_variable := c.1.d.def_ 22 (d := uI) rfl
  G_are_variables := He.glo_ok X G (c.1.d.fact 49 (f := .glo "are_variables") rfl)
  f_are_variables := c.1.d.def_ 23 (d := qY) rfl
  G_is_side := He.glo_ok X G (c.1.d.fact 50 (f := .glo "is_side") rfl)
  f_is_side := c.1.d.def_ 24 (d := C1) rfl
  G_are_parts := He.glo_ok X G (c.1.d.fact 51 (f := .glo "are_parts") rfl)
  f_are_parts := c.1.d.def_ 25 (d := yA) rfl
  G_check_equation_N := He.glo_ok X G (c.1.d.fact 52 (f := .glo "check_equation") rfl)
  f_check_equation_N := c.1.d.def_ 26 (d := nK) rfl
  G_check_equations_4 := He.glo_ok X G (c.1.d.fact 53 (f := .glo "check_equations") rfl)
  f_check_equations_4 := c.1.d.def_ 27 (d := mX) rfl
  G_holds_fault := He.glo_ok X G (c.1.d.fact 54 (f := .glo "holds_fault") rfl)
  f_holds_fault := c.1.d.def_ 28 (d := uK) rfl
  G_call_choices := He.glo_ok X G (c.1.d.fact 55 (f := .glo "call_choices") rfl)
  f_call_choices := c.1.d.def_ 29 (d := sR) rfl
  G_checked_calls_4 := He.glo_ok X G (c.1.d.fact 56 (f := .glo "checked_calls") rfl)
  f_checked_calls_4 := c.1.d.def_ 30 (d := oW) rfl
  G_fewest_saves_4 := He.glo_ok X G (c.1.d.fact 57 (f := .glo "fewest_saves") rfl)
  f_fewest_saves_4 := c.1.d.def_ 31 (d := pQ) rfl
  G_is_result_2 := He.glo_ok X G (c.1.d.fact 58 (f := .glo "is_result") rfl)
  f_is_result_2 := c.1.d.def_ 32 (d := uJ) rfl
  G_saves_fault_3 := He.glo_ok X G (c.1.d.fact 59 (f := .glo "saves_fault") rfl)
  f_saves_fault_3 := c.1.d.def_ 33 (d := qX) rfl
  G_L_pool := He.glo_ok X G (c.1.d.fact 60 (f := .glo "_law_pool") rfl)
  f_L_pool := c.1.d.def_ 34 (d := DQ) rfl
  G_L_draw := He.glo_ok X G (c.1.d.fact 61 (f := .glo "_law_draw") rfl)
  f_L_draw := c.1.d.def_ 35 (d := DU) rfl
  G_L_command := He.glo_ok X G (c.1.d.fact 62 (f := .glo "_law_command") rfl)
  f_L_command := c.1.d.def_ 36 (d := yD) rfl
  G_L_pair := He.glo_ok X G (c.1.d.fact 63 (f := .glo "_law_pair") rfl)
  f_L_pair := c.1.d.def_ 37 (d := DR) rfl
  G_L_piece := He.glo_ok X G (c.1.d.fact 64 (f := .glo "_law_piece") rfl)
  f_L_piece := c.1.d.def_ 38 (d := C3) rfl
  G_L_block := He.glo_ok X G (c.1.d.fact 65 (f := .glo "_law_block") rfl)
  f_L_block := c.1.d.def_ 39 (d := C6) rfl
  G_L_around := He.glo_ok X G (c.1.d.fact 66 (f := .glo "_law_around") rfl)
  f_L_around := c.1.d.def_ 40 (d := AV) rfl
  G_L_body := He.glo_ok X G (c.1.d.fact 67 (f := .glo "_law_body") rfl)
  f_L_body := c.1.d.def_ 41 (d := DW) rfl
  G_L_book := He.glo_ok X G (c.1.d.fact 68 (f := .glo "_law_book") rfl)
  f_L_book := c.1.d.def_ 42 (d := DV) rfl
  G_L_copied := He.glo_ok X G (c.1.d.fact 69 (f := .glo "_law_copied") rfl)
  f_L_copied := c.1.d.def_ 43 (d := AU) rfl
  G_L_same_2 := He.glo_ok X G (c.1.d.fact 70 (f := .glo "_law_same") rfl)
  f_L_same_2 := c.1.d.def_ 44 (d := AS) rfl
  G_L_equation := He.glo_ok X G (c.1.d.fact 71 (f := .glo "_law_equation") rfl)
  f_L_equation := c.1.d.def_ 45 (d := vR) rfl
  G_L_integer := He.glo_ok X G (c.1.d.fact 72 (f := .glo "_law_integer") rfl)
  f_L_integer := c.1.d.def_ 46 (d := yC) rfl
  G_L_list_of := He.glo_ok X G (c.1.d.fact 73 (f := .glo "_law_list_of") rfl)
  f_L_list_of := c.1.d.def_ 47 (d := yB) rfl
  G_L_place := He.glo_ok X G (c.1.d.fact 74 (f := .glo "_law_place") rfl)
  f_L_place := c.1.d.def_ 48 (d := C2) rfl
  G_L_odd_2 := He.glo_ok X G (c.1.d.fact 75 (f := .glo "_law_odd") rfl)
  f_L_odd_2 := c.1.d.def_ 49 (d := C5) rfl
  G_L_copied_c := He.glo_ok X G (c.1.d.fact 76 (f := .glo "_law_copied") rfl)
  f_L_copied_c := c.1.d.def_ 50 (d := vS) rfl
  G_L_odd_c := He.glo_ok X G (c.1.d.fact 77 (f := .glo "_law_odd") rfl)
  f_L_odd_c := c.1.d.def_ 51 (d := C4) rfl
  G_L_spoiled_4 := He.glo_ok X G (c.1.d.fact 78 (f := .glo "_law_spoiled") rfl)
  f_L_spoiled_4 := c.1.d.def_ 52 (d := uM) rfl
  G_L_answer := He.glo_ok X G (c.1.d.fact 79 (f := .glo "_law_answer") rfl)
  f_L_answer := c.1.d.def_ 53 (d := AW) rfl
  G_law_k62 := He.glo_ok X G (c.1.d.fact 80 (f := .glo "law") rfl)
  f_law_k62 := c.1.d.def_ 54 (d := Bz) rfl
end PHZ
namespace PH
open PySem PySem.Spec PyProof.Rows L2
theorem atI0 {α : Type} {x : α} {r : List α} : atI (x :: r) 0 = some x := fR (n := 0) rfl
theorem atI1 {α : Type} {x y : α} {r : List α} : atI (x :: y :: r) 1 = some y := fR (n := 1) rfl
theorem atI2 {α : Type} {x y z : α} {r : List α} : atI (x :: y :: z :: r) 2 = some z := fR (n := 2) rfl
theorem atI3 {α : Type} {x y z w : α} {r : List α} : atI (x :: y :: z :: w :: r) 3 = some w := fR (n := 3) rfl
theorem hI {x : D} {r : List D} {S : aM} : cQ (.dat (.tup (x :: r))) (.dat (.int 0)) S = .ok (.dat x) S := Ff atI0
theorem tY {x y : D} {r : List D} {S : aM} : cQ (.dat (.tup (x :: y :: r))) (.dat (.int 1)) S = .ok (.dat y) S := Ff atI1
theorem FP {x y z : D} {r : List D} {S : aM} : cQ (.dat (.tup (x :: y :: z :: r))) (.dat (.int 2)) S = .ok (.dat z) S := Ff atI2
theorem QL {x y z w : D} {r : List D} {S : aM} : cQ (.dat (.tup (x :: y :: z :: w :: r))) (.dat (.int 3)) S = .ok (.dat w) S := Ff atI3
theorem J6 {x : D} {r : List D} {S : aM} : cQ (.dat (.lst (x :: r))) (.dat (.int 0)) S = .ok (.dat x) S := uA atI0
theorem NG {x y : D} {r : List D} {S : aM} : cQ (.dat (.lst (x :: y :: r))) (.dat (.int 1)) S = .ok (.dat y) S := uA atI1
def PoolAt (S : aM) (p : Nat) (ks : List Int) : Prop := S[p]? = some (.lst (ks.map D.int)) /\ 2 <= ks.length
theorem L0 {S : aM} {p : Nat} {ks : List Int} {k : Int} {n : Nat} {u : Int} (h : S[p]? = some (.lst (ks.map D.int))) (hk : k = (n : Int)) (hu : ks[n]? = some u) : L3 (.cel p) k S = some (.int u) := by
 subst hk;simp only [L3, h];rw [if_pos (by omega)]
 simp [hu]
theorem Ez {S : aM} {p : Nat} {ks : List Int} {k : Int} {n : Nat} {u : Int} (h : S[p]? = some (.lst (ks.map D.int))) (hk : k = (n : Int)) (hu : n < ks.length) : setC (.cel p) k (.int u) S = some (S.set p (.lst ((ks.set n u).map D.int))) := by
 subst hk;simp only [setC, h];rw [if_pos ⟨by omega, by simpa using hu⟩]
 simp [List.map_set]
theorem CB {g : Int -> Int -> Int} {o i e : FE} {ρ : Ev} {S : aM} {p n : Nat} {k u w : Int} {ks : List Int} (ho : o ρ S = .ok (.cel p) S) (hi : i ρ S = .ok (.dat (.int k)) S) (he : e ρ S = .ok (.dat (.int w)) S) (h : S[p]? = some (.lst (ks.map D.int))) (hk : k = (n : Int)) (hu : ks[n]? = some u) :
  lB g o i e ρ S = .next ρ (S.set p (.lst ((ks.set n (g u w)).map D.int))) := by
 simp only [lB, ho, hi, he, Fe, L0 h hk hu, Ez h hk (aJ.mp hu).1]
theorem uV {S : aM} {p : Nat} {ks : List Int} {k : Int} {n : Nat} {u : Int} (h : S[p]? = some (.lst (ks.map D.int))) (hk : k = (n : Int)) (hu : ks[n]? = some u) : cQ (.cel p) (.dat (.int k)) S = .ok (.dat (.int u)) S :=
 P8 h (by rw [fR hk]; simp [hu])
theorem jU {S : aM} {p : Nat} {c d : Cell} (h : S[p]? = some c) : (S.set p d)[p]? = some d := by
 rw [aQ, if_pos rfl, if_pos (aJ.mp h).1]
theorem pw18 {S : aM} : OI (.dat (.int 10)) (.dat (.int 18)) S = .ok (.dat (.int 1000000000000000000)) S := rfl
theorem dw1 (a : Int) : IntMulOk 7919 a := mulL (by decide) (by decide)
theorem dw2 (a : Int) : IntMulOk a 48271 := mulR (by decide) (by decide)
theorem dw3 (a : Int) : CDiv a 1009 := ⟨by decide, by decide⟩
theorem dw4 (a : Int) : CDiv a 2003 := ⟨by decide, by decide⟩
theorem dw5 (a : Int) : CDiv a 11 := ⟨by decide, by decide⟩
theorem dw6 (a b : Int) : IntMulOk (a % 2147483647) b := by
 have h1 : 0 <= a % 2147483647 := gA _ (by decide)
 have h2 : a % 2147483647 < 2147483647 := fM _ (by decide)
 generalize a % 2147483647 = x at h1 h2;exact mulL (by omega) (by omega)
theorem dw7 : (0 : Int) < 2147483647 := by decide
theorem dw8 : (0 : Int) < 2147483399 := by decide
theorem dw9 {a k : Int} {ks : List Int} {S S1 : aM} {p : Nat} {u : Int} (h0 : 0 < k) (hS1 : S.set p (.lst ((ks.set 0 (u + 1)).map D.int)) = S1) : ∃ (d : Int) (ks' : List Int), cH (Out.ret (.dat (.int (a % k))) S1) = .ok (.dat (.int d)) (S.set p (.lst (ks'.map D.int))) /\ 0 <= d /\ d < k /\ ks'.length = ks.length :=
 ⟨a % k, ks.set 0 (u + 1), by rw [hS1]; rfl, gA _ (by omega), fM _ h0, by simp⟩
theorem dW {S : aM} {p : Nat} {ks : List Int} {k : Int} (hP : PoolAt S p ks) (h0 : 0 < k) (h1 : k < 1073741824) :
  ∃ (d : Int) (ks' : List Int), bA [.cel p, .dat (.int k)] S = .ok (.dat (.int d)) (S.set p (.lst (ks'.map D.int))) /\ 0 <= d /\ d < k /\ ks'.length = ks.length := by
 obtain ⟨hp, hl⟩ := hP;obtain ⟨u, hu⟩ : ∃ u, ks[0]? = some u := ⟨ks[0], by simp [show 0 < ks.length by omega]⟩
 have hp1 := jU (d := .lst ((ks.set 0 (u + 1)).map D.int)) hp;have hn : (1 : Int) + (u + 1) % ((ks.length : Int) - 1) = ((1 + ((u + 1) % ((ks.length : Int) - 1)).toNat : Nat) : Int) := by
  have := gA (u + 1) (show ((ks.length : Int) - 1) ≠ 0 by omega)
  omega
 have hlt : 1 + ((u + 1) % ((ks.length : Int) - 1)).toNat < ks.length := by
  have := fM (u + 1) (show 0 < ((ks.length : Int) - 1) by omega)
  have := gA (u + 1) (show ((ks.length : Int) - 1) ≠ 0 by omega)
  omega
 generalize hj : 1 + ((u + 1) % ((ks.length : Int) - 1)).toNat = j at hn hlt;obtain ⟨c, hc⟩ : ∃ c, (ks.set 0 (u + 1))[j]? = some c := ⟨(ks.set 0 (u + 1))[j]'(by simpa using hlt), by simp [hlt]⟩
 have h00 : (ks.set 0 (u + 1))[0]? = some (u + 1) := by
  rw [aQ, if_pos rfl, if_pos (by omega)]
 have e1 : (lB (fun x y => x + y) (aC 0) (mC (.int 0)) (mC (.int 1))) [some (.cel p), some (.dat (.int k)), none, none, none] S = .next [some (.cel p), some (.dat (.int k)), none, none, none] (S.set p (.lst ((ks.set 0 (u + 1)).map D.int))) := CB rfl rfl rfl hp rfl hu
 have eE : bA [.cel p, .dat (.int k)] S = cH (yM [some (.cel p), some (.dat (.int k)), none, none, none] S) := rfl;rw [eE];unfold yM;generalize hS1 : S.set p (.lst ((ks.set 0 (u + 1)).map D.int)) = S1 at e1 hp1;simp! [e1, uV (k := 0) (n := 0) hp1 rfl h00, Bu hp1, bB, aS, nE (show (0 : Int) < (ks.length : Int) - 1 by omega), hn, uV hp1 rfl hc, pw18]
 by_cases hbig : (1000000000000000000 : Int) <= c
 ·rw [decide_eq_true hbig]
  simp! [if_true];have e2 : Hr (aX pO (aC 3) (aC 1)) (aC 0) (aC 2) [some (.cel p), some (.dat (.int k)), some (.dat (.int (j : Int))), some (.dat (.int c)), none] S1 = .next [some (.cel p), some (.dat (.int k)), some (.dat (.int (j : Int))), some (.dat (.int c)), none] (S1.set p (.lst (((ks.set 0 (u + 1)).set j (c / k)).map D.int))) := by
   unfold Hr;simp! [xS (show CDiv c k from ⟨h0, h1⟩), Ez (u := c / k) hp1 (rfl : (j : Int) = (j : Int)) (by simpa using hlt)]
  simp! [e2, nE h0];refine ⟨c % k, (ks.set 0 (u + 1)).set j (c / k), ?_, gA c (by omega), fM c h0, by simp⟩
  rw [<- hS1, pB];rfl
 ·rw [decide_eq_false hbig]
  simp! [uV (k := 0) (n := 0) hp1 rfl h00, EK (dw1 _), EK (dw2 _), nE dw7, nE dw8, xS (dw3 _), xS (dw4 _), xS (dw5 _), EK (dw6 _ _), nE h0];exact dw9 h0 hS1
inductive Cmd where
 | go (k : Int) | turn (n : Int) | mirror | scale (k : Int) | aim (a b : Int) | place (a b : Int) | mark | ret | exch
def Cmd.d : Cmd -> D
 | .go k => .tup [.str "go", .int k]
 | .turn k => .tup [.str "turn", .int k]
 | .mirror => .tup [.str "mirror"]
 | .scale k => .tup [.str "scale", .int k]
 | .aim a b => .tup [.str "aim", .int a, .int b]
 | .place a b => .tup [.str "place", .int a, .int b]
 | .mark => .tup [.str "mark"]
 | .ret => .tup [.str "return"]
 | .exch => .tup [.str "exchange"]
def Cmd.Ok : Cmd -> Prop
 | .go k => -9 <= k /\ k <= 9
 | .turn k => 1 <= k /\ k <= 3
 | .scale k => -3 <= k /\ k <= 3
 | .aim a b => (-9 <= a /\ a <= 9) /\ -9 <= b /\ b <= 9
 | .place a b => (-9 <= a /\ a <= 9) /\ -9 <= b /\ b <= 9
 | _ => True
abbrev PL (ks : List Int) : Cell := .lst (ks.map D.int)
theorem PoolAt.next {S : aM} {p : Nat} {ks ks' : List Int} (h : PoolAt S p ks) (l : ks'.length = ks.length) : PoolAt (S.set p (PL ks')) p ks' := ⟨jU h.1, by rw [l]; exact h.2⟩
inductive Stt where
 | cmd (c : Cmd) | fin (w : Int) | keep (b : List Stt) | again (b : List Stt) | either (a b : List Stt) | call (g : Int) (s : Bool) (a b : List Stt) | bad | odd (x : D)
mutual
def Stt.d : Stt -> D
 | .cmd c => c.d
 | .fin w => .tup [.str "end", .int w]
 | .keep b => .tup [.str "keep", .lst (cD b)]
 | .again b => .tup [.str "again", .lst (cD b)]
 | .either a b => .tup [.str "either", .lst (cD a), .lst (cD b)]
 | .call g s a b => .tup [.str "call", .int g, .bl s, .lst [.lst (cD a), .lst (cD b)]]
 | .bad => .tup [.str "bad"]
 | .odd x => x
def cD : List Stt -> List D
 | [] => []
 | s :: r => s.d :: cD r
end
mutual
/-- of a depth of n at most; calls of the first many -/
def Stt.Ok (many : Int) : Stt -> Nat -> Prop
 | .cmd c, _ => c.Ok
 | .fin w, _ => 0 <= w /\ w <= 1
 | .keep b, n => 0 < n /\ OkL many b (n - 1)
 | .again b, n => 0 < n /\ OkL many b (n - 1)
 | .either a b, n => 0 < n /\ OkL many a (n - 1) /\ OkL many b (n - 1)
 | .call g _ a b, n => (0 < n /\ 0 <= g /\ g < many) /\ OkL many a (n - 1) /\ OkL many b (n - 1)
 | .bad, _ => True
 | .odd _, _ => False
def OkL (many : Int) : List Stt -> Nat -> Prop
 | [], _ => True
 | s :: r, n => (s.Ok many n /\ r.length < 10) /\ OkL many r n
end
def WfNo (many : Int) (x : D) : Prop := ∀ (lv : Int) (S : aM), jJ [.dat x, .dat (.int lv), .dat (.int many)] S = .ok (.dat (.bl false)) S
mutual
/-- the same; values that are no statements may stand in it -/
def Stt.Okx (many : Int) : Stt -> Nat -> Prop
 | .cmd c, _ => c.Ok
 | .fin w, _ => 0 <= w /\ w <= 1
 | .keep b, n => 0 < n /\ Ag many b (n - 1)
 | .again b, n => 0 < n /\ Ag many b (n - 1)
 | .either a b, n => 0 < n /\ Ag many a (n - 1) /\ Ag many b (n - 1)
 | .call g _ a b, n => (0 < n /\ 0 <= g /\ g < many) /\ Ag many a (n - 1) /\ Ag many b (n - 1)
 | .bad, _ => True
 | .odd x, _ => WfNo many x
def Ag (many : Int) : List Stt -> Nat -> Prop
 | [], _ => True
 | s :: r, n => s.Okx many n /\ Ag many r n
end
mutual
theorem Stt.Ok.x {many : Int} : ∀ {s : Stt} {n : Nat}, s.Ok many n -> s.Okx many n
 | .cmd c, _, h => h
 | .fin w, _, h => h
 | .keep b, n, h => ⟨h.1, OkL.x h.2⟩
 | .again b, n, h => ⟨h.1, OkL.x h.2⟩
 | .either a b, n, h => ⟨h.1, OkL.x h.2.1, OkL.x h.2.2⟩
 | .call g _ a b, n, h => ⟨h.1, OkL.x h.2.1, OkL.x h.2.2⟩
 | .bad, _, _ => trivial
 | .odd x, _, h => h.elim
theorem OkL.x {many : Int} : ∀ {l : List Stt} {n : Nat}, OkL many l n -> Ag many l n
 | [], _, _ => trivial
 | s :: r, n, h => ⟨h.1.1.x, OkL.x h.2⟩
end
def Stt.isOdd : Stt -> Bool
 | .odd _ => true
 | _ => false
theorem Stt.Ok.no {many : Int} {s : Stt} {n : Nat} (h : s.Ok many n) : s.isOdd = false := by
 cases s <;> first | rfl | exact h.elim
theorem dF : ∀ l : List Stt, (cD l).length = l.length
 | [] => rfl
 | s :: r => by simp [cD, dF r]
theorem iL : ∀ l m : List Stt, cD (l ++ m) = cD l ++ cD m
 | [], m => rfl
 | s :: r, m => by simp [cD, iL r m]
theorem OkL.len {many : Int} : ∀ {l : List Stt} {n : Nat}, OkL many l n -> l.length <= 10
 | [], _, _ => by simp
 | s :: r, n, h => by have := h.1.2; simp; omega
def LS (S : aM) : Prop := ∀ c ∈ S, ∀ n, c.below n = true
theorem LS.app {S : aM} {ds : List D} (h : LS S) : LS (S ++ [.lst ds]) := fun c hc n => by
 rcases bT.mp hc with hc | hc
 ·exact h c hc n
 ·rw [cU.mp hc]; rfl
theorem LS.set {S : aM} {ds : List D} {k : Nat} (h : LS S) : LS (S.set k (.lst ds)) := fun c hc n => by
 rcases rG hc with hc | hc
 ·exact h c hc n
 ·rw [hc]; rfl
theorem LS.take {S : aM} {n m : Nat} (h : LS S) : ((S.take n).all fun c => c.below m) = true := bZ.mpr fun c hc => h c (oD hc) m
theorem eI {i : Int} {S : aM} : gH [.dat (.int i)] S = .ok (.dat (.bl true)) S := by
 rw [show gH [.dat (.int i)] S = cH (nY [some (.dat (.int i))] S) from rfl]
 unfold nY;simp! [if_true];rfl
theorem J8 {i : Int} {S : aM} : xN [.dat (.int i)] S = .ok (.dat (.bl (decide (0 <= i) && decide (i <= 1)))) S := by
 rw [show xN [.dat (.int i)] S = cH (yJ [some (.dat (.int i))] S) from rfl]
 unfold yJ;simp! [eI]
 by_cases h : 0 <= i
 ·simp! [decide_eq_true h]; rfl
 ·simp! [decide_eq_false h]; rfl
theorem rW {S : aM} : A2 (.dat (.str "go")) S = .ok (.dat (.tup [.int 1, .int (-9), .int 9])) S := rfl
theorem rX {S : aM} : fX true (.dat (.str "go")) S = .ok (.dat (.bl false)) S := rfl
theorem lD {S : aM} : A2 (.dat (.str "turn")) S = .ok (.dat (.tup [.int 1, .int 1, .int 3])) S := rfl
theorem lF {S : aM} : fX true (.dat (.str "turn")) S = .ok (.dat (.bl false)) S := rfl
theorem gM {S : aM} : A2 (.dat (.str "mirror")) S = .ok (.dat (.tup [.int 0, .int 0, .int 0])) S := rfl
theorem gP {S : aM} : fX true (.dat (.str "mirror")) S = .ok (.dat (.bl false)) S := rfl
theorem iR {S : aM} : A2 (.dat (.str "scale")) S = .ok (.dat (.tup [.int 1, .int (-3), .int 3])) S := rfl
theorem iT {S : aM} : fX true (.dat (.str "scale")) S = .ok (.dat (.bl false)) S := rfl
theorem nP {S : aM} : A2 (.dat (.str "aim")) S = .ok (.dat (.tup [.int 2, .int (-9), .int 9])) S := rfl
theorem nR {S : aM} : fX true (.dat (.str "aim")) S = .ok (.dat (.bl false)) S := rfl
theorem iS {S : aM} : A2 (.dat (.str "place")) S = .ok (.dat (.tup [.int 2, .int (-9), .int 9])) S := rfl
theorem iU {S : aM} : fX true (.dat (.str "place")) S = .ok (.dat (.bl false)) S := rfl
theorem lE {S : aM} : A2 (.dat (.str "mark")) S = .ok (.dat (.tup [.int 0, .int 0, .int 0])) S := rfl
theorem lG {S : aM} : fX true (.dat (.str "mark")) S = .ok (.dat (.bl false)) S := rfl
theorem gL {S : aM} : A2 (.dat (.str "return")) S = .ok (.dat (.tup [.int 0, .int 0, .int 0])) S := rfl
theorem gO {S : aM} : fX true (.dat (.str "return")) S = .ok (.dat (.bl false)) S := rfl
theorem eP {S : aM} : A2 (.dat (.str "exchange")) S = .ok (.dat (.tup [.int 0, .int 0, .int 0])) S := rfl
theorem eQ {S : aM} : fX true (.dat (.str "exchange")) S = .ok (.dat (.bl false)) S := rfl
theorem NK {S : aM} : fX true (.dat (.str "end")) S = .ok (.dat (.bl true)) S := rfl
theorem FY {S : aM} : fX true (.dat (.str "keep")) S = .ok (.dat (.bl true)) S := rfl
theorem DE {S : aM} : fX true (.dat (.str "again")) S = .ok (.dat (.bl true)) S := rfl
theorem Bs {S : aM} : fX true (.dat (.str "either")) S = .ok (.dat (.bl true)) S := rfl
theorem FZ {S : aM} : fX true (.dat (.str "call")) S = .ok (.dat (.bl true)) S := rfl
theorem NL {S : aM} : fX true (.dat (.str "bad")) S = .ok (.dat (.bl true)) S := rfl
theorem C7 {x : D} {r : List D} : cutD (x :: r) (some 1) none = r := by
 unfold cutD;rw [HT.sIx_none, show ((1 : Int)) = ((1 : Nat) : Int) from rfl, HT.sIx_nat]
 simp
theorem all_nil {S : aM} : wJ (.dat (.lst [])) S = .ok (.dat (.bl true)) S := rfl
theorem G4 {a : Bool} {S : aM} : wJ (.dat (.lst [.bl a])) S = .ok (.dat (.bl a)) S := by cases a <;> rfl
theorem G3 {a b : Bool} {S : aM} : wJ (.dat (.lst [.bl a, .bl b])) S = .ok (.dat (.bl (a && b))) S := by cases a <;> cases b <;> rfl
theorem sz {n : Nat} (h : n <= 1000) : n <= sizeLine := by show n <= 16777216; omega
theorem QP {c : Cmd} {S : aM} (h : c.Ok) : fO [.dat c.d] S = .ok (.dat (.bl true)) S := by
 rw [show fO [.dat c.d] S = cH (iX [some (.dat c.d), none, none, none, none] S) from rfl]
 unfold iX lI;cases c with
 | go k =>
  obtain ⟨h1, h2⟩ := h;simp! [Cmd.d, hI, rW, rX, lD, lF, gM, gP, iR, iT, nP, nR, iS, iU, lE, lG, gL, gO, eP, eQ, C7, CL, nQ, sJ, eI, all_nil, G4, G3, decide_eq_true h1, decide_eq_true h2, sz];rfl
 | turn k =>
  obtain ⟨h1, h2⟩ := h;simp! [Cmd.d, hI, rW, rX, lD, lF, gM, gP, iR, iT, nP, nR, iS, iU, lE, lG, gL, gO, eP, eQ, C7, CL, nQ, sJ, eI, all_nil, G4, G3, decide_eq_true h1, decide_eq_true h2, sz];rfl
 | mirror => simp! [Cmd.d, hI, rW, rX, lD, lF, gM, gP, iR, iT, nP, nR, iS, iU, lE, lG, gL, gO, eP, eQ, C7, CL, nQ, sJ, eI, all_nil, sz]; rfl
 | scale k =>
  obtain ⟨h1, h2⟩ := h;simp! [Cmd.d, hI, rW, rX, lD, lF, gM, gP, iR, iT, nP, nR, iS, iU, lE, lG, gL, gO, eP, eQ, C7, CL, nQ, sJ, eI, all_nil, G4, G3, decide_eq_true h1, decide_eq_true h2, sz];rfl
 | aim a b =>
  obtain ⟨⟨h1, h2⟩, h3, h4⟩ := h;simp! [Cmd.d, hI, rW, rX, lD, lF, gM, gP, iR, iT, nP, nR, iS, iU, lE, lG, gL, gO, eP, eQ, C7, CL, nQ, sJ, eI, all_nil, G4, G3, decide_eq_true h1, decide_eq_true h2, decide_eq_true h3, decide_eq_true h4, sz];rfl
 | place a b =>
  obtain ⟨⟨h1, h2⟩, h3, h4⟩ := h;simp! [Cmd.d, hI, rW, rX, lD, lF, gM, gP, iR, iT, nP, nR, iS, iU, lE, lG, gL, gO, eP, eQ, C7, CL, nQ, sJ, eI, all_nil, G4, G3, decide_eq_true h1, decide_eq_true h2, decide_eq_true h3, decide_eq_true h4, sz];rfl
 | mark => simp! [Cmd.d, hI, rW, rX, lD, lF, gM, gP, iR, iT, nP, nR, iS, iU, lE, lG, gL, gO, eP, eQ, C7, CL, nQ, sJ, eI, all_nil, sz]; rfl
 | ret => simp! [Cmd.d, hI, rW, rX, lD, lF, gM, gP, iR, iT, nP, nR, iS, iU, lE, lG, gL, gO, eP, eQ, C7, CL, nQ, sJ, eI, all_nil, sz]; rfl
 | exch => simp! [Cmd.d, hI, rW, rX, lD, lF, gM, gP, iR, iT, nP, nR, iS, iU, lE, lG, gL, gO, eP, eQ, C7, CL, nQ, sJ, eI, all_nil, sz]; rfl
theorem qI {z : Str} {r : List D} {S : aM} (h : fX true (.dat (.str z)) S = .ok (.dat (.bl true)) S) : fO [.dat (.tup (.str z :: r))] S = .ok (.dat (.bl false)) S := by
 rw [show fO [.dat (.tup (.str z :: r))] S = cH (iX [some (.dat (.tup (.str z :: r))), none, none, none, none] S) from rfl]
 unfold iX lI;simp! [hI, h];rw [decide_eq_false (by simp; omega)]
 simp! [hI, h];rfl
def Stt.blocks : Stt -> List (List Stt)
 | .keep b => [b]
 | .again b => [b]
 | .either a b => [a, b]
 | .call _ _ a b => [a, b]
 | _ => []
def bls (bs : List (List Stt)) : List D := bs.map fun b => .lst (cD b)
theorem rA {s : Stt} {S : aM} (ho : s.isOdd = false) : iD [.dat s.d] S = .ok (.dat (.lst (bls s.blocks))) S := by
 rw [show iD [.dat s.d] S = cH (pS [some (.dat s.d), none] S) from rfl]
 unfold pS;cases s with
 | cmd c => cases c <;> (simp! [Stt.d, Cmd.d, hI]; rfl)
 | fin w => simp! [Stt.d, hI]; rfl
 | keep b => simp! [Stt.d, hI, tY]; rfl
 | again b => simp! [Stt.d, hI, tY]; rfl
 | either a b => simp! [Stt.d, hI, tY, FP]; rfl
 | call g s a b => simp! [Stt.d, hI, tY, FP, QL]; rfl
 | bad => simp! [Stt.d, hI]; rfl
 | odd x => cases ho
theorem Ep {s : Stt} {S : aM} (ho : s.isOdd = false) : lX [.dat s.d, .dat (.lst (bls s.blocks))] S = .ok (.dat s.d) S := by
 rw [show lX [.dat s.d, .dat (.lst (bls s.blocks))] S = cH (mE [some (.dat s.d), some (.dat (.lst (bls s.blocks))), none] S) from rfl]
 unfold mE;cases s with
 | cmd c => cases c <;> (simp! [Stt.d, Cmd.d, hI]; rfl)
 | fin w => simp! [Stt.d, hI]; rfl
 | keep b => simp! [Stt.d, Stt.blocks, bls, bG, dG, hI, J6]; rfl
 | again b => simp! [Stt.d, Stt.blocks, bls, bG, dG, hI, J6]; rfl
 | either a b => simp! [Stt.d, Stt.blocks, bls, bG, dG, hI, J6, NG]; rfl
 | call g s a b => simp! [Stt.d, Stt.blocks, bls, bG, dG, hI, tY, FP]; rfl
 | bad => simp! [Stt.d, hI]; rfl
 | odd x => cases ho
def Stt.wf (lv : Int) : Stt -> Bool
 | .cmd _ => true
 | .fin _ => true
 | .bad => false
 | .odd _ => false
 | _ => !decide (lv = 3)
theorem isb {i : Int} (h : 0 <= i /\ i <= 1) : (decide (0 <= i) && decide (i <= 1)) = true := by simp [h.1, h.2]
theorem Es {s : Stt} {lv many : Int} {n : Nat} {S : aM} (h : s.Okx many n) : jJ [.dat s.d, .dat (.int lv), .dat (.int many)] S = .ok (.dat (.bl (s.wf lv))) S := by
 by_cases ho : s.isOdd = true
 ·cases s <;> first | (cases ho; done) | exact h lv S
 rw [show jJ [.dat s.d, .dat (.int lv), .dat (.int many)] S = cH (mF [some (.dat s.d), some (.dat (.int lv)), some (.dat (.int many)), none] S) from rfl]
 unfold mF;cases s with
 | cmd c => simp! [Stt.d, QP h]; rfl
 | fin w => simp! [Stt.d, qI NK, hI, tY, J8, isb h]; rfl
 | bad => simp! [Stt.d, qI NL]; rfl
 | odd x => exact absurd rfl ho
 | keep b =>
  by_cases hl : lv = 3
  ·simp! [Stt.d, qI FY, hI, tY, decide_eq_true hl]; simp [Stt.wf, hl]; rfl
  ·simp! [Stt.d, qI FY, hI, tY, decide_eq_false hl]; simp [Stt.wf, hl]; rfl
 | again b =>
  by_cases hl : lv = 3
  ·simp! [Stt.d, qI DE, hI, tY, decide_eq_true hl]; simp [Stt.wf, hl]; rfl
  ·simp! [Stt.d, qI DE, hI, tY, decide_eq_false hl]; simp [Stt.wf, hl]; rfl
 | either a b =>
  by_cases hl : lv = 3
  ·simp! [Stt.d, qI Bs, hI, tY, FP, decide_eq_true hl]; simp [Stt.wf, hl]; rfl
  ·simp! [Stt.d, qI Bs, hI, tY, FP, decide_eq_false hl]; simp [Stt.wf, hl]; rfl
 | call g b a c =>
  obtain ⟨⟨_, h1, h2⟩, _⟩ := h
  by_cases hl : lv = 3
  ·simp! [Stt.d, qI FZ, hI, tY, FP, QL, decide_eq_true hl]; simp [Stt.wf, hl]; rfl
  ·simp! [Stt.d, qI FZ, hI, tY, FP, QL, decide_eq_false hl, eI, decide_eq_true h1, decide_eq_true h2, J6, NG]; simp [Stt.wf, hl]; rfl
inductive FR where
 | fault (p : List Int) (m : Int) | okk (m : Int)
abbrev tupI (p : List Int) : D := .tup (p.map D.int)
def FR.d : FR -> D
 | .fault p m => .tup [tupI p, .int m]
 | .okk m => .tup [.non, .int m]
def FR.then (r : FR) (k : Int -> FR) : FR := match r with
 | .fault p m => .fault p m
 | .okk m => k m
mutual
/-- what stands in the blocks of s, at the path here -/
def DJ (lv : Int) (here : List Int) : Stt -> Int -> FR
 | .keep b, met => wF (lv + 1) (here ++ [0]) 0 b met
 | .again b, met => wF (lv + 1) (here ++ [0]) 0 b met
 | .either a b, met => (wF (lv + 1) (here ++ [0]) 0 a met).then (wF (lv + 1) (here ++ [1]) 0 b)
 | .call _ _ a b, met => (wF (lv + 1) (here ++ [0]) 0 a met).then (wF (lv + 1) (here ++ [1]) 0 b)
 | _, met => .okk met
def wF (lv : Int) (path : List Int) (at_ : Int) : List Stt -> Int -> FR
 | [], met => .okk met
 | s :: r, met => if at_ = 8 \/ met = 12 \/ s.wf lv = false then .fault (path ++ [at_]) met else
  (DJ lv (path ++ [at_]) s (met + 1)).then (wF lv path (at_ + 1) r)
end
def Ef (n : Nat) : Prop := ∀ {S : aM} {l : List Stt} {lv many met : Int} {path : List Int} {k : Nat}, Ag many l k -> 0 <= lv -> lv <= 3 -> path.length <= 2 * lv.toNat -> 4 - lv.toNat <= n ->
 dE n [.dat (.lst (cD l)), .dat (.int lv), .dat (.int many), .dat (tupI path), .dat (.int met)] S = .ok (.dat (wF lv path 0 l met).d) S
theorem yQ {cl : Bool} {p : List Int} {i : Int} {S : aM} (h : p.length <= 100) : dD cl (.dat (tupI p)) (.dat (.tup [.int i])) S = .ok (.dat (tupI (p ++ [i]))) S := by
 rw [RD (sz (by simp; omega))]
 simp [tupI]
theorem FR.then_okk {m : Int} {k : Int -> FR} : (FR.okk m).then k = k m := rfl
theorem FR.then_fault {p : List Int} {m : Int} {k : Int -> FR} : (FR.fault p m).then k = .fault p m := rfl
theorem ff_in {n : Nat} (ih : Ef n) {S : aM} {s : Stt} {lv many met : Int} {path : List Int} {k : Nat} {a b c : Option Vl} (h : s.Okx many k) (h0 : 0 <= lv) (h3 : lv < 3) (hp : path.length <= 2 * lv.toNat + 1) (hn : 4 - (lv + 1).toNat <= n) :
  loop (.tp [8, 9]) (fL (dE n)) (cJ 0 (bls s.blocks)) [a, some (.dat (.int lv)), some (.dat (.int many)), b, some (.dat (.int met)), c, some (.dat s.d), some (.dat (tupI path)), none, none, none] S =
   match DJ lv path s met with
   | .fault p m => .ret (.dat (.tup [tupI p, .int m])) S
   | .okk m => .next [a, some (.dat (.int lv)), some (.dat (.int many)), b, some (.dat (.int m)), c, some (.dat s.d), some (.dat (tupI path)), none, none, none] S := by
 have turn : ∀ {l : List Stt} {met : Int} {i : Int}, Ag many l (k - 1) -> dE n [.dat (.lst (cD l)), .dat (.int (lv + 1)), .dat (.int many), .dat (tupI (path ++ [i])), .dat (.int met)] S = .ok (.dat (wF (lv + 1) (path ++ [i]) 0 l met).d) S := fun hl => ih hl (by omega) (by omega) (by simp; omega) hn
 have one : ∀ {l : List Stt} {r : List D} {met : Int} {i : Int}, Ag many l (k - 1) -> loop (.tp [8, 9]) (fL (dE n)) (.tup [.int i, .lst (cD l)] :: r) [a, some (.dat (.int lv)), some (.dat (.int many)), b, some (.dat (.int met)), c, some (.dat s.d), some (.dat (tupI path)), none, none, none] S =
   match wF (lv + 1) (path ++ [i]) 0 l met with
   | .fault p m => .ret (.dat (.tup [tupI p, .int m])) S
   | .okk m => loop (.tp [8, 9]) (fL (dE n)) r [a, some (.dat (.int lv)), some (.dat (.int many)), b, some (.dat (.int m)), c, some (.dat s.d), some (.dat (tupI path)), none, none, none] S := fun {l r met i} hl => by
  have e := turn (met := met) (i := i) hl;rw [loop];simp only [sJ, pG, aW, cV, if_true, bM, bH];rw [fL];simp! [yQ (show path.length <= 100 by omega), e]
  cases q : wF (lv + 1) (path ++ [i]) 0 l met with
  | fault p m => simp! [FR.d, Fi]
  | okk m => simp! [FR.d, Fi]
 cases s with
 | cmd c => simp only [Stt.blocks, bls, dG, cJ, loop, DJ]
 | fin w => simp only [Stt.blocks, bls, dG, cJ, loop, DJ]
 | bad => simp only [Stt.blocks, bls, dG, cJ, loop, DJ]
 | odd w => simp only [Stt.blocks, bls, dG, cJ, loop, DJ]
 | keep x =>
  simp only [Stt.blocks, bls, dG, bG, cJ, DJ, mL, hM, xT];rw [one h.2];cases wF (lv + 1) (path ++ [0]) 0 x met <;> rfl
 | again x =>
  simp only [Stt.blocks, bls, dG, bG, cJ, DJ, mL, hM, xT];rw [one h.2];cases wF (lv + 1) (path ++ [0]) 0 x met <;> rfl
 | either x y =>
  simp only [Stt.blocks, bls, dG, bG, cJ, DJ, mL, hM, xT];rw [one h.2.1];cases wF (lv + 1) (path ++ [0]) 0 x met with
  | fault p m => rfl
  | okk m =>
   simp only [FR.then_okk];rw [one h.2.2];cases wF (lv + 1) (path ++ [1]) 0 y m <;> rfl
 | call g f x y =>
  simp only [Stt.blocks, bls, dG, bG, cJ, DJ, mL, hM, xT];rw [one h.2.1];cases wF (lv + 1) (path ++ [0]) 0 x met with
  | fault p m => rfl
  | okk m =>
   simp only [FR.then_okk];rw [one h.2.2];cases wF (lv + 1) (path ++ [1]) 0 y m <;> rfl
theorem Lr {n : Nat} (ih : Ef n) {S : aM} {lv many : Int} {path : List Int} {k : Nat} {a : Option Vl} (h0 : 0 <= lv) (h3 : lv <= 3) (hp : path.length <= 2 * lv.toNat) (hn : 4 - (lv + 1).toNat <= n) :
  ∀ (l : List Stt) (at_ : Nat) (met : Int), Ag many l k -> loop (.tp [5, 6]) (jQ (dE n)) (cJ at_ (cD l)) [a, some (.dat (.int lv)), some (.dat (.int many)), some (.dat (tupI path)), some (.dat (.int met)), none, none, none, none, none, none] S =
   match wF lv path (at_ : Nat) l met with
   | .fault p m => .ret (.dat (.tup [tupI p, .int m])) S
   | .okk m => .next [a, some (.dat (.int lv)), some (.dat (.int many)), some (.dat (tupI path)), some (.dat (.int m)), none, none, none, none, none, none] S
 | [], at_, met, _ => rfl
 | s :: r, at_, met, h => by
  have rest := Lr ih (S := S) (many := many) (k := k) (a := a) h0 h3 hp hn r (at_ + 1);simp only [cD, cJ];rw [loop];simp only [sJ, pG, aW, cV, if_true, bM, bH];rw [jQ];simp! [yQ (show path.length <= 100 by omega)]
  by_cases h8 : ((at_ : Nat) : Int) = 8
  ·simp! [decide_eq_true h8]
   unfold wF;rw [if_pos (.inl h8)]
  ·simp! [decide_eq_false h8]
   by_cases hm : met = 12
   ·simp! [decide_eq_true hm]
    unfold wF;rw [if_pos (.inr (.inl hm))]
   ·simp! [decide_eq_false hm, Es h.1]
    cases hw : s.wf lv with
    | false =>
     simp! [if_true];unfold wF;rw [if_pos (.inr (.inr hw))]
    | true =>
     have hlv : DJ lv (path ++ [((at_ : Nat) : Int)]) s (met + 1) = .okk (met + 1) /\ s.blocks = [] \/ lv < 3 := by
      cases s with
      | cmd c => exact .inl ⟨rfl, rfl⟩
      | fin w => exact .inl ⟨rfl, rfl⟩
      | bad => cases hw
      | odd x => cases hw
      | keep b => refine .inr ?_; simp [Stt.wf] at hw; omega
      | again b => refine .inr ?_; simp [Stt.wf] at hw; omega
      | either a b => refine .inr ?_; simp [Stt.wf] at hw; omega
      | call g f a b => refine .inr ?_; simp [Stt.wf] at hw; omega
     have ea : ∀ x y z : Option Vl, Kf (fun x y => x + y) 4 (mC (.int 1)) [a, some (.dat (.int lv)), some (.dat (.int many)), some (.dat (tupI path)), some (.dat (.int met)), x, y, z, none, none, none] S = .next [a, some (.dat (.int lv)), some (.dat (.int many)), some (.dat (tupI path)), some (.dat (.int (met + 1))), x, y, z, none, none, none] S := fun _ _ _ => rfl
     have e2 : wF lv path ((at_ : Nat) : Int) (s :: r) met = (DJ lv (path ++ [((at_ : Nat) : Int)]) s (met + 1)).then (wF lv path (((at_ + 1 : Nat) : Int)) r) := by
      rw [wF, if_neg (by rintro (h | h | h) <;> first | exact h8 h | exact hm h | (rw [hw] at h; cases h))]
      rfl
     rw [e2];have ho : s.isOdd = false := by cases s <;> first | rfl | (cases hw; done)
     simp! [ea, rA ho];rcases hlv with ⟨q1, q2⟩ | hlv
     ·rw [q1, q2]
      simp! [bls, dG, cJ, loop, FR.then_okk];exact rest (met + 1) h.2
     ·rw [ff_in ih h.1 h0 hlv (by simp; omega) hn]
      cases q : DJ lv (path ++ [((at_ : Nat) : Int)]) s (met + 1) with
      | fault p m => simp! [FR.then_fault]
      | okk m =>
       simp! [FR.then_okk];exact rest m h.2
theorem Lx (n : Nat) : Ef n := by
 induction n with
 | zero =>
  intro S l lv many met path k hl h0 h3 hp hn;omega
 | succ n ih =>
  intro S l lv many met path k hl h0 h3 hp hn;rw [show dE (n + 1) [.dat (.lst (cD l)), .dat (.int lv), .dat (.int many), .dat (tupI path), .dat (.int met)] S = cH (mI (dE n) [some (.dat (.lst (cD l))), some (.dat (.int lv)), some (.dat (.int many)), some (.dat (tupI path)), some (.dat (.int met)), none, none, none, none, none, none] S) from rfl]
  unfold mI;have e := Lr ih (S := S) (a := some (.dat (.lst (cD l)))) h0 h3 hp (by omega) l 0 met hl
  rw [hM] at e;simp! [e];cases q : wF lv path 0 l met with
  | fault p m => simp! [if_true]; rfl
  | okk m => simp! [if_true]; rfl
theorem FM {α : Type} {t : Tg} {e : FE} {ρ : Ev} {S : aM} {f g : α -> D} : ∀ {xs : List α}, (∀ x ∈ xs, ∃ ρ1, sJ t (.dat (f x)) ρ = some ρ1 /\ e ρ1 S = .ok (.dat (g x)) S) -> nQ t gK e ρ (xs.map f) S = .ok (xs.map g) S
 | [], _ => rfl
 | x :: xs, h => by
  obtain ⟨ρ1, h1, h2⟩ := h x (aY ..);have ih := FM (xs := xs) fun y hy => h y (aV _ hy)
  rw [bG, nQ];simp only [h1, P2, h2, if_true, ih, bG]
theorem gN {α : Type} {cl : Bool} {t : Tg} {e : FE} {ρ : Ev} {S : aM} {f g : α -> D} {xs : List α} {vs : List Nat} (hl : xs.length <= sizeLine) (h : ∀ x ∈ xs, ∃ ρ1, sJ t (.dat (f x)) (wipeE ρ vs) = some ρ1 /\ e ρ1 S = .ok (.dat (g x)) S) : CL cl t gK e ρ vs (xs.map f) S = newL cl (xs.map g) S := by
 unfold CL;rw [bB, if_pos hl, FM h]
theorem xX : ∀ l : List Stt, cD l = l.map Stt.d
 | [] => rfl
 | s :: r => by rw [cD, xX r]; rfl
theorem uY {many : Int} {s : Stt} {k : Nat} (h : s.Ok many k) : ∀ b ∈ s.blocks, 0 < k /\ OkL many b (k - 1) := by
 intro b hb;cases s with
 | cmd c => cases hb
 | fin w => cases hb
 | bad => cases hb
 | odd x => cases hb
 | keep x => simp [Stt.blocks] at hb; subst hb; exact h
 | again x => simp [Stt.blocks] at hb; subst hb; exact h
 | either x y => simp [Stt.blocks] at hb; rcases hb with rfl | rfl; exact ⟨h.1, h.2.1⟩; exact ⟨h.1, h.2.2⟩
 | call g f x y => simp [Stt.blocks] at hb; rcases hb with rfl | rfl; exact ⟨h.1.1, h.2.1⟩; exact ⟨h.1.1, h.2.2⟩
theorem OkL.mem {many : Int} : ∀ {l : List Stt} {k : Nat}, OkL many l k -> ∀ s ∈ l, s.Ok many k
 | [], _, _, s, hs => by cases hs
 | x :: r, k, h, s, hs => by
  rcases bN.mp hs with rfl | hs
  ·exact h.1.1
  ·exact OkL.mem h.2 s hs
theorem HP {s : Stt} : s.blocks.length <= 2 := by cases s <;> simp [Stt.blocks]
def RS (n : Nat) : Prop := (∀ {S : aM} {many : Int} {s : Stt} {k : Nat}, s.Ok many k -> 2 * k + 1 <= n -> gI n [.dat s.d] S = .ok (.dat s.d) S) /\ ∀ {S : aM} {many : Int} {l : List Stt} {k : Nat}, OkL many l k -> 2 * k + 2 <= n -> fC n [.dat (.lst (cD l))] S = .ok (.dat (.lst (cD l))) S
theorem OR (n : Nat) : RS n := by
 induction n with
 | zero => exact ⟨fun _ h => by omega, fun _ h => by omega⟩
 | succ n ih =>
  constructor
  ·intro S many s k h hn
   rw [show gI (n + 1) [.dat s.d] S = cH (gR (fC n) [some (.dat s.d), none] S) from rfl]
   unfold gR;simp! [rA h.no];rw [show bls s.blocks = s.blocks.map (fun b => .lst (cD b)) from rfl, gN (g := fun b => .lst (cD b)) (sz (by have := HP (s := s); omega)) fun b hb => ⟨_, rfl, ?_⟩]
   ·simp! [show s.blocks.map (fun b => D.lst (cD b)) = bls s.blocks from rfl, Ep h.no]
    rfl
   ·obtain ⟨h1, h2⟩ := uY h b hb
    simp! [ih.2 h2 (by omega)]
  ·intro S many l k h hn
   rw [show fC (n + 1) [.dat (.lst (cD l))] S = cH (lJ (gI n) [some (.dat (.lst (cD l))), none] S) from rfl]
   unfold lJ;simp! [xX];rw [gN (g := Stt.d) (sz (by have := h.len; omega)) fun s hs => ⟨_, rfl, ?_⟩]
   ·rfl
   ·simp! [ih.1 (h.mem s hs) (by omega)]
def vU (p : Int) : List (List Stt) -> Option (Int × List Int)
 | [] => none
 | b :: r => match wF 0 [] 0 b 0 with
  | .fault q _ => some (p, q)
  | .okk _ => vU (p + 1) r
def Ge (i : Int) (q : List Int) : Er := ⟨"NoBook", ["path", "procedure"], [tupI q, .int i]⟩
theorem DF {S : aM} {many : Int} {k : Nat} {a : Option Vl} {bs0 : List D} (hm : many = (bs0.length : Int)) : ∀ (bs : List (List Stt)) (p : Nat), (∀ b ∈ bs, OkL many b k) ->
  match vU (p : Nat) bs with
  | none => loop (.tp [2, 3]) dP (cJ p (bls bs)) [a, some (.dat (.lst bs0)), none, none, none, none] S = .next [a, some (.dat (.lst bs0)), none, none, none, none] S
  | some (i, q) => ∃ ρ', loop (.tp [2, 3]) dP (cJ p (bls bs)) [a, some (.dat (.lst bs0)), none, none, none, none] S = .err (Ge i q) ρ' S
 | [], p, _ => rfl
 | b :: r, p, h => by
  have ih := DF (S := S) (k := k) (a := a) hm r (p + 1) fun b hb => h b (aV _ hb)
  have hb := h b (aY ..);have e1 : dE 10 [.dat (.lst (cD b)), .dat (.int 0), .dat (.int (bs0.length : Int)), .dat (.tup []), .dat (.int 0)] S = .ok (.dat (wF 0 [] 0 b 0).d) S := by
   rw [<- hm];exact Lx 10 (path := []) hb.x (by omega) (by omega) (by simp) (by simp)
  have el : loop (.tp [2, 3]) dP (cJ p (bls (b :: r))) [a, some (.dat (.lst bs0)), none, none, none, none] S = (match dP [a, some (.dat (.lst bs0)), some (.dat (.int (p : Nat))), some (.dat (.lst (cD b))), none, none] S with
   | .next ρ2 S2 => loop (.tp [2, 3]) dP (cJ (p + 1) (bls r)) ρ2 S2
   | .cnt ρ2 S2 => loop (.tp [2, 3]) dP (cJ (p + 1) (bls r)) ρ2 S2
   | .brk ρ2 S2 => .next ρ2 S2
   | .ret d S2 => .ret d S2
   | .err e ρ2 S2 => .err e ρ2 S2
   | .stuck => .stuck) := rfl
  rw [el, dP];simp! [e1];rw [vU];cases q : wF 0 [] 0 b 0 with
  | fault pp mm =>
   simp! [FR.d, Fi];exact ⟨_, rfl⟩
  | okk mm =>
   simp! [FR.d, Fi];rw [<- dP];exact ih
def cC (bs : List (List Stt)) : D := .ins "Book" ["own"] [.lst (bls bs)]
theorem Kh {d : Vl} : ∀ {ρ : Ev} {i : Nat}, i < ρ.length -> lk (ρ.set i (some d)) i = some d
 | [], i, h => by simp at h
 | x :: r, 0, h => rfl
 | x :: r, i + 1, h => Kh (ρ := r) (by simpa using h)
theorem IW {ρ : Ev} {i : Nat} : (wipeE ρ [i]).length = ρ.length := by simp [wipeE]
theorem Cf {cl : Bool} {S : aM} {many : Int} {k i : Nat} {bs : List (List Stt)} {ρ : Ev} (hb : ∀ b ∈ bs, OkL many b k) (hk : k <= 9) (hl : bs.length <= 10) (h : i < ρ.length) : CL cl (.nm i) gK (aO (fC 20) (aB (aC i) aI)) ρ [i] (bls bs) S = newL cl (bls bs) S := by
 rw [show bls bs = bs.map (fun b => .lst (cD b)) from rfl, gN (g := fun b => .lst (cD b)) (sz (by omega)) fun b hb' => ?_]
 have e2 := Kh (d := .dat (.lst (cD b))) (ρ := wipeE ρ [i]) (i := i) (by rw [IW]; exact h)
 refine ⟨(wipeE ρ [i]).set i (some (.dat (.lst (cD b)))), rfl, ?_⟩
 simp (config := { implicitDefEqProofs := false }) only [Li, Ld, P6, e2, DH, IG, P7, IF];exact (OR 20).2 (hb b hb') (by omega)
theorem NM {S : aM} {many : Int} {k n : Nat} {bs : List (List Stt)} (hb : ∀ b ∈ bs, OkL many b k) (hk : k <= 9) (hm : many = (bs.length : Int)) (h1 : 1 <= bs.length) (h3 : bs.length <= 3) (hn : S[n]? = some (.ins "Book" [])) :
  kN [.cel n, .dat (.lst (bls bs))] S = match vU 0 bs with
   | none => .ok (.dat .non) (S.set n (.ins "Book" [("own", .dat (.lst (bls bs)))]))
   | some (i, q) => .err (Ge i q) S := by
 rw [show kN [.cel n, .dat (.lst (bls bs))] S = cH (pW [some (.cel n), some (.dat (.lst (bls bs))), none, none, none, none] S) from rfl]
 unfold pW;have hl : (bls bs).length = bs.length := by simp [bls]
 have e := DF (S := S) (a := some (.cel n)) (bs0 := bls bs) (by rw [hl]; exact hm) bs 0 hb
 rw [hM] at e;simp! [hl, decide_eq_true (show (1 : Int) <= (bs.length : Int) by omega), decide_eq_true (show (bs.length : Int) <= 3 by omega)]
 cases q : vU 0 bs with
 | none =>
  rw [q] at e;simp! [e, Cf hb hk (show bs.length <= 10 by omega), LL hn (by simp)]
  rfl
 | some x =>
  obtain ⟨i, p⟩ := x;rw [q] at e;obtain ⟨ρ', e⟩ := e;simp! [e];rfl
theorem Ki {S : aM} {bs : List (List Stt)} (hl : bs.length <= 10) : Bx "Book" lU (.dat (cC bs)) S = .ok (.dat (.int (bs.length : Int))) S := by
 have e : lU [.dat (cC bs)] S = .ok (.dat (.int (bs.length : Int))) S := by
  rw [show lU [.dat (cC bs)] S = cH (sF [some (.dat (cC bs))] S) from rfl]
  unfold sF cC;simp! [A6, gT];simp [bls];rfl
 rw [Bx, if_pos (by simp [qV, cC, K0]), e, Q4, if_pos (by omega)]
theorem N6 {S : aM} {many : Int} {k : Nat} {bs : List (List Stt)} (ls : LS S) (hb : ∀ b ∈ bs, OkL many b k) (hk : k <= 9) (hm : many = (bs.length : Int)) (h1 : 1 <= bs.length) (h3 : bs.length <= 3) :
  Hx false "Book" kN [.dat (.lst (bls bs))] S = match vU 0 bs with
   | none => .ok (.dat (cC bs)) S
   | some (i, q) => .err (Ge i q) S := by
 have t : ((S ++ [Cell.ins "Book" []]).take S.length) = S := by simp
 have ls' := ls.take (n := S.length) (m := S.length);rw [List.take_length] at ls';unfold Hx;rw [NM hb hk hm h1 h3 (by simp)]
 cases q : vU 0 bs with
 | none =>
  dsimp only [made];rw [eA _ _ (bR _), pY];simp [Dc, cC, ls']
 | some x =>
  obtain ⟨i, p⟩ := x;dsimp only [made];rw [t, if_pos ls']
end PH
namespace PH
open PySem PySem.Spec PyProof PyProof.Rows L2
mutual
/-- the height -/
def D.ht : D -> Nat
 | .lst xs => D.hts xs + 1
 | .tup xs => D.hts xs + 1
 | _ => 0
def D.hts : List D -> Nat
 | [] => 0
 | x :: r => max (D.ht x) (D.hts r)
end
mutual
/-- no instances, no dicts; texts that may be compared -/
def D.Pl : D -> Prop
 | .lst xs => xs.length <= 1000 /\ D.Pls xs
 | .tup xs => xs.length <= 1000 /\ D.Pls xs
 | .str x => PyData.strOk x = true
 | .ins _ _ _ => False
 | .dct => False
 | .opq _ => False
 | _ => True
def D.Pls : List D -> Prop
 | [] => True
 | x :: r => D.Pl x /\ D.Pls r
end
mutual
theorem KO : ∀ d : D, d.Pl -> ∃ p, d.py = some p /\ p.canLay0 = true /\ p.depth = d.ht
 | .non, _ => ⟨_, rfl, rfl, rfl⟩
 | .bl b, _ => ⟨_, rfl, rfl, rfl⟩
 | .int i, _ => ⟨_, rfl, rfl, rfl⟩
 | .str x, h => ⟨_, rfl, h, rfl⟩
 | .lst xs, h => by
  obtain ⟨ps, e1, e2, e3⟩ := E8 xs h.2;refine ⟨.list ps, ?_, e2, ?_⟩
  ·simp only [D.py, e1]
  ·simp only [PyData.depth, D.ht, e3]
 | .tup xs, h => by
  obtain ⟨ps, e1, e2, e3⟩ := E8 xs h.2;refine ⟨.tuple ps, ?_, e2, ?_⟩
  ·simp only [D.py, e1]
  ·simp only [PyData.depth, D.ht, e3]
 | .ins _ _ _, h => h.elim
 | .dct, h => h.elim
 | .opq _, h => h.elim
theorem E8 : ∀ ds : List D, D.Pls ds -> ∃ ps, D.pys ds = some ps /\ PyData.canLayAll0 ps = true /\ PyData.depthAll ps = D.hts ds
 | [], _ => ⟨_, rfl, rfl, rfl⟩
 | d :: r, h => by
  obtain ⟨p, e1, e2, e3⟩ := KO d h.1;obtain ⟨ps, f1, f2, f3⟩ := E8 r h.2;refine ⟨p :: ps, ?_, ?_, ?_⟩
  ·simp only [D.pys, e1, f1]
  ·simp only [PyData.canLayAll0, e2, f2, sH]
  ·simp only [PyData.depthAll, D.hts, e3, f3]
end
theorem Cu {d : D} {p : PyData} (h : d.Pl) (hd : d.ht <= 64) (e : d.py = some p) : SeqAt.shaped p = true := by
 obtain ⟨p', e1, e2, e3⟩ := KO d h;rw [e] at e1;cases e1;unfold SeqAt.shaped;rw [e2, e3, decide_eq_true hd];rfl
mutual
theorem Stt.plain {many : Int} : ∀ (s : Stt) (k : Nat), s.Ok many k -> s.d.Pl /\ s.d.ht <= 3 * k + 1
 | .cmd c, k, h => by cases c <;> exact ⟨⟨by simp, by simp only [D.Pl, D.Pls, and_true]; decide +kernel⟩, by simp [Stt.d, Cmd.d, D.ht, D.hts]⟩
 | .fin w, k, h => ⟨⟨by simp, by simp only [D.Pl, D.Pls, and_true]; decide +kernel⟩, by simp [Stt.d, D.ht, D.hts]⟩
 | .bad, k, h => ⟨⟨by simp, by simp only [D.Pl, D.Pls, and_true]; decide +kernel⟩, by simp [Stt.d, D.ht, D.hts]⟩
 | .odd x, k, h => h.elim
 | .keep b, k, h => by
  obtain ⟨h1, h2⟩ := iK b (k - 1) h.2;have l1 := h.2.len;have := h.1;exact ⟨⟨by simp, by show PyData.strOk _ = true; decide +kernel, ⟨by rw [dF]; omega, h1⟩, trivial⟩, by simp [Stt.d, D.ht, D.hts]; omega⟩
 | .again b, k, h => by
  obtain ⟨h1, h2⟩ := iK b (k - 1) h.2;have l1 := h.2.len;have := h.1;exact ⟨⟨by simp, by show PyData.strOk _ = true; decide +kernel, ⟨by rw [dF]; omega, h1⟩, trivial⟩, by simp [Stt.d, D.ht, D.hts]; omega⟩
 | .either a b, k, h => by
  obtain ⟨h1, h2⟩ := iK a (k - 1) h.2.1;obtain ⟨h3, h4⟩ := iK b (k - 1) h.2.2;have l1 := h.2.1.len;have l2 := h.2.2.len;have := h.1;exact ⟨⟨by simp, by show PyData.strOk _ = true; decide +kernel, ⟨by rw [dF]; omega, h1⟩, ⟨by rw [dF]; omega, h3⟩, trivial⟩, by simp [Stt.d, D.ht, D.hts]; omega⟩
 | .call g f a b, k, h => by
  obtain ⟨h1, h2⟩ := iK a (k - 1) h.2.1;obtain ⟨h3, h4⟩ := iK b (k - 1) h.2.2;have l1 := h.2.1.len;have l2 := h.2.2.len;have := h.1.1;exact ⟨⟨by simp, by show PyData.strOk _ = true; decide +kernel, trivial, trivial, ⟨by simp, ⟨by rw [dF]; omega, h1⟩, ⟨by rw [dF]; omega, h3⟩, trivial⟩, trivial⟩, by simp [Stt.d, D.ht, D.hts]; omega⟩
theorem iK {many : Int} : ∀ (l : List Stt) (k : Nat), OkL many l k -> D.Pls (cD l) /\ D.hts (cD l) <= 3 * k + 1
 | [], k, _ => ⟨trivial, by simp [cD, D.hts]⟩
 | s :: r, k, h => by
  obtain ⟨h1, h2⟩ := Stt.plain s k h.1.1;obtain ⟨h3, h4⟩ := iK r k h.2;exact ⟨⟨h1, h3⟩, by simp [cD, D.hts]; omega⟩
end
theorem wC : ∀ {xs : List D} {x : D}, x ∈ xs -> x.ht <= D.hts xs
 | y :: r, x, h => by
  rcases bN.mp h with rfl | h
  ·simp [D.hts]; omega
  ·have := wC h; simp [D.hts]; omega
theorem wA : ∀ {xs : List D} {x : D}, D.Pls xs -> x ∈ xs -> x.Pl
 | y :: r, x, hp, h => by
  rcases bN.mp h with rfl | h
  ·exact hp.1
  ·exact wA hp.2 h
theorem all_true {α : Type} {S : aM} (xs : List α) : wJ (.dat (.lst (xs.map fun _ => D.bl true))) S = .ok (.dat (.bl true)) S := by
 have : ∀ xs : List α, yP (xs.map fun _ => D.bl true) = some (xs.map fun _ => true) := fun xs => by
  induction xs with
  | nil => rfl
  | cons x r ih => simp only [bG, yP, ih]
 simp only [wJ, hG, this]
 congr 3
 simp
theorem F8 {lo : Int} {n : Nat} : jH lo (n + 1) = .int lo :: jH (lo + 1) n := by
 unfold jH;rw [HX, bG, Ai]
 congr 1
 ·simp
 ·apply kA
  intro k _;simp only [Function.comp]
  congr 1
  omega
abbrev rm (S : aM) (q : Nat) (m : Int) : aM := S.set q (.lst [.int m])
theorem yG {bs : List (List Stt)} : (bls bs).length = bs.length := by simp [bls]
theorem M7 {ns : List Int} {lo hi : Option Int} : ∃ ms : List Int, cutD (ns.map D.int) lo hi = ms.map D.int /\ ms.length <= ns.length := by
 refine ⟨(ns.drop (HT.sIx (ns.map D.int).length 0 lo)).take (HT.sIx (ns.map D.int).length (ns.map D.int).length hi - HT.sIx (ns.map D.int).length 0 lo), ?_, ?_⟩
 ·simp only [cutD, List.map_take, List.map_drop]
 ·simp; omega
theorem Mq {ns : List Int} {S : aM} (hn : ns.length <= 63) : ∃ ks : List Int, xO [.scr ns] S = .ok (.cel S.length) (S ++ [PL ks]) /\ 2 <= ks.length := by
 obtain ⟨ms, e, hl⟩ := M7 (ns := ns) (lo := none) (hi := some 63);rw [show xO [.scr ns] S = cH (yK [some (.scr ns), none] S) from rfl]
 unfold yK;simp! [e];rw [gN (g := D.int) (sz (by omega)) fun i hi => ⟨_, rfl, ?_⟩]
 ·cases ms with
  | nil =>
   refine ⟨[0, 0], ?_, by simp⟩
   simp! [dG, List.isEmpty_nil, jX (show [D.int 0].length + [D.int 0].length <= sizeLine from sz (by simp))]
   rfl
  | cons i r =>
   refine ⟨0 :: i :: r, ?_, by simp⟩
   simp! [bG, List.isEmpty_cons, jX (show [D.int 0].length + (D.int i :: r.map D.int).length <= sizeLine from sz (by simp at *; omega))]
   rfl
 ·simp! [if_true]
structure Dr (p q c N : Nat) (many : Int) (S : aM) (r l : Int) : Prop where
 ls : LS S
 n2 : 2 <= N
 pool : ∃ ks, S[p]? = some (PL ks) /\ ks.length = N
 room : S[q]? = some (PL [r])
 call : S[c]? = some (PL [l, many])
 pq : p ≠ q
 pc : p ≠ c
 qc : q ≠ c
def Sam (Z : List Nat) (S S' : aM) : Prop := S'.length = S.length /\ ∀ i : Nat, i ∉ Z -> S'[i]? = S[i]?
theorem Sam.refl {Z : List Nat} {S : aM} : Sam Z S S := ⟨rfl, fun _ _ => rfl⟩
theorem Sam.trans {Z : List Nat} {S S1 S2 : aM} (a : Sam Z S S1) (b : Sam Z S1 S2) : Sam Z S S2 := ⟨by rw [b.1, a.1], fun i h => by rw [b.2 i h, a.2 i h]⟩
theorem Sam.set {Z : List Nat} {S : aM} {k : Nat} {x : Cell} (h : k ∈ Z) : Sam Z S (S.set k x) := ⟨by simp, fun i hi => by
 rw [aQ, if_neg (show ¬ k = i from fun e => hi (by rw [<- e]; exact h))]⟩
section
variable {p q c N : Nat} {many r l : Int} {S : aM}
theorem eO {S : aM} {i j : Nat} {x : Cell} (h : i ≠ j) : (S.set i x)[j]? = S[j]? := by rw [aQ, if_neg h]
theorem Dr.setp {ks : List Int} (D : Dr p q c N many S r l) (h : ks.length = N) : Dr p q c N many (S.set p (PL ks)) r l := by
 obtain ⟨k0, h0, _⟩ := D.pool;exact ⟨D.ls.set, D.n2, ⟨ks, jU h0, h⟩, by rw [eO D.pq]; exact D.room, by rw [eO D.pc]; exact D.call, D.pq, D.pc, D.qc⟩
theorem Dr.setq {r' : Int} (D : Dr p q c N many S r l) : Dr p q c N many (S.set q (PL [r'])) r' l := by
 obtain ⟨k0, h0, h1⟩ := D.pool;exact ⟨D.ls.set, D.n2, ⟨k0, by rw [eO (Ne.symm D.pq)]; exact h0, h1⟩, jU D.room, by rw [eO D.qc]; exact D.call, D.pq, D.pc, D.qc⟩
theorem Dr.setc {l' : Int} (D : Dr p q c N many S r l) : Dr p q c N many (S.set c (PL [l', many])) r l' := by
 obtain ⟨k0, h0, h1⟩ := D.pool;exact ⟨D.ls.set, D.n2, ⟨k0, by rw [eO (Ne.symm D.pc)]; exact h0, h1⟩, by rw [eO (Ne.symm D.qc)]; exact D.room, jU D.call, D.pq, D.pc, D.qc⟩
theorem Dr.draw {k : Int} (D : Dr p q c N many S r l) (h0 : 0 < k) (h1 : k < 1073741824) : ∃ (d : Int) (S' : aM), bA [.cel p, .dat (.int k)] S = .ok (.dat (.int d)) S' /\ 0 <= d /\ d < k /\ Dr p q c N many S' r l /\ Sam [p, q, c] S S' := by
 obtain ⟨ks, hk, hl⟩ := D.pool;obtain ⟨d, ks', e, h2, h3, l⟩ := dW (S := S) (p := p) (ks := ks) ⟨hk, by rw [hl]; exact D.n2⟩ h0 h1
 exact ⟨d, _, e, h2, h3, D.setp (by omega), Sam.set (by simp)⟩
theorem Dr.ixq (D : Dr p q c N many S r l) : cQ (.cel q) (.dat (.int 0)) S = .ok (.dat (.int r)) S := uV (k := 0) (n := 0) D.room rfl rfl
theorem Dr.ixc0 (D : Dr p q c N many S r l) : cQ (.cel c) (.dat (.int 0)) S = .ok (.dat (.int l)) S := uV (k := 0) (n := 0) D.call rfl rfl
theorem Dr.ixc1 (D : Dr p q c N many S r l) : cQ (.cel c) (.dat (.int 1)) S = .ok (.dat (.int many)) S := uV (k := 1) (n := 1) D.call rfl rfl
theorem Dr.augq {w : Int} {g : Int -> Int -> Int} {o i e : FE} {ρ : Ev} (D : Dr p q c N many S r l) (ho : o ρ S = .ok (.cel q) S) (hi : i ρ S = .ok (.dat (.int 0)) S) (he : e ρ S = .ok (.dat (.int w)) S) : lB g o i e ρ S = .next ρ (S.set q (PL [g r w])) := CB (k := 0) (n := 0) ho hi he D.room rfl rfl
theorem Dr.augc {w : Int} {g : Int -> Int -> Int} {o i e : FE} {ρ : Ev} (D : Dr p q c N many S r l) (ho : o ρ S = .ok (.cel c) S) (hi : i ρ S = .ok (.dat (.int 0)) S) (he : e ρ S = .ok (.dat (.int w)) S) : lB g o i e ρ S = .next ρ (S.set c (PL [g l w, many])) := CB (k := 0) (n := 0) ho hi he D.call rfl rfl
end
section
variable {S : aM} {cl : Bool} {a b c d e f g h i j : D}
theorem kLst4 : Bp cl [.dat a, .dat b, .dat c, .dat d] S = newL cl [a, b, c, d] S := rfl
theorem kLst5 : Bp cl [.dat a, .dat b, .dat c, .dat d, .dat e] S = newL cl [a, b, c, d, e] S := rfl
theorem kLst9 : Bp cl [.dat a, .dat b, .dat c, .dat d, .dat e, .dat f, .dat g, .dat h, .dat i] S = newL cl [a, b, c, d, e, f, g, h, i] S := rfl
theorem kTup8 : kTup [.dat a, .dat b, .dat c, .dat d, .dat e, .dat f, .dat g, .dat h] S = .ok (.dat (.tup [a, b, c, d, e, f, g, h])) S := rfl
end
def menus : List (List Int) := [[0, 0, 0, 1, 1], [0, 0, 2, 3, 1], [0, 6, 7, 8, 8], [0, 4, 5, 6, 7], [0, 1, 3, 6, 8], [0, 1, 2, 3, 4, 5, 6, 7, 8], [1, 1, 2, 3, 4], [5, 6, 7, 8, 8]]
def KZ : List D := menus.map fun ks => .lst (ks.map D.int)
theorem N5 {mood : Int} {S : aM} (h0 : 0 <= mood) (h1 : mood <= 7) : ∃ ks : List Int, cQ (.dat (.lst KZ)) (.dat (.int mood)) S = .ok (.dat (.lst (ks.map D.int))) S /\ 0 < ks.length /\ ks.length <= 9 /\ ∀ k ∈ ks, 0 <= k /\ k <= 8 := by
 rcases (by omega : mood = 0 \/ mood = 1 \/ mood = 2 \/ mood = 3 \/ mood = 4 \/ mood = 5 \/ mood = 6 \/ mood = 7) with rfl | rfl | rfl | rfl | rfl | rfl | rfl | rfl
 ·exact ⟨[0, 0, 0, 1, 1], rfl, by decide, by decide, by decide⟩
 ·exact ⟨[0, 0, 2, 3, 1], rfl, by decide, by decide, by decide⟩
 ·exact ⟨[0, 6, 7, 8, 8], rfl, by decide, by decide, by decide⟩
 ·exact ⟨[0, 4, 5, 6, 7], rfl, by decide, by decide, by decide⟩
 ·exact ⟨[0, 1, 3, 6, 8], rfl, by decide, by decide, by decide⟩
 ·exact ⟨[0, 1, 2, 3, 4, 5, 6, 7, 8], rfl, by decide, by decide, by decide⟩
 ·exact ⟨[1, 1, 2, 3, 4], rfl, by decide, by decide, by decide⟩
 ·exact ⟨[5, 6, 7, 8, 8], rfl, by decide, by decide, by decide⟩
theorem NF {ks : List Int} {d : Int} {S : aM} (h0 : 0 <= d) (h1 : d < (ks.length : Int)) : ∃ k ∈ ks, cQ (.dat (.lst (ks.map D.int))) (.dat (.int d)) S = .ok (.dat (.int k)) S := by
 have hd : d.toNat < ks.length := by omega
 refine ⟨ks[d.toNat], eD hd, uA ?_⟩
 rw [fR (n := d.toNat) (by omega)]
 simp [hd]
theorem Ky {d : Int} {S : aM} (h0 : 0 <= d) (h1 : d < 8) : ∃ k : Int, cQ (.dat (.tup [.int (-1), .int (-1), .int (-1), .int 1, .int 1, .int 0, .int 2, .int (-3)])) (.dat (.int d)) S = .ok (.dat (.int k)) S /\ -3 <= k /\ k <= 3 := by
 rcases (by omega : d = 0 \/ d = 1 \/ d = 2 \/ d = 3 \/ d = 4 \/ d = 5 \/ d = 6 \/ d = 7) with rfl | rfl | rfl | rfl | rfl | rfl | rfl | rfl
 ·exact ⟨-1, rfl, by decide, by decide⟩
 ·exact ⟨-1, rfl, by decide, by decide⟩
 ·exact ⟨-1, rfl, by decide, by decide⟩
 ·exact ⟨1, rfl, by decide, by decide⟩
 ·exact ⟨1, rfl, by decide, by decide⟩
 ·exact ⟨0, rfl, by decide, by decide⟩
 ·exact ⟨2, rfl, by decide, by decide⟩
 ·exact ⟨-3, rfl, by decide, by decide⟩
theorem QK {d a : Int} {S : aM} (h0 : 0 <= d) (h1 : d < 4) (ha : -9 <= a) (hb : a <= 9) : ∃ k : Int, cQ (.dat (.lst [.int a, .int 2, .int (a % 3 - 1), .int 1])) (.dat (.int d)) S = .ok (.dat (.int k)) S /\ -9 <= k /\ k <= 9 := by
 have := gA a (show (3 : Int) ≠ 0 by decide)
 have := fM a (show (0 : Int) < 3 by decide)
 rcases (by omega : d = 0 \/ d = 1 \/ d = 2 \/ d = 3) with rfl | rfl | rfl | rfl
 ·exact ⟨a, rfl, ha, hb⟩
 ·exact ⟨2, rfl, by decide, by decide⟩
 ·exact ⟨a % 3 - 1, rfl, by omega, by omega⟩
 ·exact ⟨1, rfl, by decide, by decide⟩
theorem HM {S : aM} {p : Nat} {ks : List Int} {mood : Int} (hP : PoolAt S p ks) (h0 : 0 <= mood) (h7 : mood <= 7) : ∃ (c : Cmd) (ks' : List Int), iE [.cel p, .dat (.int mood)] S = .ok (.dat c.d) (S.set p (PL ks')) /\ c.Ok /\ ks'.length = ks.length := by
 obtain ⟨ms, e0, m1, m2, m3⟩ := N5 (mood := mood) (S := S) h0 h7;obtain ⟨d, k1, e1, d0, d1, l1⟩ := dW hP (k := (ms.length : Int)) (by omega) (by omega)
 have P1 := hP.next l1;obtain ⟨kd, hk, ei⟩ := NF (ks := ms) (d := d) (S := S.set p (PL k1)) d0 d1;obtain ⟨hk0, hk8⟩ := m3 kd hk;have eE : iE [.cel p, .dat (.int mood)] S = cH (pV [some (.cel p), some (.dat (.int mood)), none, none, none, none] S) := rfl;rw [eE];unfold pV;have em : ∀ S, dD false (.dat (.lst [.lst [.int 0, .int 0, .int 0, .int 1, .int 1], .lst [.int 0, .int 0, .int 2, .int 3, .int 1], .lst [.int 0, .int 6, .int 7, .int 8, .int 8], .lst [.int 0, .int 4, .int 5, .int 6, .int 7], .lst [.int 0, .int 1, .int 3, .int 6, .int 8]])) (.dat (.lst [.lst [.int 0, .int 1, .int 2, .int 3, .int 4, .int 5, .int 6, .int 7, .int 8], .lst [.int 1, .int 1, .int 2, .int 3, .int 4], .lst [.int 5, .int 6, .int 7, .int 8, .int 8]])) S = .ok (.dat (.lst KZ)) S := fun S => rfl
 simp! [kLst5, kLst9, em, e0, bB, e1, ei];obtain ⟨d2, k2, e2, h2, h3, l2⟩ := dW P1 (k := 19) (by decide) (by decide)
 obtain ⟨d3, k3, e3, h4, h5, l3⟩ := dW P1 (k := 3) (by decide) (by decide)
 obtain ⟨d4, k4, e4, h6, h7, l4⟩ := dW P1 (k := 8) (by decide) (by decide)
 obtain ⟨d5, k5, e5, h8, h9, l5⟩ := dW (P1.next l2) (k := 19) (by decide) (by decide)
 obtain ⟨d6, k6, e6, h10, h11, l6⟩ := dW (P1.next l2) (k := 4) (by decide) (by decide)
 simp only [pB] at e2 e3 e4 e5 e6;rcases (by omega : kd = 0 \/ kd = 1 \/ kd = 2 \/ kd = 3 \/ kd = 4 \/ kd = 5 \/ kd = 6 \/ kd = 7 \/ kd = 8) with rfl | rfl | rfl | rfl | rfl | rfl | rfl | rfl | rfl
 ·obtain ⟨v, ev, v1, v2⟩ := QK (a := d2 - 9) (S := S.set p (PL k6)) h10 h11 (by omega) (by omega)
  simp! [e2, kLst4, e6, nE (show (0 : Int) < 3 by decide), ev]
  exact ⟨.go v, k6, rfl, ⟨v1, v2⟩, by omega⟩
 ·simp! [e3]
  exact ⟨.turn (1 + d3), k3, rfl, ⟨by omega, by omega⟩, by omega⟩
 ·simp! [if_true]
  exact ⟨.mirror, k1, rfl, trivial, l1⟩
 ·obtain ⟨v, ev, v1, v2⟩ := Ky (S := S.set p (PL k4)) h6 h7
  simp! [kTup8, e4, ev];exact ⟨.scale v, k4, rfl, ⟨v1, v2⟩, by omega⟩
 ·simp! [hI, e2, e5]
  exact ⟨.aim (d2 - 9) (d5 - 9), k5, rfl, ⟨⟨by omega, by omega⟩, by omega, by omega⟩, by omega⟩
 ·simp! [tY, e2, e5]
  exact ⟨.place (d2 - 9) (d5 - 9), k5, rfl, ⟨⟨by omega, by omega⟩, by omega, by omega⟩, by omega⟩
 ·simp! [hI]
  exact ⟨.mark, k1, rfl, trivial, l1⟩
 ·simp! [tY]
  exact ⟨.ret, k1, rfl, trivial, l1⟩
 ·simp! [FP]
  exact ⟨.exch, k1, rfl, trivial, l1⟩
theorem Mv {S : aM} {p : Nat} {ks : List Int} {mood : Int} (hP : PoolAt S p ks) : ∃ (c c' : Cmd) (ks' : List Int), qU [.cel p, .dat (.int mood)] S = .ok (.dat (.lst [c.d, c'.d])) (S.set p (PL ks')) /\ c.Ok /\ c'.Ok /\ ks'.length = ks.length := by
 obtain ⟨d, k1, e1, d0, d1, l1⟩ := dW hP (k := 3) (by decide) (by decide)
 have P1 := hP.next l1;obtain ⟨d2, k2, e2, h2, h3, l2⟩ := dW P1 (k := 4) (by decide) (by decide)
 simp only [pB] at e2;have eE : qU [.cel p, .dat (.int mood)] S = cH (yL [some (.cel p), some (.dat (.int mood)), none, none, none] S) := rfl;rw [eE];unfold yL;have fin : ∀ (x : Int) (S : aM), 0 <= x -> x < 4 -> ∃ c c' : Cmd, cQ (.dat (.lst ([.lst [.tup [.str "go", .int (1 + d)], .tup [.str "go", .int (-(1 + d))]], .lst [.tup [.str "turn", .int (1 + d)], .tup [.str "turn", .int (4 - (1 + d))]], .lst [.tup [.str "mirror"], .tup [.str "mirror"]]] ++ [.lst [.tup [.str "exchange"], .tup [.str "exchange"]]]))) (.dat (.int x)) S = .ok (.dat (.lst [c.d, c'.d])) S /\ c.Ok /\ c'.Ok := fun x S h0 h1 => by
  rcases (by omega : x = 0 \/ x = 1 \/ x = 2 \/ x = 3) with rfl | rfl | rfl | rfl
  ·exact ⟨.go (1 + d), .go (-(1 + d)), rfl, ⟨by omega, by omega⟩, ⟨by omega, by omega⟩⟩
  ·exact ⟨.turn (1 + d), .turn (4 - (1 + d)), rfl, ⟨by omega, by omega⟩, ⟨by omega, by omega⟩⟩
  ·exact ⟨.mirror, .mirror, rfl, trivial, trivial⟩
  ·exact ⟨.exch, .exch, rfl, trivial, trivial⟩
 simp! [e1, e2]
 by_cases hm : mood = 6
 ·subst hm
  have := gA d2 (show (2 : Int) ≠ 0 by decide)
  have := fM d2 (show (0 : Int) < 2 by decide)
  obtain ⟨c, c', e, o1, o2⟩ := fin (1 + d2 % 2) (S.set p (PL k2)) (by omega) (by omega)
  simp! [nE (show (0 : Int) < 2 by decide), jX, sz, e]
  exact ⟨c, c', k2, rfl, o1, o2, by omega⟩
 ·by_cases h7 : mood = 7
  ·subst h7
   obtain ⟨c, c', e, o1, o2⟩ := fin 3 (S.set p (PL k2)) (by omega) (by omega)
   simp! [jX, sz, e];exact ⟨c, c', k2, rfl, o1, o2, by omega⟩
  ·obtain ⟨c, c', e, o1, o2⟩ := fin d2 (S.set p (PL k2)) (by omega) (by omega)
   simp! [decide_eq_false hm, decide_eq_false h7, jX, sz, e];exact ⟨c, c', k2, rfl, o1, o2, by omega⟩
mutual
def Stt.Gd (many : Int) : Stt -> Nat -> Prop
 | .cmd c, _ => c.Ok
 | .fin w, _ => 0 <= w /\ w <= 1
 | .keep b, n => 0 < n /\ GdL many b (n - 1)
 | .again b, n => 0 < n /\ GdL many b (n - 1)
 | .either a b, n => 0 < n /\ GdL many a (n - 1) /\ GdL many b (n - 1)
 | .call g _ a b, n => (0 < n /\ 0 <= g /\ g < many) /\ GdL many a (n - 1) /\ GdL many b (n - 1)
 | .bad, _ => False
 | .odd _, _ => False
def GdL (many : Int) : List Stt -> Nat -> Prop
 | [], _ => True
 | s :: r, n => s.Gd many n /\ GdL many r n
end
mutual
def Stt.size : Stt -> Nat
 | .keep b => bW b + 1
 | .again b => bW b + 1
 | .either a b => bW a + bW b + 1
 | .call _ _ a b => bW a + bW b + 1
 | _ => 1
def bW : List Stt -> Nat
 | [] => 0
 | s :: r => s.size + bW r
end
theorem size_pos (s : Stt) : 1 <= s.size := by cases s <;> simp [Stt.size]
theorem iP : ∀ l : List Stt, l.length <= bW l
 | [] => bR _
 | s :: r => by have := iP r; have := size_pos s; simp [bW]; omega
theorem hE : ∀ l m : List Stt, bW (l ++ m) = bW l + bW m
 | [], m => by simp [bW]
 | s :: r, m => by simp [bW, hE r m]; omega
theorem GdL.app {many : Int} : ∀ {l m : List Stt} {n : Nat}, GdL many l n -> GdL many m n -> GdL many (l ++ m) n
 | [], m, n, _, h => h
 | s :: r, m, n, h, h' => ⟨h.1, GdL.app h.2 h'⟩
mutual
theorem Stt.Gd.ok {many : Int} : ∀ {s : Stt} {n : Nat}, s.Gd many n -> s.size <= 11 -> s.Ok many n
 | .cmd c, n, h, _ => h
 | .fin w, n, h, _ => h
 | .keep b, n, h, hs => ⟨h.1, GdL.ok h.2 (by simp [Stt.size] at hs; omega)⟩
 | .again b, n, h, hs => ⟨h.1, GdL.ok h.2 (by simp [Stt.size] at hs; omega)⟩
 | .either a b, n, h, hs => ⟨h.1, GdL.ok h.2.1 (by simp [Stt.size] at hs; omega), GdL.ok h.2.2 (by simp [Stt.size] at hs; omega)⟩
 | .call g _ a b, n, h, hs => ⟨h.1, GdL.ok h.2.1 (by simp [Stt.size] at hs; omega), GdL.ok h.2.2 (by simp [Stt.size] at hs; omega)⟩
 | .bad, n, h, _ => h.elim
 | .odd _, n, h, _ => h.elim
theorem GdL.ok {many : Int} : ∀ {l : List Stt} {n : Nat}, GdL many l n -> bW l <= 10 -> OkL many l n
 | [], n, _, _ => trivial
 | s :: r, n, h, hs => by
  have := iP r;have := size_pos s;simp only [bW] at hs;exact ⟨⟨Stt.Gd.ok h.1 (by omega), by omega⟩, GdL.ok h.2 (by omega)⟩
end
mutual
theorem Ls {many : Int} : ∀ {s : Stt} {n : Nat} {lv met : Int} {here : List Int}, s.Gd many n -> 0 <= lv -> lv + n <= 3 -> s.size <= 9 -> met + s.size <= 13 -> 0 <= met -> DJ lv here s met = .okk (met + s.size - 1)
 | .cmd c, n, lv, met, here, h, h0, h3, h9, h12, hm => by simp [DJ, Stt.size]
 | .fin c, n, lv, met, here, h, h0, h3, h9, h12, hm => by simp [DJ, Stt.size]
 | .bad, n, lv, met, here, h, h0, h3, h9, h12, hm => h.elim
 | .odd _, n, lv, met, here, h, h0, h3, h9, h12, hm => h.elim
 | .keep b, n, lv, met, here, h, h0, h3, h9, h12, hm => by
  have := h.1;simp only [Stt.size] at h9 h12;rw [DJ, mW (n := n - 1) h.2 (by omega) (by omega) (by omega) (by omega) hm (by omega), Stt.size]
  congr 1
  omega
 | .again b, n, lv, met, here, h, h0, h3, h9, h12, hm => by
  have := h.1;simp only [Stt.size] at h9 h12;rw [DJ, mW (n := n - 1) h.2 (by omega) (by omega) (by omega) (by omega) hm (by omega), Stt.size]
  congr 1
  omega
 | .either a b, n, lv, met, here, h, h0, h3, h9, h12, hm => by
  have := h.1;simp only [Stt.size] at h9 h12;rw [DJ, mW (n := n - 1) h.2.1 (by omega) (by omega) (by omega) (by omega) hm (by omega), FR.then_okk, mW (n := n - 1) h.2.2 (by omega) (by omega) (by omega) (by omega) (by omega) (by omega), Stt.size]
  congr 1
  omega
 | .call g f a b, n, lv, met, here, h, h0, h3, h9, h12, hm => by
  have := h.1.1;simp only [Stt.size] at h9 h12;rw [DJ, mW (n := n - 1) h.2.1 (by omega) (by omega) (by omega) (by omega) hm (by omega), FR.then_okk, mW (n := n - 1) h.2.2 (by omega) (by omega) (by omega) (by omega) (by omega) (by omega), Stt.size]
  congr 1
  omega
theorem mW {many : Int} : ∀ {l : List Stt} {n : Nat} {lv at_ met : Int} {path : List Int}, GdL many l n -> 0 <= lv -> lv + n <= 3 -> at_ + bW l <= 8 -> met + bW l <= 12 -> 0 <= met -> 0 <= at_ -> wF lv path at_ l met = .okk (met + bW l)
 | [], n, lv, at_, met, path, h, h0, h3, h8, h12, hm, ha => by simp [wF, bW]
 | s :: r, n, lv, at_, met, path, h, h0, h3, h8, h12, hm, ha => by
  have hp := size_pos s;simp only [bW] at h8 h12;have hw : s.wf lv = true := by
   cases s with
   | cmd c => rfl
   | fin c => rfl
   | bad => exact h.1.elim
   | odd x => exact h.1.elim
   | keep b => have := h.1.1; simp [Stt.wf]; omega
   | again b => have := h.1.1; simp [Stt.wf]; omega
   | either a b => have := h.1.1; simp [Stt.wf]; omega
   | call g f a b => have := h.1.1.1; simp [Stt.wf]; omega
  rw [wF, if_neg (by rintro (e | e | e) <;> first | omega | (rw [hw] at e; cases e)), Ls (n := n) h.1 h0 h3 (by omega) (by omega) (by omega), FR.then_okk, mW (n := n) h.2 h0 h3 (by omega) (by omega) (by omega) (by omega), bW]
  congr 1
  omega
end
section
variable {p q c N : Nat} {many : Int}
theorem Dr.command {S : aM} {r l mood : Int} (D : Dr p q c N many S r l) (h0 : 0 <= mood) (h7 : mood <= 7) : ∃ (cm : Cmd) (S' : aM), iE [.cel p, .dat (.int mood)] S = .ok (.dat cm.d) S' /\ cm.Ok /\ Dr p q c N many S' r l /\ Sam [p, q, c] S S' := by
 obtain ⟨ks, hk, hl⟩ := D.pool;obtain ⟨cm, ks', e, ho, l⟩ := HM (S := S) (p := p) (ks := ks) ⟨hk, by rw [hl]; exact D.n2⟩ h0 h7
 exact ⟨cm, _, e, ho, D.setp (by omega), Sam.set (by simp)⟩
theorem Dr.pair {S : aM} {r l mood : Int} (D : Dr p q c N many S r l) : ∃ (cm cm' : Cmd) (S' : aM), qU [.cel p, .dat (.int mood)] S = .ok (.dat (.lst [cm.d, cm'.d])) S' /\ cm.Ok /\ cm'.Ok /\ Dr p q c N many S' r l /\ Sam [p, q, c] S S' := by
 obtain ⟨ks, hk, hl⟩ := D.pool;obtain ⟨cm, cm', ks', e, ho, ho', l⟩ := Mv (S := S) (p := p) (ks := ks) (mood := mood) ⟨hk, by rw [hl]; exact D.n2⟩
 exact ⟨cm, cm', _, e, ho, ho', D.setp (by omega), Sam.set (by simp)⟩
structure Left (p q c N : Nat) (many : Int) (S : aM) (r : Int) (n : Nat) (ls : List Stt) (S' : aM) (r' l' : Int) : Prop where
 dr : Dr p q c N many S' r' l'
 sam : Sam [p, q, c] S S'
 r0 : 0 <= r'
 sz : (bW ls : Int) + r' <= r
 gd : GdL many ls n
end
def Ej (n : Nat) : Prop := ∀ {p q c N : Nat} {many : Int} {S : aM} {r l mood lv low : Int}, Dr p q c N many S r l -> 0 <= mood -> mood <= 7 -> 0 <= lv -> lv <= 3 -> 0 <= low -> 0 <= r -> r <= 8 -> many <= 3 -> 2 * (3 - lv.toNat) + r.toNat + 2 <= n ->
 ∃ (ls : List Stt) (S' : aM) (r' l' : Int), uU n [.cel p, .dat (.int mood), .dat (.int lv), .cel q, .cel c, .dat (.int low)] S = .ok (.dat (.lst (cD ls))) S' /\ Left p q c N many S r (3 - lv.toNat) ls S' r' l'
def yR (n : Nat) : Prop := ∀ {p q c N : Nat} {many : Int} {S : aM} {r l mood lv low : Int}, Dr p q c N many S r l -> 0 <= mood -> mood <= 7 -> 0 <= lv -> lv <= 3 -> 0 <= low -> 0 < r -> r <= 8 -> many <= 3 -> 2 * (3 - lv.toNat) + r.toNat + 1 <= n ->
 ∃ (ls : List Stt) (S' : aM) (r' l' : Int), kK n [.cel p, .dat (.int mood), .dat (.int lv), .cel q, .cel c, .dat (.int low)] S = .ok (.dat (.lst (cD ls))) S' /\ Left p q c N many S r (3 - lv.toNat) ls S' r' l'
theorem wO {n : Nat} (ih : yR n) {p q c N : Nat} {many mood lv low : Int} (h0 : 0 <= mood) (h7 : mood <= 7) (l0 : 0 <= lv) (l3 : lv <= 3) (lo : 0 <= low) (hm : many <= 3) :
  ∀ (is : List D) (ls : List Stt) (S : aM) (r l : Int), Dr p q c N many S r l -> 0 <= r -> (bW ls : Int) + r <= 8 -> 2 * (3 - lv.toNat) + r.toNat + 1 <= n -> GdL many ls (3 - lv.toNat) -> ∃ (ls' : List Stt) (S' : aM) (r' l' : Int),
   loop (.nm 7) (kE (kK n)) is [some (.cel p), some (.dat (.int mood)), some (.dat (.int lv)), some (.cel q), some (.cel c), some (.dat (.int low)), some (.dat (.lst (cD ls))), none] S =
    .next [some (.cel p), some (.dat (.int mood)), some (.dat (.int lv)), some (.cel q), some (.cel c), some (.dat (.int low)), some (.dat (.lst (cD ls'))), none] S' /\ Left p q c N many S (bW ls + r) (3 - lv.toNat) ls' S' r' l'
 | [], ls, S, r, l, D, r0, r8, hn, g => ⟨ls, S, r, l, rfl, D, Sam.refl, r0, Int.le_refl _, g⟩
 | i :: is, ls, S, r, l, D, r0, r8, hn, g => by
  rw [loop];simp only [sJ, bM, bH];rw [kE];simp! [D.ixq]
  by_cases hr : 0 < r
  ·obtain ⟨l1, S1, r1, c1, e1, L1⟩ := ih D h0 h7 l0 l3 lo hr (by omega) hm hn
   have hl := iP ls;have hl1 := iP l1;have hsz := L1.sz;have hr1 := L1.r0;simp! [decide_eq_true hr, e1, jX (show (cD ls).length + (cD l1).length <= sizeLine by rw [dF, dF]; exact PH.sz (by omega))]
   rw [<- kE, <- iL];obtain ⟨l2, S2, r2, c2, e2, L2⟩ := wO ih (p := p) (q := q) (c := c) (N := N) h0 h7 l0 l3 lo hm is (ls ++ l1) S1 r1 c1 L1.dr hr1 (by rw [hE]; omega) (by omega) (g.app L1.gd)
   have := L2.sz;rw [hE] at this;exact ⟨l2, S2, r2, c2, e2, L2.dr, L1.sam.trans L2.sam, L2.r0, by omega, L2.gd⟩
  ·simp! [decide_eq_false hr]
   rw [<- kE];exact wO ih h0 h7 l0 l3 lo hm is ls S r l D r0 r8 hn g
theorem MH {n : Nat} (ih : yR n) : Ej (n + 1) := by
 intro p q c N many S r l mood lv low D h0 h7 l0 l3 lo r0 r8 hm hn;rw [show uU (n + 1) [.cel p, .dat (.int mood), .dat (.int lv), .cel q, .cel c, .dat (.int low)] S = cH (vE (kK n) [some (.cel p), some (.dat (.int mood)), some (.dat (.int lv)), some (.cel q), some (.cel c), some (.dat (.int low)), none, none] S) from rfl]
 unfold vE;obtain ⟨d, S1, e1, d0, d1, D1, s1⟩ := D.draw (k := 3) (by decide) (by decide)
 obtain ⟨l2, S2, r2, c2, e2, L2⟩ := wO ih h0 h7 l0 l3 lo hm (jH 0 d.toNat) [] S1 r l D1 r0 (by simp [bW]; omega) (by omega) trivial
 simp! [e1, iV (show -(2 ^ 62) <= d by omega) (show d < 2 ^ 62 by omega)]
 rw [show ([] : List PH.D) = cD [] from rfl, e2]
 simp! [if_true];have := L2.sz;simp only [bW] at this;exact ⟨l2, S2, r2, c2, rfl, L2.dr, s1.trans L2.sam, L2.r0, by omega, L2.gd⟩
theorem PB {a b : PH.D} : cutD [a, b] none (some 1) = [a] := rfl
theorem ds1 {s : Stt} : [s.d] = cD [s] := rfl
theorem KP {n : Nat} (ihB : Ej n) (ihP : yR n) : yR (n + 1) := by
 intro p q c N many S r l mood lv low D h0 h7 l0 l3 lo r0 r8 hm hn;rw [show kK (n + 1) [.cel p, .dat (.int mood), .dat (.int lv), .cel q, .cel c, .dat (.int low)] S = cH (uZ (uU n) (kK n) [some (.cel p), some (.dat (.int mood)), some (.dat (.int lv)), some (.cel q), some (.cel c), some (.dat (.int low)), none, none, none, none, none, none] S) from rfl]
 unfold uZ;obtain ⟨d, S1, e1, d0, d1, D1, s1⟩ := D.draw (k := 17) (by decide) (by decide)
 have ea : ∀ z : Option Vl, lB (fun x y => x - y) (aC 3) (mC (.int 0)) (mC (.int 1)) [some (.cel p), some (.dat (.int mood)), some (.dat (.int lv)), some (.cel q), some (.cel c), some (.dat (.int low)), z, none, none, none, none, none] S1 = .next [some (.cel p), some (.dat (.int mood)), some (.dat (.int lv)), some (.cel q), some (.cel c), some (.dat (.int low)), z, none, none, none, none, none] (S1.set q (PL [r - 1])) := fun z => D1.augq rfl rfl rfl
 have D2 := D1.setq (r' := r - 1);have s2 : Sam [p, q, c] S (S1.set q (PL [r - 1])) := s1.trans (Sam.set (by simp))
 generalize S1.set q (PL [r - 1]) = S2 at ea D2 s2;obtain ⟨cm, S3, e2, c2, D3, s3⟩ := D2.command h0 h7;have LC : Left p q c N many S r (3 - lv.toNat) [.cmd cm] S3 (r - 1) l := ⟨D3, s2.trans s3, by omega, by simp [bW, Stt.size]; omega, c2, trivial⟩
 have oc : ∃ (ls : List Stt) (S' : aM) (r' l' : Int), cH (Out.ret (.dat (.lst [cm.d])) S3) = .ok (.dat (.lst (cD ls))) S' /\ Left p q c N many S r (3 - lv.toNat) ls S' r' l' := ⟨_, _, _, _, rfl, LC⟩;rcases (by omega : d < 6 \/ d = 6 \/ (7 <= d /\ d < 15 /\ 2 < lv) \/ (7 <= d /\ d < 9 /\ lv <= 2) \/ (d = 9 /\ lv <= 2) \/ (d = 10 /\ lv <= 2) \/ (11 <= d /\ d < 15 /\ lv <= 2) \/ (15 <= d)) with hd | hd | ⟨ha, hb, hl⟩ | ⟨ha, hb, hl⟩ | ⟨hd, hl⟩ | ⟨hd, hl⟩ | ⟨ha, hb, hl⟩ | hd
 ·simp! [e1, decide_eq_false (show ¬ (6 : Int) < d by omega), decide_eq_false (show ¬ d = 6 by omega), decide_eq_false (show ¬ (10 : Int) < d by omega), ea, decide_eq_true hd, e2]
  exact oc
 ·subst hd
  by_cases hr : r < 2
  ·simp! [e1, D1.ixq, decide_eq_true hr, ea, e2]
   exact oc
  ·have eb : ∀ z : Option Vl, lB (fun x y => x - y) (aC 3) (mC (.int 0)) (mC (.int 1)) [some (.cel p), some (.dat (.int mood)), some (.dat (.int lv)), some (.cel q), some (.cel c), some (.dat (.int low)), z, none, none, none, none, none] S2 = .next [some (.cel p), some (.dat (.int mood)), some (.dat (.int lv)), some (.cel q), some (.cel c), some (.dat (.int low)), z, none, none, none, none, none] (S2.set q (PL [r - 1 - 1])) := fun z => D2.augq rfl rfl rfl
   have D4 := D2.setq (r' := r - 1 - 1);have s4 : Sam [p, q, c] S (S2.set q (PL [r - 1 - 1])) := s2.trans (Sam.set (by simp))
   generalize S2.set q (PL [r - 1 - 1]) = S4 at eb D4 s4;obtain ⟨ca, cb, S5, e5, oa, ob, D5, s5⟩ := D4.pair (mood := mood)
   by_cases hr2 : 0 < r - 1 - 1
   ·obtain ⟨l6, S6, r6, c6, e6, L6⟩ := ihP D5 h0 h7 l0 l3 lo hr2 (by omega) hm (by omega)
    have hs := L6.sz;have := L6.r0;have hl6 := iP l6;simp! [e1, D1.ixq, decide_eq_false hr, ea, eb, e5, D5.ixq, decide_eq_true hr2, e6, PB, C7, jX (show [ca.d].length + (cD l6).length <= sizeLine from sz (by rw [dF]; simp; omega)), jX (show ([ca.d] ++ cD l6).length + [cb.d].length <= sizeLine from sz (by simp [dF]; omega))]
    refine ⟨[.cmd ca] ++ l6 ++ [.cmd cb], S6, r6, c6, ?_, L6.dr, s4.trans (s5.trans L6.sam), L6.r0, ?_, ?_⟩
    ·rw [iL, iL]; rfl
    ·rw [hE, hE]; simp only [bW, Stt.size]; omega
    ·exact GdL.app (GdL.app (l := [.cmd ca]) ⟨oa, trivial⟩ L6.gd) ⟨ob, trivial⟩
   ·simp! [e1, D1.ixq, decide_eq_false hr, ea, eb, e5, D5.ixq, decide_eq_false hr2, PB, C7, jX, sz, dN, sY, oY]
    refine ⟨[.cmd ca, .cmd cb], S5, r - 1 - 1, l, rfl, D5, s4.trans s5, by omega, ?_, oa, ob, trivial⟩
    simp only [bW, Stt.size]; omega
 ·have h1 := gA d (show (6 : Int) ≠ 0 by decide)
  have h2 := fM d (show (0 : Int) < 6 by decide)
  simp! [e1, decide_eq_true (show (6 : Int) < d by omega), decide_eq_true hb, decide_eq_true hl, nE (show (0 : Int) < 6 by decide), decide_eq_false (show ¬ d % 6 = 6 by omega), decide_eq_false (show ¬ (10 : Int) < d % 6 by omega), ea, decide_eq_true (show d % 6 < 6 by omega), e2]
  exact oc
 ·have e54 : 3 - (lv + 1).toNat = 3 - lv.toNat - 1 := by omega
  obtain ⟨la, Sa, ra, ca, ea1, La⟩ := ihB (lv := lv + 1) (low := 0) D2 h0 h7 (by omega) (by omega) (by omega) (by omega) (by omega) hm (by omega)
  obtain ⟨lb, Sb, rb, cb, eb1, Lb⟩ := ihB (lv := lv + 1) (low := low) La.dr h0 h7 (by omega) (by omega) lo La.r0 (by have := La.sz; omega) hm (by have := La.sz; have := La.r0; omega)
  have := La.sz;have := Lb.sz;have ga := La.gd;have gb := Lb.gd;rw [e54] at ga gb;simp! [e1, decide_eq_true (show (6 : Int) < d by omega), decide_eq_true (show d < 15 by omega), decide_eq_false (show ¬ (2 : Int) < lv by omega), decide_eq_false (show ¬ d = 6 by omega), decide_eq_false (show ¬ (10 : Int) < d by omega), ea, decide_eq_false (show ¬ d < 6 by omega), decide_eq_true hb, ea1, eb1]
  refine ⟨[.either la lb], Sb, rb, cb, rfl, Lb.dr, s2.trans (La.sam.trans Lb.sam), Lb.r0, ?_, ⟨by omega, ga, gb⟩, trivial⟩
  simp only [bW, Stt.size]; omega
 ·subst hd
  have e54 : 3 - (lv + 1).toNat = 3 - lv.toNat - 1 := by omega
  obtain ⟨la, Sa, ra, ca, ea1, La⟩ := ihB (lv := lv + 1) (low := 0) D2 h0 h7 (by omega) (by omega) (by omega) (by omega) (by omega) hm (by omega)
  have := La.sz;have ga := La.gd;rw [e54] at ga;simp! [e1, decide_eq_false (show ¬ (2 : Int) < lv by omega), ea, ea1]
  refine ⟨[.again la], Sa, ra, ca, rfl, La.dr, s2.trans La.sam, La.r0, ?_, ⟨by omega, ga⟩, trivial⟩
  simp only [bW, Stt.size]; omega
 ·subst hd
  have e54 : 3 - (lv + 1).toNat = 3 - lv.toNat - 1 := by omega
  obtain ⟨la, Sa, ra, ca, ea1, La⟩ := ihB (lv := lv + 1) (low := low) D2 h0 h7 (by omega) (by omega) (by omega) (by omega) (by omega) hm (by omega)
  have := La.sz;have ga := La.gd;rw [e54] at ga;simp! [e1, decide_eq_false (show ¬ (2 : Int) < lv by omega), ea, ea1]
  refine ⟨[.keep la], Sa, ra, ca, rfl, La.dr, s2.trans La.sam, La.r0, ?_, ⟨by omega, ga⟩, trivial⟩
  simp only [bW, Stt.size]; omega
 ·by_cases hc : l < 1
  ·simp! [e1, decide_eq_true (show (6 : Int) < d by omega), decide_eq_true hb, decide_eq_false (show ¬ (2 : Int) < lv by omega), decide_eq_false (show ¬ d = 6 by omega), decide_eq_true (show (10 : Int) < d by omega), D1.ixc0, decide_eq_true hc, ea, e2]
   exact oc
  ·by_cases hlo : many <= low
   ·simp! [e1, decide_eq_true (show (6 : Int) < d by omega), decide_eq_true hb, decide_eq_false (show ¬ (2 : Int) < lv by omega), decide_eq_false (show ¬ d = 6 by omega), decide_eq_true (show (10 : Int) < d by omega), D1.ixc0, decide_eq_false hc, D1.ixc1, decide_eq_true hlo, ea, e2]
    exact oc
   ·have e54 : 3 - (lv + 1).toNat = 3 - lv.toNat - 1 := by omega
    have ec : ∀ z : Option Vl, lB (fun x y => x - y) (aC 4) (mC (.int 0)) (mC (.int 1)) [some (.cel p), some (.dat (.int mood)), some (.dat (.int lv)), some (.cel q), some (.cel c), some (.dat (.int low)), z, none, none, none, none, none] S2 = .next [some (.cel p), some (.dat (.int mood)), some (.dat (.int lv)), some (.cel q), some (.cel c), some (.dat (.int low)), z, none, none, none, none, none] (S2.set c (PL [l - 1, many])) := fun z => D2.augc rfl rfl rfl
    have D4 := D2.setc (l' := l - 1);have s4 : Sam [p, q, c] S (S2.set c (PL [l - 1, many])) := s2.trans (Sam.set (by simp))
    generalize S2.set c (PL [l - 1, many]) = S4 at ec D4 s4;obtain ⟨g, S5, e5, g0, g1, D5, s5⟩ := D4.draw (k := many - low) (by omega) (by omega)
    obtain ⟨f, S6, e6, f0, f1, D6, s6⟩ := D5.draw (k := 3) (by decide) (by decide)
    obtain ⟨la, Sa, ra, ca, ea1, La⟩ := ihB (lv := lv + 1) (low := low) D6 h0 h7 (by omega) (by omega) lo (by omega) (by omega) hm (by omega)
    obtain ⟨lb, Sb, rb, cb, eb1, Lb⟩ := ihB (lv := lv + 1) (low := low) La.dr h0 h7 (by omega) (by omega) lo La.r0 (by have := La.sz; omega) hm (by have := La.sz; have := La.r0; omega)
    have := La.sz;have := Lb.sz;have ga := La.gd;have gb := Lb.gd;rw [e54] at ga gb;simp! [e1, decide_eq_true (show (6 : Int) < d by omega), decide_eq_true hb, decide_eq_false (show ¬ (2 : Int) < lv by omega), decide_eq_false (show ¬ d = 6 by omega), decide_eq_true (show (10 : Int) < d by omega), D1.ixc0, decide_eq_false hc, D1.ixc1, decide_eq_false hlo, ea, decide_eq_false (show ¬ d < 6 by omega), decide_eq_false (show ¬ d < 9 by omega), decide_eq_false (show ¬ d = 9 by omega), decide_eq_false (show ¬ d = 10 by omega), decide_eq_false (show ¬ (14 : Int) < d by omega), ec, D4.ixc1, e5, e6, ea1, eb1]
    refine ⟨[.call (low + g) (decide (f = 0)) la lb], Sb, rb, cb, rfl, Lb.dr, s4.trans (s5.trans (s6.trans (La.sam.trans Lb.sam))), Lb.r0, ?_, ⟨⟨by omega, by omega, by omega⟩, ga, gb⟩, trivial⟩
    simp only [bW, Stt.size]; omega
 ·obtain ⟨w, S4, e4, w0, w1, D4, s4⟩ := D2.draw (k := 2) (by decide) (by decide)
  simp! [e1, decide_eq_true (show (6 : Int) < d by omega), decide_eq_false (show ¬ d < 15 by omega), decide_eq_false (show ¬ d = 6 by omega), decide_eq_true (show (10 : Int) < d by omega), ea, decide_eq_false (show ¬ d < 6 by omega), decide_eq_false (show ¬ d < 9 by omega), decide_eq_false (show ¬ d = 9 by omega), decide_eq_false (show ¬ d = 10 by omega), decide_eq_true (show (14 : Int) < d by omega), e4]
  refine ⟨[.fin w], S4, r - 1, l, rfl, D4, s2.trans s4, by omega, ?_, ⟨w0, by omega⟩, trivial⟩
  simp only [bW, Stt.size]; omega
theorem xY : ∀ n, Ej n /\ yR n
 | 0 => ⟨fun _ _ _ _ _ _ _ _ _ h => by omega, fun _ _ _ _ _ _ _ _ _ h => by omega⟩
 | n + 1 => ⟨MH (xY n).2, KP (xY n).1 (xY n).2⟩
theorem Jk {p q c N : Nat} {many : Int} {S : aM} {r l mood : Int} (D : Dr p q c N many S r l) (h0 : 0 <= mood) (h7 : mood <= 7) (hr : 3 < r) (m1 : 1 <= many) (m3 : many <= 3) :
  ∃ (ls : List Stt) (S' : aM) (r' l' : Int), rT [.cel p, .dat (.int mood), .cel q, .cel c] S = .ok (.dat (.lst (cD ls))) S' /\ Left p q c N many S r 3 ls S' r' l' := by
 rw [show rT [.cel p, .dat (.int mood), .cel q, .cel c] S = cH (sE [some (.cel p), some (.dat (.int mood)), some (.cel q), some (.cel c), none, none, none, none, none] S) from rfl]
 unfold sE;have ea : lB (fun x y => x - y) (aC 2) (mC (.int 0)) (mC (.int 4)) [some (.cel p), some (.dat (.int mood)), some (.cel q), some (.cel c), none, none, none, none, none] S = .next [some (.cel p), some (.dat (.int mood)), some (.cel q), some (.cel c), none, none, none, none, none] (S.set q (PL [r - 4])) := D.augq rfl rfl rfl
 have D1 := D.setq (r' := r - 4);have s1 : Sam [p, q, c] S (S.set q (PL [r - 4])) := Sam.set (by simp)
 generalize S.set q (PL [r - 4]) = S1 at ea D1 s1;have eb : lB (fun x y => x - y) (aC 3) (mC (.int 0)) (mC (.int 1)) [some (.cel p), some (.dat (.int mood)), some (.cel q), some (.cel c), none, none, none, none, none] S1 = .next [some (.cel p), some (.dat (.int mood)), some (.cel q), some (.cel c), none, none, none, none, none] (S1.set c (PL [l - 1, many])) := D1.augc rfl rfl rfl
 have D2 := D1.setc (l' := l - 1);have s2 : Sam [p, q, c] S1 (S1.set c (PL [l - 1, many])) := Sam.set (by simp)
 generalize S1.set c (PL [l - 1, many]) = S2 at eb D2 s2;obtain ⟨g, S3, e3, g0, g1, D3, s3⟩ := D2.draw (k := many) (by omega) (by omega)
 obtain ⟨f, S4, e4, f0, f1, D4, s4⟩ := D3.draw (k := 3) (by decide) (by decide)
 obtain ⟨a, S5, e5, a0, a1, D5, s5⟩ := D4.draw (k := 2) (by decide) (by decide)
 obtain ⟨ca, S6, e6, oa, D6, s6⟩ := D5.command h0 h7;obtain ⟨cb, S7, e7, ob, D7, s7⟩ := D6.command h0 h7;obtain ⟨b, S8, e8, b0, b1, D8, s8⟩ := D7.draw (k := 2) (by decide) (by decide)
 have s18 : Sam [p, q, c] S S8 := s1.trans (s2.trans (s3.trans (s4.trans (s5.trans (s6.trans (s7.trans s8))))));have fin : ∀ (x y : Cmd) (T : aM), x.Ok -> y.Ok -> Dr p q c N many T (r - 4) (l - 1) -> Sam [p, q, c] S T -> ∃ (ls : List Stt) (S' : aM) (r' l' : Int), cH (((cQ (.dat (.lst [.lst [], .lst [x.d, .tup [.str "call", .int g, .bl (decide (f = 0)), .lst [.lst [], .lst []]], y.d]])) (.dat (.int a)) T).bind fun u T1 => ((cQ (.dat (.lst [.lst [], .lst [x.d, .tup [.str "call", .int g, .bl (decide (f = 0)), .lst [.lst [], .lst []]], y.d]])) (.dat (.int (1 - a))) T1).bind fun v T2 => kTup [.dat (.str "either"), u, v] T2)).toS [] fun w T3 => (Bp false [w] T3).toS [] QA) = .ok (.dat (.lst (cD ls))) S' /\ Left p q c N many S r 3 ls S' r' l' := fun x y T ox oy DT sT => by
  have sz : ∀ (u v : List Stt), bW u + bW v = 3 -> (bW [.either u v] : Int) + (r - 4) <= r := fun u v h => by simp only [bW, Stt.size]; omega
  have hc : GdL many [.cmd x, .call g (decide (f = 0)) [] [], .cmd y] 2 := ⟨ox, ⟨⟨by omega, g0, g1⟩, trivial, trivial⟩, oy, trivial⟩
  rcases (by omega : a = 0 \/ a = 1) with rfl | rfl
  ·exact ⟨[.either [] [.cmd x, .call g (decide (f = 0)) [] [], .cmd y]], T, r - 4, l - 1, rfl, DT, sT, by omega, sz _ _ rfl, ⟨by omega, trivial, hc⟩, trivial⟩
  ·exact ⟨[.either [.cmd x, .call g (decide (f = 0)) [] [], .cmd y] []], T, r - 4, l - 1, rfl, DT, sT, by omega, sz _ _ rfl, ⟨by omega, hc, trivial⟩, trivial⟩
 simp! [ea, eb, D2.ixc1, e3, e4, e5, e6, e7, e8]
 by_cases hb : b = 0
 ·obtain ⟨cx, cy, S9, e9, ox, oy, D9, s9⟩ := D8.pair (mood := mood)
  simp! [decide_eq_true hb, e9, J6, NG];obtain ⟨ls, S', r', l', e, L⟩ := fin cx cy S9 ox oy D9 (s18.trans s9);refine ⟨ls, S', r', l', ?_, L⟩
  rw [<- e];rcases (by omega : a = 0 \/ a = 1) with rfl | rfl <;> rfl
 ·simp! [decide_eq_false hb, J6, NG]
  obtain ⟨ls, S', r', l', e, L⟩ := fin ca cb S8 oa ob D8 s18;refine ⟨ls, S', r', l', ?_, L⟩
  rw [<- e];rcases (by omega : a = 0 \/ a = 1) with rfl | rfl <;> rfl
theorem A3 {p q c N : Nat} {many mood low : Int} {z8 : Option Vl} {z5 : Option Vl} (h0 : 0 <= mood) (h7 : mood <= 7) (lo : 0 <= low) (hm : many <= 3) :
  ∀ (is : List D) (ls : List Stt) (S : aM) (r l : Int), Dr p q c N many S r l -> 0 <= r -> (bW ls : Int) + r <= 8 -> GdL many ls 3 -> ∃ (ls' : List Stt) (S' : aM) (r' l' : Int),
   loop (.nm 7) jT is [some (.cel p), some (.dat (.int mood)), some (.cel q), some (.cel c), some (.dat (.int low)), z5, some (.dat (.lst (cD ls))), none, z8] S =
    .next [some (.cel p), some (.dat (.int mood)), some (.cel q), some (.cel c), some (.dat (.int low)), z5, some (.dat (.lst (cD ls'))), none, z8] S' /\ Left p q c N many S (bW ls + r) 3 ls' S' r' l'
 | [], ls, S, r, l, D, r0, r8, g => ⟨ls, S, r, l, rfl, D, Sam.refl, r0, Int.le_refl _, g⟩
 | i :: is, ls, S, r, l, D, r0, r8, g => by
  rw [loop];simp only [sJ, bM, bH];rw [jT];simp! [D.ixq]
  by_cases hr : 0 < r
  ·obtain ⟨l1, S1, r1, c1, e1, L1⟩ := (xY 30).2 (lv := 0) D h0 h7 (by omega) (by omega) lo hr (by omega) hm (by simp; omega)
   have hl := iP ls;have hl1 := iP l1;have hsz := L1.sz;have hr1 := L1.r0;simp! [decide_eq_true hr, e1, jX (show (cD ls).length + (cD l1).length <= sizeLine by rw [dF, dF]; exact PH.sz (by omega))]
   rw [<- jT, <- iL];obtain ⟨l2, S2, r2, c2, e2, L2⟩ := A3 (p := p) (q := q) (c := c) (N := N) (z8 := z8) (z5 := z5) h0 h7 lo hm is (ls ++ l1) S1 r1 c1 L1.dr hr1 (by rw [hE]; omega) (g.app L1.gd)
   have := L2.sz;rw [hE] at this;exact ⟨l2, S2, r2, c2, e2, L2.dr, L1.sam.trans L2.sam, L2.r0, by omega, L2.gd⟩
  ·simp! [decide_eq_false hr]
   rw [<- jT];exact A3 h0 h7 lo hm is ls S r l D r0 r8 g
def Af : Stt := .either [.fin 1] []
structure Bk (p n N : Nat) (S0 : aM) (many l : Int) (bs : List (List Stt)) (T : aM) : Prop where
 ls : LS T
 n2 : 2 <= N
 hp : p < n
 len : n + 2 <= T.length
 pool : ∃ ks, T[p]? = some (PL ks) /\ ks.length = N
 call : T[n]? = some (PL [l, many])
 bod : T[n + 1]? = some (.lst (bls bs))
 old : ∀ i, i < n -> i ≠ p -> T[i]? = S0[i]?
theorem qK {T : aM} {c : Cell} {i : Nat} (h : i < T.length) : (T ++ [c])[i]? = T[i]? := aR h
structure Good (bs : List (List Stt)) : Prop where
 l1 : 1 <= bs.length
 l3 : bs.length <= 3
 gd : ∀ b ∈ bs, GdL (bs.length : Int) b 3 /\ bW b <= 8
theorem Good.ok {bs : List (List Stt)} (h : Good bs) : ∀ b ∈ bs, OkL (bs.length : Int) b 3 := fun b hb => (h.gd b hb).1.ok (by have := (h.gd b hb).2; omega)
theorem good_none : ∀ {bs : List (List Stt)} {p : Int} {many : Int}, (∀ b ∈ bs, GdL many b 3 /\ bW b <= 8) -> vU p bs = none
 | [], p, many, _ => rfl
 | b :: r, p, many, h => by
  obtain ⟨h1, h2⟩ := h b (aY ..);rw [vU, mW (n := 3) h1 (by omega) (by omega) (by omega) (by omega) (by omega) (by omega)]
  exact good_none fun b hb => h b (aV _ hb)
theorem Good.none {bs : List (List Stt)} (h : Good bs) : vU 0 bs = none := good_none h.gd
theorem J2 {S : aM} {bs : List (List Stt)} (ls : LS S) (h : Good bs) : Hx false "Book" kN [.dat (.lst (bls bs))] S = .ok (.dat (cC bs)) S := by
 rw [N6 ls h.ok (by omega) rfl h.l1 h.l3, h.none]
inductive Bd where
 | blk (b : List Stt) | no (x : D)
def pre (i : Int) (p : List Int × Stt) : List Int × Stt := (i :: p.1, p.2)
mutual
def relS : Stt -> List (List Int × Stt)
 | .keep b => (kW 0 b).map (pre 0)
 | .again b => (kW 0 b).map (pre 0)
 | .either a b => (kW 0 a).map (pre 0) ++ (kW 0 b).map (pre 1)
 | .call _ _ a b => (kW 0 a).map (pre 0) ++ (kW 0 b).map (pre 1)
 | _ => []
def kW (at_ : Int) : List Stt -> List (List Int × Stt)
 | [] => []
 | s :: r => ([at_], s) :: ((relS s).map (pre at_) ++ kW (at_ + 1) r)
end
def qQ (i : Int) : List (List Stt) -> List (List Int × Stt)
 | [] => []
 | b :: r => (kW 0 b).map (pre i) ++ qQ (i + 1) r
theorem Mp {s : Stt} : relS s = qQ 0 s.blocks := by
 cases s <;> simp [relS, qQ, Stt.blocks]
def Ao (path : List Int) (ps : List (List Int × Stt)) : List D := ps.map fun p => .tup [tupI (path ++ p.1), p.2.d]
theorem Hq {path : List Int} {ps qs : List (List Int × Stt)} : Ao path (ps ++ qs) = Ao path ps ++ Ao path qs := by simp [Ao]
theorem Ho {path : List Int} {i : Int} {ps : List (List Int × Stt)} : Ao path (ps.map (pre i)) = Ao (path ++ [i]) ps := by
 simp [Ao, pre]
mutual
theorem F9 : ∀ s : Stt, (relS s).length + 1 = s.size
 | .cmd c => rfl
 | .fin c => rfl
 | .bad => rfl
 | .odd x => rfl
 | .keep b => by simp [relS, Stt.size, gV 0 b]
 | .again b => by simp [relS, Stt.size, gV 0 b]
 | .either a b => by simp [relS, Stt.size, gV 0 a, gV 0 b]
 | .call _ _ a b => by simp [relS, Stt.size, gV 0 a, gV 0 b]
theorem gV : ∀ (i : Int) (l : List Stt), (kW i l).length = bW l
 | i, [] => rfl
 | i, s :: r => by
  have := F9 s;have := gV (i + 1) r;simp [kW, bW];omega
end
theorem E9 {path : List Int} {ps : List (List Int × Stt)} : (Ao path ps).length = ps.length := by simp [Ao]
structure On (S T : aM) : Prop where
 ls : LS T
 len : S.length <= T.length
 tak : T.take S.length = S
theorem On.refl {S : aM} (h : LS S) : On S S := ⟨h, bR _, by simp⟩
theorem On.app {S T : aM} {ds : List D} (h : On S T) : On S (T ++ [.lst ds]) := ⟨h.ls.app, by have := h.len; simp; omega, by rw [List.take_append_of_le_length h.len]; exact h.tak⟩
theorem take_set {T : aM} {n c : Nat} {x : Cell} (h : n <= c) : (T.set c x).take n = T.take n := by
 apply iN
 intro i;rw [dO, dO]
 by_cases hi : i < n
 ·rw [if_pos hi, if_pos hi, eO (by omega)]
 ·rw [if_neg hi, if_neg hi]
theorem On.set {S T : aM} {c : Nat} {ds : List D} (h : On S T) (hc : S.length <= c) : On S (T.set c (.lst ds)) := ⟨h.ls.set, by have := h.len; simp; omega, by rw [take_set hc]; exact h.tak⟩
theorem On.kill {S T : aM} {c : Nat} (h : On S T) (hc : S.length <= c) : On S (T.set c .dead) := ⟨fun x hx n => by
 rcases rG hx with hx | hx
 ·exact h.ls x hx n
 ·rw [hx]; rfl, by have := h.len; simp; omega, by rw [take_set hc]; exact h.tak⟩
theorem On.trunc {S T : aM} {d : D} (h : On S T) (ls : LS S) : PH.trunc S.length (.ok (.dat d) T) = .ok (.dat d) S := by
 dsimp only [PH.trunc];rw [h.tak];have : (S.all fun c => c.below S.length) = true := bZ.mpr fun c hc => ls c hc _
 simp only [Vl.below, this, sH, if_true]
def CH (n : Nat) : Prop := ∀ {S : aM} {many : Int} {l : List Stt} {k : Nat} {path : List Int}, LS S -> OkL many l k -> bW l <= 100 -> path.length + 2 * k <= 90 -> k + 1 <= n -> eB n [.dat (.lst (cD l)), .dat (tupI path)] S = .ok (.dat (.lst (Ao path (kW 0 l)))) S
theorem Lj {S : aM} {n : Nat} {cl : Bool} {xs ys : List D} (h : S[n]? = some (.lst xs)) (hl : xs.length + ys.length <= sizeLine) : dD cl (.cel n) (.dat (.lst ys)) S = newL cl (xs ++ ys) S := by simp only [dD, hG, h, hl, if_true]
theorem Cs {n : Nat} (ih : CH n) {S : aM} {many : Int} {k : Nat} {here : List Int} {a0 a1 a3 a4 : Option Vl} (hp : here.length + 1 + 2 * k <= 90) (hk : k + 1 <= n) :
  ∀ (bs : List (List Stt)) (i : Nat) (T : aM) (c : Nat) (acc : List D), (∀ b ∈ bs, OkL many b k) -> On S T -> S.length <= c -> T[c]? = some (.lst acc) -> acc.length + (qQ (i : Int) bs).length <= 200 -> (qQ (i : Int) bs).length <= 100 ->
   ∃ (T' : aM) (c' : Nat), loop (.tp [6, 7]) (fT (eB n)) (cJ i (bls bs)) [a0, a1, some (.cel c), a3, a4, some (.dat (tupI here)), none, none] T = .next [a0, a1, some (.cel c'), a3, a4, some (.dat (tupI here)), none, none] T' /\ On S T' /\ S.length <= c' /\ T'[c']? = some (.lst (acc ++ Ao here (qQ (i : Int) bs)))
 | [], i, T, c, acc, _, on, hc, hat, _, _ => ⟨T, c, rfl, on, hc, by simpa [qQ, Ao] using hat⟩
 | b :: r, i, T, c, acc, ho, on, hc, hat, hl, hl2 => by
  have hb := ho b (aY ..);have hlen : (qQ (i : Int) (b :: r)).length = bW b + (qQ ((i + 1 : Nat) : Int) r).length := by
   simp [qQ, gV]
  rw [hlen] at hl hl2;have e1 := ih (path := here ++ [(i : Int)]) on.ls hb (by omega) (by simp; omega) hk
  have el : loop (.tp [6, 7]) (fT (eB n)) (cJ i (bls (b :: r))) [a0, a1, some (.cel c), a3, a4, some (.dat (tupI here)), none, none] T = (match fT (eB n) [a0, a1, some (.cel c), a3, a4, some (.dat (tupI here)), some (.dat (.int (i : Nat))), some (.dat (.lst (cD b)))] T with
   | .next ρ2 S2 => loop (.tp [6, 7]) (fT (eB n)) (cJ (i + 1) (bls r)) ρ2 S2
   | .cnt ρ2 S2 => loop (.tp [6, 7]) (fT (eB n)) (cJ (i + 1) (bls r)) ρ2 S2
   | .brk ρ2 S2 => .next ρ2 S2
   | .ret d S2 => .ret d S2
   | .err e ρ2 S2 => .err e ρ2 S2
   | .stuck => .stuck) := rfl
  rw [el, fT];simp! [yQ (show here.length <= 100 by omega), e1, Lj hat (show acc.length + (Ao (here ++ [(i : Int)]) (kW 0 b)).length <= sizeLine from sz (by rw [E9, gV]; omega))]
  rw [<- fT];obtain ⟨T', c', e, on', hc', hat'⟩ := Cs ih (S := S) (many := many) (a0 := a0) (a1 := a1) (a3 := a3) (a4 := a4) hp hk r (i + 1) (T ++ [.lst (acc ++ Ao (here ++ [(i : Int)]) (kW 0 b))]) T.length (acc ++ Ao (here ++ [(i : Int)]) (kW 0 b)) (fun b hb => ho b (aV _ hb)) on.app on.len (by simp) (by rw [bO, E9, gV]; omega) (by omega)
  refine ⟨T', c', e, on', hc', ?_⟩
  rw [hat', show qQ (i : Int) (b :: r) = (kW 0 b).map (pre i) ++ qQ ((i + 1 : Nat) : Int) r from rfl, Hq, Ho, Aj]
theorem BX {n : Nat} (ih : CH n) {S : aM} {many : Int} {k : Nat} {path : List Int} {a0 : Option Vl} (hp : path.length + 2 * k <= 90) (hk : k <= n) :
  ∀ (l : List Stt) (i : Nat) (T : aM) (c : Nat) (acc : List D), OkL many l k -> On S T -> S.length <= c -> T[c]? = some (.lst acc) -> acc.length + bW l <= 100 ->
   ∃ (T' : aM) (c' : Nat), loop (.tp [3, 4]) (gD (eB n)) (cJ i (cD l)) [a0, some (.dat (tupI path)), some (.cel c), none, none, none, none, none] T = .next [a0, some (.dat (tupI path)), some (.cel c'), none, none, none, none, none] T' /\ On S T' /\ S.length <= c' /\ T'[c']? = some (.lst (acc ++ Ao path (kW (i : Int) l)))
 | [], i, T, c, acc, _, on, hc, hat, _ => ⟨T, c, rfl, on, hc, by simpa [kW, Ao] using hat⟩
 | s :: r, i, T, c, acc, ho, on, hc, hat, hl => by
  have hs := F9 s;simp only [bW] at hl;have el : loop (.tp [3, 4]) (gD (eB n)) (cJ i (cD (s :: r))) [a0, some (.dat (tupI path)), some (.cel c), none, none, none, none, none] T = (match gD (eB n) [a0, some (.dat (tupI path)), some (.cel c), some (.dat (.int (i : Nat))), some (.dat s.d), none, none, none] T with
   | .next ρ2 S2 => loop (.tp [3, 4]) (gD (eB n)) (cJ (i + 1) (cD r)) ρ2 S2
   | .cnt ρ2 S2 => loop (.tp [3, 4]) (gD (eB n)) (cJ (i + 1) (cD r)) ρ2 S2
   | .brk ρ2 S2 => .next ρ2 S2
   | .ret d S2 => .ret d S2
   | .err e ρ2 S2 => .err e ρ2 S2
   | .stuck => .stuck) := rfl
  rw [el, gD];have hset : T.set c (.lst (acc ++ [.tup [tupI (path ++ [(i : Int)]), s.d]])) = T.set c (.lst (acc ++ [.tup [tupI (path ++ [(i : Int)]), s.d]])) := rfl;have bn := Mp (s := s);obtain ⟨T', c', e, on', hc', hat'⟩ : ∃ (T' : aM) (c' : Nat), loop (.tp [6, 7]) (fT (eB n)) (cJ 0 (bls s.blocks)) [a0, some (.dat (tupI path)), some (.cel c), some (.dat (.int (i : Nat))), some (.dat s.d), some (.dat (tupI (path ++ [(i : Int)]))), none, none] (T.set c (.lst (acc ++ [.tup [tupI (path ++ [(i : Int)]), s.d]]))) = .next [a0, some (.dat (tupI path)), some (.cel c'), some (.dat (.int (i : Nat))), some (.dat s.d), some (.dat (tupI (path ++ [(i : Int)]))), none, none] T' /\ On S T' /\ S.length <= c' /\ T'[c']? = some (.lst (acc ++ [.tup [tupI (path ++ [(i : Int)]), s.d]] ++ Ao (path ++ [(i : Int)]) (relS s))) := by
   by_cases hb0 : s.blocks = []
   ·rw [hb0]
    refine ⟨_, c, rfl, on.set hc, hc, ?_⟩
    rw [bn, hb0, jU hat];simp [qQ, Ao]
   ·have hk0 : 0 < k := by
     cases q : s.blocks with
     | nil => exact absurd q hb0
     | cons b bs => exact (uY ho.1.1 b (by rw [q]; exact aY ..)).1
    have := Cs ih (S := S) (many := many) (k := k - 1) (here := path ++ [(i : Int)]) (a0 := a0) (a1 := some (.dat (tupI path))) (a3 := some (.dat (.int (i : Nat)))) (a4 := some (.dat s.d)) (by simp; omega) (by omega) s.blocks 0 _ c (acc ++ [.tup [tupI (path ++ [(i : Int)]), s.d]]) (fun b hb => (uY ho.1.1 b hb).2) (on.set hc) hc (jU hat) (by rw [hM, <- bn]; simp; omega) (by rw [hM, <- bn]; omega)
    rw [hM, <- bn] at this;exact this
  simp! [yQ (show path.length <= 100 by omega), tZ hat, zV hat (show acc.length < sizeLine from hQ (show acc.length <= 100 by omega) (by decide)), rA ho.1.1.no, e]
  rw [<- gD];obtain ⟨T2, c2, e2, on2, hc2, hat2⟩ := BX ih (S := S) (many := many) (k := k) (path := path) (a0 := a0) hp hk r (i + 1) T' c' _ ho.2 on' hc' hat' (by simp [E9]; omega)
  refine ⟨T2, c2, e2, on2, hc2, ?_⟩
  rw [hat2, show kW (i : Int) (s :: r) = ([(i : Int)], s) :: ((relS s).map (pre i) ++ kW ((i + 1 : Nat) : Int) r) from rfl]
  rw [show Ao path (([(i : Int)], s) :: ((relS s).map (pre i) ++ kW ((i + 1 : Nat) : Int) r)) = .tup [tupI (path ++ [(i : Int)]), s.d] :: Ao path ((relS s).map (pre i) ++ kW ((i + 1 : Nat) : Int) r) from rfl, Hq, Ho]
  simp
theorem Ip (n : Nat) : CH n := by
 induction n with
 | zero => intro S many l k path _ _ _ _ h; omega
 | succ n ih =>
  intro S many l k path ls ho hl hp hk;rw [show eB (n + 1) [.dat (.lst (cD l)), .dat (tupI path)] S = trunc S.length (cH (yI (eB n) [some (.dat (.lst (cD l))), some (.dat (tupI path)), none, none, none, none, none, none] S)) from rfl]
  unfold yI;obtain ⟨T, c, e, on, hc, hat⟩ := BX ih (S := S) (many := many) (k := k) (path := path) (a0 := some (.dat (.lst (cD l)))) hp (by omega) l 0 (S ++ [.lst []]) S.length [] ho ((On.refl ls).app) (bR _) (by simp) (by simpa using hl)
  rw [oY, hM] at hat;simp! [e, zU hat];exact (on.kill hc).trunc ls
def CC (p : Int) : List (List Stt) -> List (Int × List Int × Stt)
 | [] => []
 | b :: r => (kW 0 b).map (fun x => (p, x.1, x.2)) ++ CC (p + 1) r
theorem GdL.okTop {many : Int} : ∀ {l : List Stt} {n : Nat}, GdL many l n -> (∀ s ∈ l, s.size <= 9) -> l.length <= 10 -> OkL many l n
 | [], n, _, _, _ => trivial
 | s :: r, n, h, h9, hl => by
  simp only [aW] at hl;exact ⟨⟨Stt.Gd.ok h.1 (by have := h9 s (aY ..); omega), by omega⟩, GdL.okTop h.2 (fun s hs => h9 s (aV _ hs)) (by omega)⟩
structure Good2 (bs : List (List Stt)) : Prop where
 l1 : 1 <= bs.length
 l3 : bs.length <= 3
 gd : ∀ b ∈ bs, GdL (bs.length : Int) b 3 /\ b.length <= 8 /\ bW b <= 12 /\ ∀ s ∈ b, s.size <= 9
theorem Eu : ∀ {l : List Stt} {s : Stt}, s ∈ l -> s.size <= bW l
 | x :: r, s, h => by
  rcases bN.mp h with rfl | h
  ·simp [bW]
  ·have := Eu h; simp [bW]; omega
theorem Good.two {bs : List (List Stt)} (h : Good bs) : Good2 bs := ⟨h.l1, h.l3, fun b hb => by
 obtain ⟨h1, h2⟩ := h.gd b hb;have := iP b;exact ⟨h1, by omega, by omega, fun s hs => by have := Eu hs; omega⟩⟩
theorem Good2.ok {bs : List (List Stt)} (h : Good2 bs) : ∀ b ∈ bs, OkL (bs.length : Int) b 3 := fun b hb => by
 obtain ⟨h1, h2, h3, h4⟩ := h.gd b hb;exact h1.okTop h4 (by omega)
def Stt.isCall : Stt -> Bool
 | .call _ _ _ _ => true
 | _ => false
def Cmd.word : Cmd -> Str
 | .go _ => "go"
 | .turn _ => "turn"
 | .mirror => "mirror"
 | .scale _ => "scale"
 | .aim _ _ => "aim"
 | .place _ _ => "place"
 | .mark => "mark"
 | .ret => "return"
 | .exch => "exchange"
def Stt.word : Stt -> Str
 | .cmd c => c.word
 | .fin _ => "end"
 | .keep _ => "keep"
 | .again _ => "again"
 | .either _ _ => "either"
 | .call _ _ _ _ => "call"
 | _ => "bad"
theorem ND {s : Stt} {S : aM} (h : s.isOdd = false) : cQ (.dat s.d) (.dat (.int 0)) S = .ok (.dat (.str s.word)) S := by
 cases s with
 | cmd c => cases c <;> rfl
 | odd x => cases h
 | _ => rfl
theorem GJ {s : Stt} : decide (s.word = Str.ofString "call") = s.isCall := by
 cases s with
 | cmd c => cases c <;> rfl
 | _ => rfl
def EY (ps : List (Int × List Int × Stt)) : List D := (ps.filter fun x => x.2.2.isCall).map fun x => .tup [.int x.1, tupI x.2.1]
theorem OS {ps : List (Int × List Int × Stt)} : (EY ps).length <= ps.length := by
 unfold EY; rw [bB]; exact List.length_filter_le ..
theorem IL {ps qs : List (Int × List Int × Stt)} : EY (ps ++ qs) = EY ps ++ EY qs := by simp [EY]
mutual
theorem Mo {many : Int} : ∀ (s : Stt) (k : Nat), s.Ok many k -> ∀ x ∈ relS s, ∃ j, j <= k /\ x.2.Ok many j
 | .cmd c, k, h, x, hx => by cases hx
 | .fin c, k, h, x, hx => by cases hx
 | .bad, k, h, x, hx => by cases hx
 | .odd _, k, h, x, hx => by cases hx
 | .keep b, k, h, x, hx => by
  obtain ⟨y, hy, rfl⟩ := dH.mp hx;obtain ⟨j, h1, h2⟩ := pC 0 b (k - 1) h.2 y hy;exact ⟨j, by omega, h2⟩
 | .again b, k, h, x, hx => by
  obtain ⟨y, hy, rfl⟩ := dH.mp hx;obtain ⟨j, h1, h2⟩ := pC 0 b (k - 1) h.2 y hy;exact ⟨j, by omega, h2⟩
 | .either a b, k, h, x, hx => by
  rcases bT.mp hx with hx | hx
  ·obtain ⟨y, hy, rfl⟩ := dH.mp hx
   obtain ⟨j, h1, h2⟩ := pC 0 a (k - 1) h.2.1 y hy;exact ⟨j, by omega, h2⟩
  ·obtain ⟨y, hy, rfl⟩ := dH.mp hx
   obtain ⟨j, h1, h2⟩ := pC 0 b (k - 1) h.2.2 y hy;exact ⟨j, by omega, h2⟩
 | .call g f a b, k, h, x, hx => by
  rcases bT.mp hx with hx | hx
  ·obtain ⟨y, hy, rfl⟩ := dH.mp hx
   obtain ⟨j, h1, h2⟩ := pC 0 a (k - 1) h.2.1 y hy;exact ⟨j, by omega, h2⟩
  ·obtain ⟨y, hy, rfl⟩ := dH.mp hx
   obtain ⟨j, h1, h2⟩ := pC 0 b (k - 1) h.2.2 y hy;exact ⟨j, by omega, h2⟩
theorem pC {many : Int} : ∀ (i : Int) (l : List Stt) (k : Nat), OkL many l k -> ∀ x ∈ kW i l, ∃ j, j <= k /\ x.2.Ok many j
 | i, [], k, h, x, hx => by cases hx
 | i, s :: r, k, h, x, hx => by
  rcases bN.mp hx with rfl | hx
  ·exact ⟨k, bR _, h.1.1⟩
  ·rcases bT.mp hx with hx | hx
   ·obtain ⟨y, hy, rfl⟩ := dH.mp hx
    exact Mo s k h.1.1 y hy
   ·exact pC (i + 1) r k h.2 x hx
end
def stZ : List Int -> List Stt -> Option Stt
 | [], _ => none
 | [i], l => if 0 <= i then l[i.toNat]? else none
 | i :: j :: r, l => if 0 <= i /\ 0 <= j then (match l[i.toNat]? with
  | some s => (match s.blocks[j.toNat]? with
   | some b => stZ r b
   | none => none)
  | none => none) else none
theorem OX {S : aM} {a0 a1 : Option Vl} {many : Int} : ∀ (m : Nat) (π : List Int) (l : List Stt) (k n : Nat) (x : Vl) (s : Stt), π.length <= m -> OkL many l k -> n % 2 = 0 -> stZ π l = some s ->
  ∃ (b : Vl), loop (.tp [4, 5]) iO (cJ n (π.map D.int)) [a0, a1, some x, some (.dat (.lst (cD l))), none, none] S = .next [a0, a1, some (.dat s.d), some b, none, none] S /\ ∃ j, j <= k /\ s.Ok many j
 | m, [], l, k, n, x, s, _, _, _, h => by cases h
 | m, [i], l, k, n, x, s, hm, ho, hn, h => by
  simp only [stZ] at h;split at h
  ·rename_i hi
   have hlt : i.toNat < l.length := (aJ.mp h).1;have hs := ho.mem s (eK h);have hix : atI (cD l) i = some s.d := by
    rw [fR (n := i.toNat) (by omega), xX, eN, h]
    rfl
   rw [bG, cJ, loop];simp only [sJ, pG, aW, cV, if_true, bM, bH];rw [iO];simp! [eI, decide_eq_true hi, dF, decide_eq_true (show i < (l.length : Int) by omega), nE (show (0 : Int) < 2 by decide), decide_eq_true (show ((n : Nat) : Int) % 2 = 0 by omega), uA hix, rA hs.no, dG, cJ, loop]
   exact ⟨_, rfl, k, bR _, hs⟩
  ·cases h
 | 0, i :: j :: r, l, k, n, x, s, hm, _, _, _ => by simp at hm
 | m + 1, i :: j :: r, l, k, n, x, s, hm, ho, hn, h => by
  simp only [stZ] at h;split at h
  ·rename_i hij
   cases q : l[i.toNat]? with
   | none => rw [q] at h; cases h
   | some t =>
    rw [q] at h;dsimp only at h;cases q2 : t.blocks[j.toNat]? with
    | none => rw [q2] at h; cases h
    | some b =>
     rw [q2] at h;dsimp only at h;have hlt : i.toNat < l.length := (aJ.mp q).1;have hlt2 : j.toNat < t.blocks.length := (aJ.mp q2).1;have ht := ho.mem t (eK q);obtain ⟨hk, hb⟩ := uY ht b (eK q2);have hix : atI (cD l) i = some t.d := by
      rw [fR (n := i.toNat) (by omega), xX, eN, q]
      rfl
     have hix2 : atI (bls t.blocks) j = some (.lst (cD b)) := by
      rw [fR (n := j.toNat) (by omega)]
      simp [bls, q2]
     simp only [aW] at hm;obtain ⟨c, e, j', h1, h2⟩ := OX (S := S) (a0 := a0) (a1 := a1) m r b (k - 1) (n + 1 + 1) (.dat t.d) s (by omega) hb (by omega) h
     refine ⟨c, ?_, j', by omega, h2⟩
     rw [bG, bG, cJ, loop];simp only [sJ, pG, aW, cV, if_true, bM, bH];rw [iO];simp! [eI, decide_eq_true hij.1, dF, decide_eq_true (show i < (l.length : Int) by omega), nE (show (0 : Int) < 2 by decide), decide_eq_true (show ((n : Nat) : Int) % 2 = 0 by omega), uA hix, rA ht.no]
     rw [cJ, loop];simp only [sJ, pG, aW, cV, if_true, bM, bH];simp! [eI, decide_eq_true hij.2, yG, decide_eq_true (show j < (t.blocks.length : Int) by omega), nE (show (0 : Int) < 2 by decide), decide_eq_false (show ¬ ((n + 1 : Nat) : Int) % 2 = 0 by omega), uA hix2]
     rw [<- iO];exact e
  ·cases h
theorem C9 {S : aM} {many : Int} {p : Int} {a0 a3 : Option Vl} {w : FS} (hw : w = gB) : ∀ (ps : List (List Int × Stt)) (T : aM) (c : Nat) (acc : List D), (∀ x ∈ ps, ∃ j, x.2.Ok many j) -> On S T -> S.length <= c -> T[c]? = some (.lst acc) -> acc.length + ps.length <= 1000 -> ∃ T', loop (.tp [4, 5]) w (Ao [] ps) [a0, some (.cel c), some (.dat (.int p)), a3, none, none] T = .next [a0, some (.cel c), some (.dat (.int p)), a3, none, none] T' /\ On S T' /\ T'[c]? = some (.lst (acc ++ EY (ps.map fun x => (p, x.1, x.2))))
 | [], T, c, acc, _, on, hc, hat, hl => ⟨T, rfl, on, by simpa [EY] using hat⟩
 | x :: r, T, c, acc, ho, on, hc, hat, hl => by
  obtain ⟨j, hx⟩ := ho x (aY ..);rw [show Ao [] (x :: r) = .tup [tupI x.1, x.2.d] :: Ao [] r from rfl, loop]
  simp only [sJ, pG, aW, cV, if_true, bM, bH];rw [hw, gB];simp only [aW] at hl;simp! [ND hx.no, GJ];cases hq : x.2.isCall with
  | true =>
   simp! [tZ hat, zV hat (show acc.length < sizeLine from hQ (show acc.length <= 1000 by omega) (by decide))]
   rw [<- gB];obtain ⟨T', e, on', hat'⟩ := C9 (S := S) (many := many) (p := p) (a0 := a0) (a3 := a3) rfl r _ c (acc ++ [.tup [.int p, tupI x.1]]) (fun x hx => ho x (aV _ hx)) (on.set hc) hc (jU hat) (by rw [bO]; simp only [aW, cV]; omega)
   exact ⟨T', e, on', by rw [hat']; simp [EY, hq]⟩
  | false =>
   simp! [if_true];rw [<- gB];obtain ⟨T', e, on', hat'⟩ := C9 (S := S) (many := many) (p := p) (a0 := a0) (a3 := a3) rfl r T c acc (fun x hx => ho x (aV _ hx)) on hc hat (by omega)
   exact ⟨T', e, on', by rw [hat']; simp [EY, hq]⟩
theorem DY {S : aM} {many : Int} {k : Nat} {a0 : Option Vl} {w : FS} (hw : w = hZ) (hk : k <= 9) : ∀ (bs : List (List Stt)) (i : Nat) (T : aM) (c : Nat) (acc : List D), (∀ b ∈ bs, OkL many b k /\ bW b <= 12) -> bs.length <= 3 -> On S T -> S.length <= c -> T[c]? = some (.lst acc) -> acc.length + 12 * bs.length <= 100 -> ∃ T', loop (.tp [2, 3]) w (cJ i (bls bs)) [a0, some (.cel c), none, none, none, none] T = .next [a0, some (.cel c), none, none, none, none] T' /\ On S T' /\ T'[c]? = some (.lst (acc ++ EY (CC (i : Int) bs)))
 | [], i, T, c, acc, _, _, on, hc, hat, hl => ⟨T, rfl, on, by simpa [EY, CC] using hat⟩
 | b :: r, i, T, c, acc, ho, h3, on, hc, hat, hl => by
  obtain ⟨hb, hs⟩ := ho b (aY ..);simp only [aW] at hl h3;have e1 := Ip 10 (path := []) on.ls hb (by omega) (by simp; omega) (by omega)
  rw [show tupI [] = D.tup [] from rfl] at e1
  obtain ⟨T1, e2, on1, hat1⟩ := C9 (p := (i : Int)) (a0 := a0) (a3 := some (.dat (.lst (cD b)))) rfl (kW 0 b) T c acc (fun x hx => by obtain ⟨j, _, h⟩ := pC 0 b k hb x hx; exact ⟨j, h⟩) on hc hat (by rw [gV]; omega)
  rw [show cJ i (bls (b :: r)) = .tup [.int (i : Nat), .lst (cD b)] :: cJ (i + 1) (bls r) from rfl, loop]
  simp only [sJ, pG, aW, cV, if_true, bM, bH];rw [hw, hZ];simp! [e1, e2];rw [<- hZ];have hcl : (EY ((kW 0 b).map fun x => ((i : Int), x.1, x.2))).length <= 12 := by
   have := OS (ps := (kW 0 b).map fun x => ((i : Int), x.1, x.2))
   rw [bB, gV] at this;omega
  obtain ⟨T', e, on', hat'⟩ := DY (S := S) (many := many) (a0 := a0) rfl hk r (i + 1) T1 c _ (fun b hb => ho b (aV _ hb)) (by omega) on1 hc hat1 (by rw [bO]; omega)
  refine ⟨T', e, on', ?_⟩
  rw [hat', show CC (i : Int) (b :: r) = (kW 0 b).map (fun x => ((i : Int), x.1, x.2)) ++ CC ((i + 1 : Nat) : Int) r from rfl, IL, Aj]
theorem M8 {S : aM} {many : Int} {bs : List (List Stt)} {k : Nat} (ls : LS S) (hk : k <= 9) (ho : ∀ b ∈ bs, OkL many b k /\ bW b <= 12) (h3 : bs.length <= 3) : nO [.dat (cC bs)] S = .ok (.dat (.lst (EY (CC 0 bs)))) S := by
 rw [Eh];unfold oC;obtain ⟨T, e, on, hat⟩ := DY (S := S) (many := many) (a0 := some (.dat (cC bs))) rfl hk bs 0 (S ++ [.lst []]) S.length [] ho h3 ((On.refl ls).app) (bR _) (by simp) (by simp; omega)
 rw [oY, hM] at hat;have hf : ∀ S, N9 "Book" "own" (.dat (cC bs)) S = .ok (.dat (.lst (bls bs))) S := fun _ => rfl
 simp! [hf, e, zU hat];exact (on.kill (bR _)).trunc ls
mutual
def repS (x : D) (k : Nat) : Stt -> Stt
 | .keep b => .keep (repL x k b)
 | .again b => .again (repL x k b)
 | .either a b => if k < bW a then .either (repL x k a) b else .either a (repL x (k - bW a) b)
 | .call g f a b => if k < bW a then .call g f (repL x k a) b else .call g f a (repL x (k - bW a) b)
 | s => s
def repL (x : D) (k : Nat) : List Stt -> List Stt
 | [] => []
 | s :: r => if k = 0 then .odd x :: r else if k < s.size then repS x (k - 1) s :: r else s :: repL x (k - s.size) r
end
inductive Deed where
 | cmd (c : Cmd) | op | cl
abbrev CallS := Int × Bool × List Stt × List Stt
inductive Task where
 | lst (l : List Stt) (i : Nat) | close | again (b : List Stt) | call (p : Nat) (st : Option CallS)
structure Mc where
 bs : List (List Stt)
 bits : List Int
 taken : Nat
 deeds : List Deed
 stk : List Task
 act : List (List Nat)
 ended : Int
structure Pen where
 x : Int
 y : Int
 u : Int
 v : Int
 p : Int
 q : Int
def Pen.ns (z : Pen) : List Int := [z.x, z.y, z.u, z.v, z.p, z.q]
def dot (f : Nat -> Int) : Nat -> Int
 | 0 => 0
 | n + 1 => dot f n + f n
def gt (M : List Int) (i : Nat) : Int := M.getD i 0
def imgAt (M : List Int) (z : Pen) (i : Nat) : Int := dot (fun j => gt M (7 * i + j) * gt ((1 : Int) :: z.ns) j) 7
def delta (i j : Nat) : Int := if i = j then 1 else 0
@[irreducible] def mx (f : Nat -> Nat -> Int) : List Int := (bV 49).map fun t => f (t / 7) (t % 7)
def rows (f : Nat -> Nat -> Int) (n : Nat) : List Int := (bV n).flatMap fun i => (bV 7).map (f i)
@[irreducible] def unitM : List Int := mx delta
def Ob : Pen := ⟨0, 0, 0, 0, 0, 0⟩
def unitP (j : Nat) : Pen := ⟨delta 0 j, delta 1 j, delta 2 j, delta 3 j, delta 4 j, delta 5 j⟩
def vc (z : Pen) (i : Nat) : Int := gt ((1 : Int) :: z.ns) i
def Pg (r : Pen -> Pen) (i j : Nat) : Int := if j = 0 then vc (r Ob) i else vc (r (unitP (j - 1))) i - vc (r Ob) i
@[irreducible] def probeM (r : Pen -> Pen) : List Int := mx (Pg r)
def PP (r : Pen -> Pen) (M : List Int) : Prop := M.length = 49 /\ ∀ z i, i < 7 -> vc (r z) i = imgAt M z i
structure Ps where
 pens : List Pen
 z : Pen
 stk : List Pen
inductive Ed where
 | cmd (m : List Int) (q : Nat) | bit (b : Int) (q : Nat) | unit (es : List Nat) (sv : Bool) (ts : List Nat)
structure Us where
 p : Nat
 sv : Bool
 t : Nat
structure Gr where
 ps : List (List Ed × List Us)
 st : List Nat
def exF : Option PH.D -> List (Str × Vl)
 | none => []
 | some x => [("exits", .dat x)]
def gF (n : Nat) (fx : Option PH.D) : List (Str × Vl) := ("edges", .cel (n + 1)) :: ("users", .cel (n + 2)) :: ("starts", .cel (n + 3)) :: exF fx
def hC (n : Nat) (fx : Option PH.D) (G : Gr) : List Cell :=
 [.ins "Graph" (gF n fx), .lv ((bV G.ps.length).map fun i => .cel (n + 4 + 2 * i)), .lv ((bV G.ps.length).map fun i => .cel (n + 5 + 2 * i)), .lst (G.st.map fun p : Nat => .int p)]
structure Ms where
 m : List Int
 stk : List (List Int)
inductive Chain : List (List Int) -> (Pen -> List Pen) -> Prop
 | nil : Chain [] (fun _ => [])
 | cons {P : List Int} {k : List (List Int)} {ts : Pen -> List Pen} {f : Pen -> Pen} : PP f P -> Chain k ts -> Chain (P :: k) (fun z => f ((ts z).headD z) :: ts z)
def Inv (s : Ms) (p : Pen -> Ps) : Prop := ∃ (ts : Pen -> List Pen) (f : Pen -> Pen), Chain s.stk ts /\ PP f s.m /\ ∀ z, (p z).stk = ts z /\ (p z).z = f ((ts z).headD z)
end PH
namespace LA
abbrev Vc := Nat -> Int
def S : Nat -> (Nat -> Int) -> Int
 | 0, _ => 0
 | n + 1, f => S n f + f n
def lin (a : Int) (v : Vc) (b : Int) (w : Vc) : Vc := fun x => a * v x + b * w x
def zv : Vc := fun _ => 0
inductive Sp (G : Vc -> Prop) : Vc -> Prop
 | gen {v : Vc} : G v -> Sp G v
 | zero : Sp G zv
 | lin {v w : Vc} (a b : Int) : Sp G v -> Sp G w -> Sp G (lin a v b w)
 | div {v : Vc} (k : Int) : k ≠ 0 -> Sp G (fun x => k * v x) -> Sp G v
end LA
namespace LA
def fn (l : List Int) : Vc := fun x => l.getD x 0
def EA : List Int -> Nat
 | [] => 0
 | x :: r => if x = 0 then EA r + 1 else 0
def gcdN (l : List Int) : Nat := l.foldl (fun g x => Nat.gcd g x.natAbs) 0
end LA
namespace LA
def mulS (row base : List Int) (m : Int) : Int := if fn row (EA base) = 0 then m else Int.fdiv (m * fn base (EA base)) (gcdN [m, fn base (EA base)])
def mulL (B : List (List Int)) (row : List Int) : Int := B.foldl (fun m base => mulS row base m) 1
end LA
namespace LA
def Bd (b : Nat) (r : List Int) : Prop := ∀ x ∈ r, x.natAbs < 2 ^ b
end LA
namespace PH
open PySem PySem.Spec PyProof PyProof.Rows L2
abbrev rwD (r : List Int) : PH.D := .lst (r.map PH.D.int)
theorem sz1 {r : List Int} (h : r.length <= 1000) : r.length <= sizeLine := sz h
end PH
namespace LA
def Gr (R : Nat) : Nat -> List (List Int) -> Prop
 | _, [] => True
 | i, b :: B => Bd (2 ^ i * (R + 1) - 1) b /\ Gr R (i + 1) B
end LA
namespace PH
open PySem PySem.Spec PyProof PyProof.Rows L2
theorem iQ {t : Tg} {mb : FS} {d : PH.D} {r : List PH.D} {ρ ρ1 ρ2 : Ev} {S S2 : aM} (h1 : sJ t (.dat d) ρ = some ρ1) (h2 : mb ρ1 S = .next ρ2 S2) : loop t mb (d :: r) ρ S = loop t mb r ρ2 S2 := by
 rw [loop, h1];dsimp only;rw [h2]
def rwP (r : List Int) : PyData := .list (r.map PyData.int)
theorem IE : ∀ r : List Int, D.pys (r.map PH.D.int) = some (r.map PyData.int)
 | [] => rfl
 | x :: r => by
  rw [bG, bG, D.pys, IE r];rfl
theorem KG (r : List Int) : D.py (rwD r) = some (rwP r) := by
 show D.py (.lst (r.map PH.D.int)) = _
 rw [D.py, IE r];rfl
theorem FV : ∀ r : List Int, D.Pls (r.map PH.D.int) /\ D.hts (r.map PH.D.int) = 0
 | [] => ⟨trivial, rfl⟩
 | x :: r => by
  obtain ⟨h1, h2⟩ := FV r;refine ⟨⟨trivial, h1⟩, ?_⟩
  rw [bG, D.hts, h2];rfl
theorem Pe {r : List Int} (h : r.length <= 1000) : (rwD r).Pl /\ (rwD r).ht = 1 := by
 obtain ⟨h1, h2⟩ := FV r;refine ⟨⟨by rw [bB]; exact h, h1⟩, ?_⟩
 show D.hts (r.map PH.D.int) + 1 = 1
 rw [h2]
theorem KA {d e : PH.D} {p q : PyData} (h1 : d.Pl) (h2 : d.ht <= 64) (h3 : d.py = some p) (k1 : e.Pl) (k2 : e.ht <= 64) (k3 : e.py = some q) : Md p q = true := by
 unfold Md;rw [Cu h1 h2 h3, Cu k1 k2 k3];rfl
def exF2 (i n : Nat) : List (Nat × Nat) := (rH i n).map fun i => (2 * i, 2 * i + 1)
def exs (n : Nat) : List (Nat × Nat) := exF2 0 n
structure En where
 len : Int
 bits : List Int
 mat : List Int
structure Cand where
 p : Nat
 bits : List Int
 more : List Int
 mat : List Int
abbrev Wt := List (Int × List Cand)
abbrev Wi := List (Int × Nat × List Cand)
def zB (T : aM) (E : List (List En)) : Nat := T.length + 4 + E.length
structure SSt where
 E : List (List En)
 B : List (List (List Int))
 A : Wt
abbrev OkP := Nat -> Int -> List Int -> List Int -> Prop
def csum (f : Nat -> Nat) : Nat -> Nat
 | 0 => 0
 | n + 1 => csum f n + f n
def room (m : Nat) (C : Nat -> Nat) (E : List (List En)) : Nat := csum (fun p => C p * (m - (E.getD p []).length)) E.length
abbrev Prc := Nat -> Nat -> Int -> List Int -> List Int -> Prop
def R0 (M : List Int) : Prop := ∀ j, j < 7 -> gt M j = delta 0 j
abbrev RSet := Int -> List Int -> List Int -> Prop
def Sb (F Q : RSet) : Prop := ∀ L b M, F L b M -> Q L b M
def putF (F : OkP) (p : Nat) (a : RSet) : OkP := fun q => if q = p then a else F q
def tg (af : Nat) (ex : Nat × Nat) (o : Nat) : Nat := if o = 0 then af else if o = 1 then ex.1 else ex.2
inductive Frm where
 | blk (l : List Stt) (i : Nat) | kp (zs : List Pen) | cl (f : Bool) (zs : List Pen) (a b : List Stt) | ag (a : List Stt)
abbrev R4 := Nat × Nat × (Pen -> Pen) × List Int
abbrev EP := Nat -> List Int -> Option R4
structure PSt where
 fs : List Frm
 zs : List Pen
 u : Nat
 n : Nat
 w : Nat
inductive PO where
 | go (s : PSt) | more | loop
section
variable {bs : List (List Stt)} {B : List Int}
def Pos (B : List Int) (u : Nat) (b : List Int) : Prop := u + b.length = B.length /\ B.drop u = b
end
section
variable {S : aM}
theorem MR {n : Int} : xM [.dat (.int n)] S = .ok (.dat (.bl true)) S := by
 rw [IS]; unfold yH;simp! [if_true];rfl
theorem NN {n m : Int} (h0 : 0 <= n) (h : n < m) : jI [.dat (.int n), .dat (.int m)] S = .ok (.dat (.bl true)) S := by
 rw [G9]; unfold uN;simp! [MR, decide_eq_true h0, decide_eq_true h];rfl
end
theorem IY {T F : aM} {n : Nat} {d : PH.D} (h : (T.all fun c => c.below T.length) = true) (hn : n = T.length) : trunc n (.ok (.dat d) (T ++ F)) = .ok (.dat d) T := by
 subst hn;have e : (T ++ F).take T.length = T := by simp
 dsimp only [trunc];rw [e];simp only [Vl.below, h, sH, if_true]
theorem Fw {xs : List D} {n : Nat} : cutD xs none (some (n : Int)) = xs.take n := by
 unfold cutD;rw [HT.sIx_none, HT.sIx_nat];simp
def plT (c : Int × List Int) : D := .tup [.int c.1, tupI c.2]
inductive Pce where
 | kp (c : Cmd) | cl (f : Bool)
def kI (k : Nat) : PH.D := .int (k : Int)
def eZ (row : List Nat) : PH.D := .lst (row.map kI)
def chF (row : List Nat) (k : Nat) : Bool := match row.getLast? with
 | none => true
 | some a => decide (a < k)
def nxt (n : Nat) (lev : List (List Nat)) : List (List Nat) := lev.flatMap fun row => ((bV n).filter (chF row)).map fun k => row ++ [k]
def lvl (n : Nat) : Nat -> List (List Nat)
 | 0 => [[]]
 | k + 1 => nxt n (lvl n k)
section
variable {S T : aM}
theorem BU (n : Nat) : jH 0 n = (bV n).map kI := by
 unfold jH kI;refine kA fun k _ => ?_
 rw [Int.zero_add]
end
theorem LS.all {S : aM} (h : LS S) : (S.all fun c => c.below S.length) = true := bZ.mpr fun c hc => h c hc _
theorem F6 {n : Nat} {xs : List PH.D} {S : aM} {f : FD} {i : Nat} {x y : PH.D} (hx : xs[i]? = some x) (ex : cQ (.dat y) (.dat (.int (0 + (i : Int)))) S = .ok (.dat x) S) (h : f [.dat x, .dat x] S = .ok (.dat (.bl true)) S) : nX f [some (.dat y), some (.dat y), some (.dat (.int (0 + (i : Int))))] S = .ok (.dat (.bl true)) S := by
 unfold nX;simp! [ex, h]
theorem xE (n : Nat) : ∀ {S : aM} {d : PH.D}, d.Pl -> d.ht < n -> gJ n [.dat d, .dat d] S = .ok (.dat (.bl true)) S := by
 induction n with
 | zero => intro S d _ h; omega
 | succ n ih =>
  intro S d hp hd;rw [HU];unfold rZ;cases d with
  | non => simp! [show lH false (.dat .non) (.dat .non) S = .ok (.dat (.bl true)) S from rfl]; rfl
  | bl b => simp! [if_true]; cases b <;> rfl
  | int i => simp! [if_true]; rfl
  | str x => simp! [if_true]; rfl
  | ins _ _ _ => exact hp.elim
  | dct => exact hp.elim
  | opq _ => exact hp.elim
  | lst xs =>
   have hl := hp.1;simp! [iV (show -(2 ^ 62) <= (xs.length : Int) by omega) (show (xs.length : Int) < 2 ^ 62 by omega), jH, cZ]
   rw [gN (g := fun _ => PH.D.bl true) (sz (by simp; omega)) fun i hi => ⟨_, rfl, ?_⟩]
   ·simp! [if_true]
    rw [all_true];rfl
   ·have hi' : i < xs.length := wX.mp hi
    have hx : xs[i]? = some xs[i] := cX hi';have hm : xs[i] ∈ xs := eD hi';have := wC hm;have hd' : PH.D.hts xs + 1 < n + 1 := hd;exact F6 (n := n) hx (uA (by rw [fR (n := i) (by omega), hx])) (ih (wA hp.2 hm) (by omega))
  | tup xs =>
   have hl := hp.1;simp! [iV (show -(2 ^ 62) <= (xs.length : Int) by omega) (show (xs.length : Int) < 2 ^ 62 by omega), jH, cZ]
   rw [gN (g := fun _ => PH.D.bl true) (sz (by simp; omega)) fun i hi => ⟨_, rfl, ?_⟩]
   ·simp! [if_true]
    rw [all_true];rfl
   ·have hi' : i < xs.length := wX.mp hi
    have hx : xs[i]? = some xs[i] := cX hi';have hm : xs[i] ∈ xs := eD hi';have := wC hm;have hd' : PH.D.hts xs + 1 < n + 1 := hd;exact F6 (n := n) hx (Ff (by rw [fR (n := i) (by omega), hx])) (ih (wA hp.2 hm) (by omega))
def kps : List Pce -> Nat
 | [] => 0
 | .kp _ :: r => kps r + 1
 | .cl _ :: r => kps r
def cls : List Pce -> Nat
 | [] => 0
 | .kp _ :: r => cls r
 | .cl _ :: r => cls r + 1
section
variable {bs : List (List Stt)} {T : Nat -> Nat} {S : aM} {g : Nat}
abbrev R3 := Nat × Nat × List Int
end
theorem Po {z w : Pen} (h : z.ns = w.ns) : z = w := by
 obtain ⟨a1, a2, a3, a4, a5, a6⟩ := z;obtain ⟨b1, b2, b3, b4, b5, b6⟩ := w;simp only [Pen.ns, List.cons.injEq, and_true] at h;obtain ⟨rfl, rfl, rfl, rfl, rfl, rfl⟩ := h;rfl
instance : DecidableEq Pen := fun z w => if h : z.ns = w.ns then .isTrue (Po h) else .isFalse fun e => h (by rw [e])
structure Eqn where
 vars : List (Nat × Nat)
 left : List Nat
 right : List Nat
 parts : List Nat
def A8 (v : Nat × Nat) : PH.D := .tup [.int (v.1 : Int), .int (v.2 : Int)]
def Eqn.d (q : Eqn) : PH.D := .tup [.lst (q.vars.map A8), eZ q.left, eZ q.right, eZ q.parts]
section
variable {S : aM}
theorem QM {xs : List PH.D} {n : Nat} {d : PH.D} (h : xs[n]? = some d) : cQ (.dat (.lst xs)) (.dat (.int (n : Int))) S = .ok (.dat d) S := uA (atI_nat h)
theorem Pn (s : List Nat) : eZ s = rwD (s.map fun k : Nat => (k : Int)) := by
 unfold eZ
 show PH.D.lst (s.map kI) = PH.D.lst ((s.map fun k : Nat => (k : Int)).map PH.D.int)
 rw [Ai];rfl
structure QFit (q : Eqn) (n : Nat) : Prop where
 l : ∀ i ∈ q.left, i < n
 r : ∀ i ∈ q.right, i < n
 ll : q.left.length <= 4
 lr : q.right.length <= 4
 p : ∀ p ∈ q.parts, p <= 2
end
def PW {α : Type} : List α -> List (List α) -> Prop
 | [], [] => True
 | x :: xs, r :: rs => x ∈ r /\ PW xs rs
 | _, _ => False
structure QB (q : Eqn) (n : Nat) : Prop where
 v : ∀ v ∈ q.vars, v.1 < n /\ v.2 < 2
 l1 : 1 <= q.vars.length
 l3 : q.vars.length <= 3
 f : QFit q q.vars.length
def eF (vs : List (Nat × Nat)) : PH.D := .lst (vs.map A8)
structure QOk (q : Eqn) (n : Nat) : Prop extends QB q n where
 nl : q.left.Nodup
 nr : q.right.Nodup
 cov : ∀ k, k < q.vars.length -> k ∈ q.left \/ k ∈ q.right
 pn : q.parts ≠ []
 asc : q.parts.Pairwise (· < ·)
section
variable {S : aM} {n : Nat} {q : Eqn}
theorem OK (a b : Int) : PyData.eqv (.int a) (.int b) = decide (a = b) := by
 rw [Bool.eq_iff_iff];simp [PyData.eqv]
theorem Gz {neg : Bool} {s : List Nat} {k : Nat} (h : s.length <= 1000) : Cd neg (.dat (.int (k : Int))) (.dat (eZ s)) S = .ok (.dat (.bl (if neg then !decide (k ∈ s) else decide (k ∈ s)))) S := by
 rw [Pn];obtain ⟨b1, b2⟩ := Pe (r := s.map fun k : Nat => (k : Int)) (by rw [bB]; exact h)
 have e : (((s.map fun k : Nat => (k : Int)).map PyData.int).any fun z => PyData.eqv z (.int (k : Int))) = decide (k ∈ s) := by
  rw [Bool.eq_iff_iff];simp only [List.any_map, List.any_eq_true, Function.comp, OK, decide_eq_true_eq]
  constructor
  ·rintro ⟨x, h1, h2⟩
   have : x = k := by omega
   rw [<- this];exact h1
  ·intro h
   exact ⟨k, h, rfl⟩
 show (match some (PyData.int (k : Int)), D.py (rwD (s.map fun k : Nat => (k : Int))) with
  | some p, some (.list qs) => if Md p (.list qs) = true then Res.ok (Vl.dat (.bl (if neg then !(qs.any fun z => PyData.eqv z p) else (qs.any fun z => PyData.eqv z p)))) S else .stuck
  | _, _ => .stuck) = _
 rw [KG]
 show (if Md _ (.list _) = true then _ else _) = _
 have hs : Md (.int (k : Int)) (.list ((s.map fun k : Nat => (k : Int)).map PyData.int)) = true := KA (d := .int (k : Int)) trivial (by simp [D.ht]) rfl b1 (by omega) (KG _)
 rw [if_pos hs, e]
theorem PY {v : Nat × Nat} (h1 : v.1 < n) (h2 : v.2 < 2) : eT [.dat (A8 v), .dat (.int (n : Int))] S = .ok (.dat (.bl true)) S := by
 rw [vV]; unfold jO A8;simp! [hI, tY, NN (S := S) (n := (v.1 : Int)) (m := (n : Int)) (by omega) (by omega), NN (S := S) (n := (v.2 : Int)) (m := 2) (by omega) (by omega)]
 rfl
theorem MS {vs : List (Nat × Nat)} (hv : ∀ v ∈ vs, v.1 < n /\ v.2 < 2) (h1 : 1 <= vs.length) (h3 : vs.length <= 3) : gW [.dat (eF vs), .dat (.int (n : Int)), .dat (.int 3)] S = .ok (.dat (.bl true)) S := by
 have lc : CL false (.nm 3) gK (aO eT (aB (aC 3) (aB (aC 1) aI))) [some (.dat (eF vs)), some (.dat (.int (n : Int))), some (.dat (.int 3)), none] [3] (vs.map A8) S = .ok (.dat (.lst (vs.map fun _ => PH.D.bl true))) S := by
  rw [gN (g := fun _ : Nat × Nat => PH.D.bl true) (sz (by omega)) fun v hv' => ⟨_, rfl, by
   have := PY (S := S) (hv v hv').1 (hv v hv').2;simp! [this]⟩]
  rfl
 have al := all_true (S := S) vs;have hl : cK (.dat (eF vs)) S = .ok (.dat (.int (vs.length : Int))) S := by
  show Res.ok (Vl.dat (.int ((vs.map A8).length : Int))) S = _
  rw [bB]
 rw [sU]; unfold gZ;unfold eF at lc hl ⊢;simp! [hl, decide_eq_true (show (1 : Int) <= (vs.length : Int) by omega), decide_eq_true (show (vs.length : Int) <= 3 by omega), bB, lc, al]
 rfl
theorem BA {s : List Nat} (hs : ∀ i ∈ s, i < n) (hn : s.Nodup) (hl : s.length <= 900) : ∀ (m j : Nat), m + j = s.length -> loop (.tp [2, 3]) hX (cJ j ((s.drop j).map kI)) [some (.dat (eZ s)), some (.dat (.int (n : Int))), none, none] S = .next [some (.dat (eZ s)), some (.dat (.int (n : Int))), none, none] S
 | 0, j, h => by
  rw [List.drop_of_length_le (by omega)]
  rfl
 | m + 1, j, h => by
  have hlt : j < s.length := by omega
  have ih := BA hs hn hl m (j + 1) (by omega)
  rw [fY hlt, bG, cJ, <- ih];refine iQ (ρ1 := [some (.dat (eZ s)), some (.dat (.int (n : Int))), some (.dat (.int (j : Int))), some (.dat (kI s[j]))]) rfl ?_
  have w := NN (S := S) (n := (s[j] : Int)) (m := (n : Int)) (by omega) (by have := hs s[j] (eD hlt); omega)
  have w' : jI [.dat (kI s[j]), .dat (.int (n : Int))] S = .ok (.dat (.bl true)) S := w;have ct : IH false (.dat (eZ s)) none (some (j : Int)) S = .ok (.dat (eZ (s.take j))) S := by
   show newL false (cutD (s.map kI) none (some (j : Int))) S = _
   rw [Fw, <- List.map_take];rfl
  have ni : s[j] ∉ s.take j := by
   intro hm;obtain ⟨i, hi, e⟩ := List.mem_iff_getElem.mp hm;rw [List.getElem_take] at e;rw [nF] at hi;have := (List.getElem_inj hn).mp e;omega
  have fi := Gz (S := S) (neg := false) (s := s.take j) (k := s[j]) (by rw [nF]; omega)
  rw [decide_eq_false ni] at fi;have fi' : Cd false (.dat (kI s[j])) (.dat (eZ (s.take j))) S = .ok (.dat (.bl false)) S := fi;unfold hX;simp! [w', ct, fi']
theorem DD {s : List Nat} (hs : ∀ i ∈ s, i < n) (hn : s.Nodup) (hl : s.length <= 900) : oF [.dat (eZ s), .dat (.int (n : Int))] S = .ok (.dat (.bl true)) S := by
 have lp := BA (S := S) hs hn hl s.length 0 (by omega)
 rw [List.drop_zero] at lp;have en : ∀ {ρ : Ev}, sO (aC 0) (some (.dat (eZ s)) :: ρ) S = .ok (cJ 0 (s.map kI)) S := fun {ρ} => rfl
 rw [De]; unfold rC;unfold eZ at lp en ⊢;simp! [en, lp];rfl
theorem BZ {a0 : Option Vl} : ∀ (ps : List Nat) (lo : Nat), (∀ p ∈ ps, p <= 2 /\ lo <= p) -> ps.Pairwise (· < ·) -> ∃ hi : Nat, loop (.nm 2) eS (ps.map kI) [a0, some (.dat (.int (lo : Int))), none] S = .next [a0, some (.dat (.int (hi : Int))), none] S
 | [], lo, _, _ => ⟨lo, rfl⟩
 | p :: r, lo, h, hp => by
  obtain ⟨h1, h2⟩ := h p (aY ..);rw [eC] at hp;obtain ⟨hi, ih⟩ := BZ (a0 := a0) r (p + 1) (fun x hx => ⟨(h x (aV _ hx)).1, hp.1 x hx⟩) hp.2
  refine ⟨hi, ?_⟩
  rw [bG, <- ih];refine iQ (ρ1 := [a0, some (.dat (.int (lo : Int))), some (.dat (kI p))]) rfl ?_
  have w := NN (S := S) (n := (p : Int)) (m := 3) (by omega) (by omega)
  have w' : jI [.dat (kI p), .dat (.int 3)] S = .ok (.dat (.bl true)) S := w;have lt : ET (.dat (kI p)) (.dat (.int (lo : Int))) S = .ok (.dat (.bl false)) S := by
   show Res.ok (Vl.dat (.bl (decide ((p : Int) < (lo : Int))))) S = _
   rw [decide_eq_false (by omega)]
  have ad : dD false (.dat (kI p)) (.dat (.int 1)) S = .ok (.dat (.int ((p + 1 : Nat) : Int))) S := rfl;unfold eS;simp! [w', lt, ad]
theorem KQ {ps : List Nat} (h : ∀ p ∈ ps, p <= 2) (hp : ps.Pairwise (· < ·)) (hn : ps ≠ []) : mT [.dat (eZ ps)] S = .ok (.dat (.bl true)) S := by
 obtain ⟨hi, lp⟩ := BZ (S := S) (a0 := some (.dat (eZ ps))) ps 0 (fun p hm => ⟨h p hm, dQ _⟩) hp
 rw [hM] at lp;have sq : itemsOf (.dat (eZ ps)) S = .ok (ps.map kI) S := rfl;rw [AZ]; unfold mY;cases ps with
 | nil => exact absurd rfl hn
 | cons p r =>
  unfold eZ at lp sq ⊢;rw [bG] at lp sq ⊢;simp! [sq, lp, List.isEmpty_cons, Bool.not_false, Bool.not_true];rfl
end
abbrev Plc := Int × List Int
theorem BW {ds : List PH.D} (h : ∀ d ∈ ds, d.Pl) : PH.D.Pls ds := by
 induction ds with
 | nil => trivial
 | cons d r ih => exact ⟨h d (aY ..), ih fun x hx => h x (aV _ hx)⟩
theorem AN {ds : List PH.D} {k : Nat} (h : ∀ d ∈ ds, d.ht <= k) : PH.D.hts ds <= k := by
 induction ds with
 | nil => exact dQ _
 | cons d r ih =>
  rw [PH.D.hts];exact Nat.max_le.mpr ⟨h d (aY ..), ih fun x hx => h x (aV _ hx)⟩
theorem zR {ds : List PH.D} {k : Nat} (hl : ds.length <= 1000) (h : ∀ d ∈ ds, d.Pl /\ d.ht <= k) : (PH.D.lst ds).Pl /\ (PH.D.lst ds).ht <= k + 1 :=
 ⟨⟨hl, BW fun d hd => (h d hd).1⟩, CN (AN fun d hd => (h d hd).2)⟩
theorem Dl {ds : List PH.D} {k : Nat} (hl : ds.length <= 1000) (h : ∀ d ∈ ds, d.Pl /\ d.ht <= k) : (PH.D.tup ds).Pl /\ (PH.D.tup ds).ht <= k + 1 :=
 ⟨⟨hl, BW fun d hd => (h d hd).1⟩, CN (AN fun d hd => (h d hd).2)⟩
theorem plT_pl {c : Plc} (h : c.2.length <= 1000) : (plT c).Pl /\ (plT c).ht <= 2 := by
 refine Dl (k := 1) (by simp) fun d hd => ?_
 simp only [bN, fK, or_false] at hd;rcases hd with rfl | rfl
 ·exact ⟨trivial, dQ _⟩
 ·refine Dl (k := 0) (by rw [bB]; exact h) fun d hd => ?_
  obtain ⟨x, _, rfl⟩ := dH.mp hd;exact ⟨trivial, dQ _⟩
theorem EF {s : List Nat} (hl : s.length <= 1000) : (eZ s).Pl /\ (eZ s).ht <= 1 := by
 refine zR (k := 0) (by rw [bB]; exact hl) fun d hd => ?_
 obtain ⟨c, hc, rfl⟩ := dH.mp hd;exact ⟨trivial, dQ _⟩
theorem RK {q : Eqn} {n : Nat} (Q : QOk q n) : q.d.Pl /\ q.d.ht <= 4 := by
 refine Dl (k := 3) (by simp) fun d hd => ?_
 simp only [bN, fK, or_false] at hd;have hp : q.parts.length <= 1000 := by
  have : ∀ (ps : List Nat) (lo : Nat), (∀ p ∈ ps, p <= 2 /\ lo <= p) -> ps.Pairwise (· < ·) -> lo + ps.length <= 3 \/ ps = [] := by
   intro ps
   induction ps with
   | nil => intro lo _ _; exact .inr rfl
   | cons p r ih =>
    intro lo h hs;obtain ⟨h1, h2⟩ := eC.mp hs;have hp := h p (aY ..)
    left
    rcases ih (p + 1) (fun x hx => ⟨(h x (aV _ hx)).1, h1 x hx⟩) h2 with k | k
    ·rw [aW]; omega
    ·rw [k]; show lo + 1 <= 3; omega
  rcases this q.parts 0 (fun p hp => ⟨Q.f.p p hp, dQ _⟩) Q.asc with k | k
  ·omega
  ·rw [k]; decide
 rcases hd with rfl | rfl | rfl | rfl
 ·have := zR (ds := q.vars.map A8) (k := 1) (by rw [bB]; have := Q.l3; omega) fun d hd => by
   obtain ⟨c, hc, rfl⟩ := dH.mp hd;exact ⟨⟨show 2 <= 1000 by omega, trivial, trivial, trivial⟩, bR _⟩
  exact ⟨this.1, by have := this.2; omega⟩
 ·have := EF (s := q.left) (by have := Q.f.ll; omega)
  exact ⟨this.1, by have := this.2; omega⟩
 ·have := EF (s := q.right) (by have := Q.f.lr; omega)
  exact ⟨this.1, by have := this.2; omega⟩
 ·have := EF (s := q.parts) hp
  exact ⟨this.1, by have := this.2; omega⟩
structure QDr (keys vs : List (Nat × Nat)) (l r : List Nat) (j : Nat) : Prop where
 v : ∀ v ∈ vs, v ∈ keys
 lv : vs.length = j
 bl : ∀ i ∈ l, i < j
 br : ∀ i ∈ r, i < j
 nl : l.Nodup
 nr : r.Nodup
 ll : l.length <= j
 lr : r.length <= j
 cov : ∀ i, i < j -> i ∈ l \/ i ∈ r
def Cc (l : List Nat) (k x : Nat) : List Nat := l.take k ++ [x] ++ l.drop k
theorem insN_mem {l : List Nat} {k x y : Nat} : y ∈ Cc l k x ↔ y ∈ l \/ y = x := by
 unfold Cc;have : y ∈ l ↔ y ∈ l.take k \/ y ∈ l.drop k := by
  rw [<- bT, mZ]
 rw [bT, bT, this, cU]
 constructor
 ·rintro ((h | h) | h)
  ·exact .inl (.inl h)
  ·exact .inr h
  ·exact .inl (.inr h)
 ·rintro ((h | h) | h)
  ·exact .inl (.inl h)
  ·exact .inr h
  ·exact .inl (.inr h)
theorem Br {l : List Nat} {k x : Nat} (h : l.Nodup) (hx : x ∉ l) : (Cc l k x).Nodup := by
 unfold Cc;have e : (l.take k ++ l.drop k).Nodup := by rw [mZ]; exact h
 rw [Aj];refine (List.perm_middle (l₁ := l.take k) (l₂ := l.drop k) (a := x)).symm.nodup ?_
 rw [List.nodup_cons];exact ⟨by rw [mZ]; exact hx, e⟩
theorem FX {l : List Nat} {k x : Nat} : (Cc l k x).length = l.length + 1 := by
 unfold Cc;rw [bO, bO, List.length_singleton];have := congrArg Jr (mZ k l);rw [bO] at this;omega
theorem FW {l : List Nat} {k x : Nat} : (Cc l k x).map kI = (l.map kI).take k ++ [kI x] ++ (l.map kI).drop k := by
 unfold Cc;simp
def rowE : List (List Nat) := [[0], [1], [2], [0, 1], [0, 2], [1, 2], [0, 1, 2], [0, 1, 2]]
theorem Mn : ∀ row ∈ rowE, (∀ p ∈ row, p <= 2) /\ row ≠ [] /\ row.Pairwise (· < ·) /\ row.length <= 3 := by decide
section
variable {S : aM} {p : Nat} {ks : List Int} {keys vs : List (Nat × Nat)} {l r : List Nat}
abbrev qS (S : aM) (p : Nat) (ks : List Int) (vs : List (Nat × Nat)) (l r : List Nat) : aM := S.set p (PL ks) ++ [.lst (vs.map A8), .lst (l.map kI), .lst (r.map kI)]
theorem uR (hp : p < S.length) (h2 : 2 <= ks.length) : PoolAt (qS S p ks vs l r) p ks := by
 refine ⟨?_, h2⟩
 rw [aR (by rw [aS]; exact hp), aQ, if_pos rfl, if_pos hp]
theorem zN (hp : p < S.length) {ks' : List Int} : (qS S p ks vs l r).set p (PL ks') = qS S p ks' vs l r := by
 unfold qS;rw [List.set_append_left _ _ (by rw [aS]; exact hp), pB]
theorem Pf {n : Nat} (hn : n = S.length) : (qS S p ks vs l r)[n]? = some (.lst (vs.map A8)) := by
 subst hn;rw [bE (by rw [aS]; omega), aS, pY]; rfl
theorem qS_1 {n : Nat} (hn : n = S.length + 1) : (qS S p ks vs l r)[n]? = some (.lst (l.map kI)) := by
 subst hn;rw [bE (by rw [aS]; omega), aS, show S.length + 1 - S.length = 1 by omega]; rfl
theorem qS_2 {n : Nat} (hn : n = S.length + 2) : (qS S p ks vs l r)[n]? = some (.lst (r.map kI)) := by
 subst hn;rw [bE (by rw [aS]; omega), aS, show S.length + 2 - S.length = 2 by omega]; rfl
theorem qS_s0 {n : Nat} (hn : n = S.length) {vs' : List (Nat × Nat)} : (qS S p ks vs l r).set n (.lst (vs'.map A8)) = qS S p ks vs' l r := by
 subst hn;unfold qS;rw [eA _ _ (by rw [aS]; omega), aS, pY]; rfl
theorem qS_s1 {n : Nat} (hn : n = S.length + 1) {l' : List Nat} : (qS S p ks vs l r).set n (.lst (l'.map kI)) = qS S p ks vs l' r := by
 subst hn;unfold qS;rw [eA _ _ (by rw [aS]; omega), aS, show S.length + 1 - S.length = 1 by omega]; rfl
theorem qS_s2 {n : Nat} (hn : n = S.length + 2) {r' : List Nat} : (qS S p ks vs l r).set n (.lst (r'.map kI)) = qS S p ks vs l r' := by
 subst hn;unfold qS;rw [eA _ _ (by rw [aS]; omega), aS, show S.length + 2 - S.length = 2 by omega]; rfl
theorem OL (hp : p < S.length) (h2 : 2 <= ks.length) (hne : keys ≠ []) (hkl : keys.length <= 900) {j : Nat} (hj : j <= 3) (I : QDr keys vs l r j) {n0 n1 n2 : Nat} (e0 : n0 = S.length) (e1 : n1 = S.length + 1) (e2 : n2 = S.length + 2) {a2 a6 a7 : Option Vl} :
  ∃ (ks' : List Int) (vs' : List (Nat × Nat)) (l' r' : List Nat), hY [some (.cel p), some (.dat (eF keys)), a2, some (.cel n0), some (.cel n1), some (.cel n2), a6, a7, some (.dat (kI j)), none] (qS S p ks vs l r) = .next [some (.cel p), some (.dat (eF keys)), a2, some (.cel n0), some (.cel n1), some (.cel n2), a6, a7, none, none] (qS S p ks' vs' l' r') /\ QDr keys vs' l' r' (j + 1) /\ ks'.length = ks.length := by
 have hkp : 0 < keys.length := List.length_pos_iff.mpr hne;have hlen : ∀ {T : aM}, cK (.dat (eF keys)) T = .ok (.dat (.int (keys.length : Int))) T := fun {T} => by
  show Res.ok (Vl.dat (.int ((keys.map A8).length : Int))) T = _
  rw [bB]
 obtain ⟨d1, k1, q1, d10, d11, l1⟩ := dW (uR (vs := vs) (l := l) (r := r) hp h2) (k := (keys.length : Int)) (by omega) (by omega)
 rw [zN hp] at q1;obtain ⟨t, rfl⟩ : ∃ t : Nat, d1 = (t : Int) := ⟨d1.toNat, by omega⟩
 have ht : t < keys.length := by omega
 have kt : keys[t]? = some keys[t] := cX ht;have ix : ∀ {T : aM}, cQ (.dat (eF keys)) (.dat (.int (t : Int))) T = .ok (.dat (A8 keys[t])) T := fun {T} => QM (by rw [eN, kt]; rfl)
 have hv0 := Pf (S := S) (p := p) (ks := k1) (vs := vs) (l := l) (r := r) e0;have ap := zV (d := A8 keys[t]) hv0 (show (vs.map A8).length < sizeLine by rw [bB]; exact sz (by have := I.lv; omega))
 rw [show vs.map A8 ++ [A8 keys[t]] = (vs ++ [keys[t]]).map A8 by simp, qS_s0 e0] at ap
 obtain ⟨d2, k2, q2, d20, d21, l2⟩ := dW (uR (vs := vs ++ [keys[t]]) (l := l) (r := r) (ks := k1) hp (by omega)) (k := 4) (by decide) (by decide)
 rw [zN hp] at q2;have vl : ∀ v ∈ vs ++ [keys[t]], v ∈ keys := fun v hv => by
  rcases bT.mp hv with hv | hv
  ·exact I.v v hv
  ·rw [cU.mp hv]; exact eD ht
 have vn : (vs ++ [keys[t]]).length = j + 1 := by rw [bO, I.lv]; rfl
 -- the left side
 have left : ∃ (k3 : List Int) (l' : List Nat), (bJ (mB (aX A0 (aC 9) (mC (.int 1)))) (eV (Gi (aC 4) (aO bA (aB (aC 0) (aB (aX (dD false) (m1 cK (aC 4)) (mC (.int 1))) aI))) (aC 8))) aZ) [some (.cel p), some (.dat (eF keys)), a2, some (.cel n0), some (.cel n1), some (.cel n2), a6, a7, some (.dat (kI j)), some (.dat (.int d2))] (qS S p k2 (vs ++ [keys[t]]) l r) = .next [some (.cel p), some (.dat (eF keys)), a2, some (.cel n0), some (.cel n1), some (.cel n2), a6, a7, some (.dat (kI j)), some (.dat (.int d2))] (qS S p k3 (vs ++ [keys[t]]) l' r) /\ k3.length = ks.length /\ (∀ i ∈ l', i < j + 1) /\ l'.Nodup /\ l'.length <= j + 1 /\ (∀ i ∈ l, i ∈ l') /\ (d2 ≠ 1 -> j ∈ l') := by
  by_cases c : d2 = 1
  ·refine ⟨k2, l, ?_, by omega, fun i hi => by have := I.bl i hi; omega, I.nl, by have := I.ll; omega, fun i hi => hi, fun h => absurd c h⟩
   have ne : ∀ {T : aM}, A0 (.dat (.int d2)) (.dat (.int 1)) T = .ok (.dat (.bl false)) T := fun {T} => by rw [c]; rfl
   simp! [ne]
  ·obtain ⟨d3, k3, q3, d30, d31, l3⟩ := dW (uR (vs := vs ++ [keys[t]]) (l := l) (r := r) (ks := k2) hp (by omega)) (k := (l.length : Int) + 1) (by omega) (by have := I.ll; omega)
   rw [zN hp] at q3;obtain ⟨u, rfl⟩ : ∃ u : Nat, d3 = (u : Int) := ⟨d3.toNat, by omega⟩
   have h1 := fun (kk : List Int) => qS_1 (S := S) (p := p) (ks := kk) (vs := vs ++ [keys[t]]) (l := l) (r := r) e1
   have ins := HD (k := u) (d := kI j) (h1 k3) (by rw [bB]; exact sz (by have := I.ll; omega)) (by have := I.ll; omega)
   rw [<- FW, qS_s1 e1] at ins;have hl4 : cK (.cel n1) (qS S p k2 (vs ++ [keys[t]]) l r) = .ok (.dat (.int (l.length : Int))) (qS S p k2 (vs ++ [keys[t]]) l r) := by
    rw [Bu (h1 k2), bB]
   have ne : ∀ {T : aM}, A0 (.dat (.int d2)) (.dat (.int 1)) T = .ok (.dat (.bl true)) T := fun {T} => by
    show Res.ok (Vl.dat (.bl (!decide (d2 = 1)))) T = _
    rw [decide_eq_false c]; rfl
   refine ⟨k3, Cc l u j, ?_, by omega, fun i hi => ?_, Br I.nl fun h => by have := I.bl j h; omega, by rw [FX]; have := I.ll; omega, fun i hi => insN_mem.mpr (.inl hi), fun _ => insN_mem.mpr (.inr rfl)⟩
   ·simp! [ne, LY, EM (h1 k2), hl4, q3, EL, ins]
   ·rcases insN_mem.mp hi with hi | rfl
    ·have := I.bl i hi; omega
    ·omega
 obtain ⟨k3, l', q3, l3, i1, i2, i3, i4, i5⟩ := left;have right : ∃ (k4 : List Int) (r' : List Nat), (bJ (mB (aX A0 (aC 9) (mC (.int 0)))) (eV (Gi (aC 5) (aO bA (aB (aC 0) (aB (aX (dD false) (m1 cK (aC 5)) (mC (.int 1))) aI))) (aC 8))) aZ) [some (.cel p), some (.dat (eF keys)), a2, some (.cel n0), some (.cel n1), some (.cel n2), a6, a7, some (.dat (kI j)), some (.dat (.int d2))] (qS S p k3 (vs ++ [keys[t]]) l' r) = .next [some (.cel p), some (.dat (eF keys)), a2, some (.cel n0), some (.cel n1), some (.cel n2), a6, a7, some (.dat (kI j)), some (.dat (.int d2))] (qS S p k4 (vs ++ [keys[t]]) l' r') /\ k4.length = ks.length /\ (∀ i ∈ r', i < j + 1) /\ r'.Nodup /\ r'.length <= j + 1 /\ (∀ i ∈ r, i ∈ r') /\ (d2 ≠ 0 -> j ∈ r') := by
  by_cases c : d2 = 0
  ·refine ⟨k3, r, ?_, by omega, fun i hi => by have := I.br i hi; omega, I.nr, by have := I.lr; omega, fun i hi => hi, fun h => absurd c h⟩
   have ne : ∀ {T : aM}, A0 (.dat (.int d2)) (.dat (.int 0)) T = .ok (.dat (.bl false)) T := fun {T} => by rw [c]; rfl
   simp! [ne]
  ·obtain ⟨d3, k4, q4, d30, d31, l4⟩ := dW (uR (vs := vs ++ [keys[t]]) (l := l') (r := r) (ks := k3) hp (by omega)) (k := (r.length : Int) + 1) (by omega) (by have := I.lr; omega)
   rw [zN hp] at q4;obtain ⟨u, rfl⟩ : ∃ u : Nat, d3 = (u : Int) := ⟨d3.toNat, by omega⟩
   have h1 := fun (kk : List Int) => qS_2 (S := S) (p := p) (ks := kk) (vs := vs ++ [keys[t]]) (l := l') (r := r) e2
   have ins := HD (k := u) (d := kI j) (h1 k4) (by rw [bB]; exact sz (by have := I.lr; omega)) (by have := I.lr; omega)
   rw [<- FW, qS_s2 e2] at ins;have hl4 : cK (.cel n2) (qS S p k3 (vs ++ [keys[t]]) l' r) = .ok (.dat (.int (r.length : Int))) (qS S p k3 (vs ++ [keys[t]]) l' r) := by
    rw [Bu (h1 k3), bB]
   have ne : ∀ {T : aM}, A0 (.dat (.int d2)) (.dat (.int 0)) T = .ok (.dat (.bl true)) T := fun {T} => by
    show Res.ok (Vl.dat (.bl (!decide (d2 = 0)))) T = _
    rw [decide_eq_false c]; rfl
   refine ⟨k4, Cc r u j, ?_, by omega, fun i hi => ?_, Br I.nr fun h => by have := I.br j h; omega, by rw [FX]; have := I.lr; omega, fun i hi => insN_mem.mpr (.inl hi), fun _ => insN_mem.mpr (.inr rfl)⟩
   ·simp! [ne, LY, EM (h1 k3), hl4, q4, EL, ins]
   ·rcases insN_mem.mp hi with hi | rfl
    ·have := I.br i hi; omega
    ·omega
 obtain ⟨k4, r', q4, l4, m1', m2, m3, m4, m5⟩ := right;refine ⟨k4, vs ++ [keys[t]], l', r', ?_, ⟨vl, vn, i1, m1', i2, m2, i3, m3, fun i hi => ?_⟩, l4⟩
 ·unfold hY
  unfold eF at *;have hv := Pf (S := S) (p := p) (ks := ks) (vs := vs) (l := l) (r := r) e0;simp! [hlen, q1, ix, tZ hv, ap, q2, q3, q4]
 ·by_cases c : i = j
  ·subst c
   by_cases c2 : d2 = 1
   ·exact .inr (m5 (by omega))
   ·exact .inl (i5 c2)
  ·rcases I.cov i (by omega) with h | h
   ·exact .inl (i4 i h)
   ·exact .inr (m4 i h)
theorem eq_loop (hp : p < S.length) (hne : keys ≠ []) (hkl : keys.length <= 900) {n0 n1 n2 : Nat} (e0 : n0 = S.length) (e1 : n1 = S.length + 1) (e2 : n2 = S.length + 2) {a2 a6 a7 : Option Vl} : ∀ (m j : Nat) (ks : List Int) (vs : List (Nat × Nat)) (l r : List Nat), 2 <= ks.length -> j + m <= 3 -> QDr keys vs l r j ->
  ∃ (ks' : List Int) (vs' : List (Nat × Nat)) (l' r' : List Nat), loop (.nm 8) hY ((rH j m).map kI) [some (.cel p), some (.dat (eF keys)), a2, some (.cel n0), some (.cel n1), some (.cel n2), a6, a7, none, none] (qS S p ks vs l r) = .next [some (.cel p), some (.dat (eF keys)), a2, some (.cel n0), some (.cel n1), some (.cel n2), a6, a7, none, none] (qS S p ks' vs' l' r') /\ QDr keys vs' l' r' (j + m) /\ ks'.length = ks.length
 | 0, j, ks, vs, l, r, _, _, I => ⟨ks, vs, l, r, rfl, I, rfl⟩
 | m + 1, j, ks, vs, l, r, h2, h3, I => by
  obtain ⟨k1, v1, l1, r1, w, I1, z1⟩ := OL (a2 := a2) (a6 := a6) (a7 := a7) hp h2 hne hkl (by omega) I e0 e1 e2
  obtain ⟨k2, v2, l2, r2, w2, I2, z2⟩ := eq_loop hp hne hkl e0 e1 e2 (a2 := a2) (a6 := a6) (a7 := a7) m (j + 1) k1 v1 l1 r1 (by omega) (by omega) I1
  refine ⟨k2, v2, l2, r2, ?_, by rw [show j + (m + 1) = j + 1 + m by omega]; exact I2, by omega⟩
  rw [List.range'_succ, bG, iQ rfl w];exact w2
theorem Fq (hP : PoolAt S p ks) (ls : LS S) {n most : Nat} (hk : ∀ v ∈ keys, v.1 < n /\ v.2 < 2) (hne : keys ≠ []) (hkl : keys.length <= 900) (h1 : 1 <= most) (h3 : most <= 3) :
  ∃ (q : Eqn) (ks' : List Int), kZ [.cel p, .dat (eF keys), .dat (.int (most : Int))] S = .ok (.dat q.d) (S.set p (PL ks')) /\ QOk q n /\ q.vars.length <= most /\ ks'.length = ks.length := by
 have hp : p < S.length := (aJ.mp hP.1).1;have sp : S = S.set p (PL ks) := by
  obtain ⟨h, e⟩ := aJ.mp hP.1
  show S = S.set p (.lst (ks.map D.int))
  rw [<- e, List.set_getElem_self]
 obtain ⟨d, k1, q1, d0, d1, l1⟩ := dW (uR (S := S) (vs := []) (l := []) (r := []) hp hP.2) (k := 8) (by decide) (by decide)
 rw [zN hp] at q1;obtain ⟨t, rfl⟩ : ∃ t : Nat, d = (t : Int) := ⟨d.toNat, by omega⟩
 have ht : t < rowE.length := by show t < 8; omega
 have kt : rowE[t]? = some rowE[t] := cX ht;have ix : ∀ {T : aM}, cQ (.dat (.lst (rowE.map eZ))) (.dat (.int (t : Int))) T = .ok (.dat (eZ rowE[t])) T := fun {T} => QM (by rw [eN, kt]; rfl)
 obtain ⟨f1, f2, f3, f4⟩ := Mn _ (eD ht);obtain ⟨m, k2, q2, m0, m1, l2⟩ := dW (uR (S := S) (ks := k1) (vs := []) (l := []) (r := []) hp (by have := hP.2; omega)) (k := (most : Int)) (by omega) (by omega)
 rw [zN hp] at q2;obtain ⟨u, rfl⟩ : ∃ u : Nat, m = (u : Int) := ⟨m.toNat, by omega⟩
 obtain ⟨k3, vs, l, r, e, I, l3⟩ := eq_loop (S := S) (p := p) (keys := keys) hp hne hkl (n0 := S.length) (n1 := S.length + 1) (n2 := S.length + 2) rfl rfl rfl (a2 := some (.dat (.int (most : Int)))) (a6 := some (.dat (.lst (rowE.map eZ)))) (a7 := some (.dat (eZ rowE[t]))) (u + 1) 0 k2 [] [] [] (by have := hP.2; omega) (by omega) ⟨fun v h => (nomatch h), rfl, fun v h => (nomatch h), fun v h => (nomatch h), List.nodup_nil, List.nodup_nil, bR _, bR _, fun i h => by omega⟩
 rw [mL] at I;have rg : ∀ {T : aM}, tX (.dat (.int (1 + (u : Int)))) T = .ok ((rH 0 (u + 1)).map kI) T := fun {T} => by
  rw [iV (by omega) (by omega), show (1 + (u : Int)).toNat = u + 1 by omega, BU, List.range_eq_range']
 refine ⟨⟨vs, l, r, rowE[t]⟩, k3, ?_, ?_, by show vs.length <= most; have := I.lv; omega, by omega⟩
 ·have s0 : S ++ [Cell.lst [], .lst [], .lst []] = qS S p ks [] [] [] := by
   unfold qS;rw [<- sp];rfl
  have nil3 : (S ++ [Cell.lst []]) ++ [Cell.lst []] ++ [Cell.lst []] = qS S p ks [] [] [] := by rw [<- s0]; simp
  have fz0 : J5 (.cel S.length) (qS S p k3 vs l r) = .ok (.dat (.lst (vs.map A8))) (S.set p (PL k3) ++ [.dead, .lst (l.map kI), .lst (r.map kI)]) := by
   rw [zU (Pf rfl)];unfold qS;rw [eA _ _ (by rw [aS]; omega), aS, pY]; rfl
  have fz1 : J5 (.cel (S.length + 1)) (S.set p (PL k3) ++ [.dead, .lst (l.map kI), .lst (r.map kI)]) = .ok (.dat (eZ l)) (S.set p (PL k3) ++ [.dead, .dead, .lst (r.map kI)]) := by
   rw [zU (ds := l.map kI) (by rw [bE (by rw [aS]; omega), aS, show S.length + 1 - S.length = 1 by omega]; rfl)]
   rw [eA _ _ (by rw [aS]; omega), aS, show S.length + 1 - S.length = 1 by omega]; rfl
  have fz2 : J5 (.cel (S.length + 2)) (S.set p (PL k3) ++ [.dead, .dead, .lst (r.map kI)]) = .ok (.dat (eZ r)) (S.set p (PL k3) ++ [.dead, .dead, .dead]) := by
   rw [zU (ds := r.map kI) (by rw [bE (by rw [aS]; omega), aS, show S.length + 2 - S.length = 2 by omega]; rfl)]
   rw [eA _ _ (by rw [aS]; omega), aS, show S.length + 2 - S.length = 2 by omega]; rfl
  have lr : ∀ {ρ : Ev} {T : aM}, (bK false (aB (bK false (aB (mC (.int 0)) aI)) (aB (bK false (aB (mC (.int 1)) aI)) (aB (bK false (aB (mC (.int 2)) aI)) (aB (bK false (aB (mC (.int 0)) (aB (mC (.int 1)) aI))) (aB (bK false (aB (mC (.int 0)) (aB (mC (.int 2)) aI))) (aB (bK false (aB (mC (.int 1)) (aB (mC (.int 2)) aI))) (aB (bK false (aB (mC (.int 0)) (aB (mC (.int 1)) (aB (mC (.int 2)) aI)))) (aB (bK false (aB (mC (.int 0)) (aB (mC (.int 1)) (aB (mC (.int 2)) aI)))) aI))))))))) ρ T = .ok (.dat (.lst (rowE.map eZ))) T := fun {ρ T} => rfl
  have ne : ∀ {ρ : Ev} {T : aM}, bK true aI ρ T = .ok (.cel T.length) (T ++ [.lst []]) := fun {ρ T} => rfl
  have la : (S ++ [Cell.lst []]).length = S.length + 1 := by simp
  have lb : ((S ++ [Cell.lst []]) ++ [Cell.lst []]).length = S.length + 2 := by simp
  rw [Eg]; unfold nZ;simp! [ne, la, lb, nil3, lr, q1, ix, q2, rg, e, fz0, fz1, fz2]
  show trunc S.length (.ok (.dat (Eqn.d ⟨vs, l, r, rowE[t]⟩)) (S.set p (PL k3) ++ [.dead, .dead, .dead])) = _
  exact IY ls.set.all (by rw [aS])
 ·exact { v := fun v hv => hk v (I.v v hv), l1 := by show 1 <= vs.length; have := I.lv; omega, l3 := by show vs.length <= 3; have := I.lv; omega, f := ⟨fun i hi => by have := I.bl i hi; have := I.lv; show i < vs.length; omega, fun i hi => by have := I.br i hi; have := I.lv; show i < vs.length; omega, by have := I.ll; show l.length <= 4; omega, by have := I.lr; show r.length <= 4; omega, f1⟩, nl := I.nl, nr := I.nr, cov := fun k hk => I.cov k (by have := I.lv; have hk : k < vs.length := hk; omega), pn := f2, asc := f3 }
end
def T2 (x y : Nat) : Nat -> Nat := fun g => if g = 0 then x else y
theorem qZ (n : Nat) : ∀ {S : aM} {d : PH.D}, d.Pl -> d.ht < n -> cF n [.dat d] S = .ok (.dat d) S := by
 induction n with
 | zero => intro S d _ h; omega
 | succ n ih =>
  intro S d hp hd;rw [HV];unfold sD;cases d with
  | non => simp! [if_true]; rfl
  | bl b => simp! [if_true]; rfl
  | int i => simp! [if_true]; rfl
  | str x => simp! [if_true]; rfl
  | ins _ _ _ => exact hp.elim
  | dct => exact hp.elim
  | opq _ => exact hp.elim
  | lst xs =>
   have hl := hp.1;have lc : CL false (.nm 1) gK (aO (cF n) (aB (aC 1) aI)) [some (.dat (.lst xs)), none] [1] xs S = .ok (.dat (.lst xs)) S := by
    have := gN (cl := false) (t := .nm 1) (e := aO (cF n) (aB (aC 1) aI)) (ρ := [some (.dat (.lst xs)), none]) (S := S) (f := fun x : PH.D => x) (g := fun x : PH.D => x) (xs := xs) (vs := [1]) (sz hl) fun x hx => ⟨_, rfl, by
     have hd' : PH.D.hts xs + 1 < n + 1 := hd;have h1 := wC hx;have e := ih (S := S) (wA hp.2 hx) (by omega)
     show (aO (cF n) (aB (aC 1) aI)) [some (.dat (.lst xs)), some (.dat x)] S = _
     simp! [e]⟩
    rw [Ak] at this;exact this
   simp! [NY, lc];rfl
  | tup xs =>
   have hl := hp.1;have lc : CL false (.nm 1) gK (aO (cF n) (aB (aC 1) aI)) [some (.dat (.tup xs)), none] [1] xs S = .ok (.dat (.lst xs)) S := by
    have := gN (cl := false) (t := .nm 1) (e := aO (cF n) (aB (aC 1) aI)) (ρ := [some (.dat (.tup xs)), none]) (S := S) (f := fun x : PH.D => x) (g := fun x : PH.D => x) (xs := xs) (vs := [1]) (sz hl) fun x hx => ⟨_, rfl, by
     have hd' : PH.D.hts xs + 1 < n + 1 := hd;have h1 := wC hx;have e := ih (S := S) (wA hp.2 hx) (by omega)
     show (aO (cF n) (aB (aC 1) aI)) [some (.dat (.tup xs)), some (.dat x)] S = _
     simp! [e]⟩
    rw [Ak] at this;exact this
   simp! [NY, lc];rfl
def T3 (x y z : Nat) : Nat -> Nat := fun g => if g = 0 then x else if g = 1 then y else z
def wK (d e : PH.D) : Bool := match D.py d, D.py e with
 | some p, some q => PyData.eqv p q
 | _, _ => false
section
variable {S : aM} {d e : PH.D}
theorem Hl {x : PH.D} {p : PyData} (hp : D.py x = some p) : ∀ {xs : List PH.D} {qs : List PyData}, D.pys xs = some qs -> (qs.any fun z => PyData.eqv z p) = xs.any fun z => wK z x
 | [], qs, h => by
  cases h;rfl
 | y :: ys, qs, h => by
  rw [D.pys] at h;cases a : D.py y with
  | none => rw [a] at h; cases h
  | some q =>
   rw [a] at h;cases b : D.pys ys with
   | none => rw [b] at h; cases h
   | some rs =>
    rw [b] at h;cases h;rw [GE, GE, Hl hp b]
    congr 1
    unfold wK;rw [a, hp]
theorem Jb {neg : Bool} {x : PH.D} {xs : List PH.D} (h1 : x.Pl) (h2 : x.ht <= 64) (k1 : (PH.D.lst xs).Pl) (k2 : (PH.D.lst xs).ht <= 64) : Cd neg (.dat x) (.dat (.lst xs)) S = .ok (.dat (.bl (if neg then !(xs.any fun z => wK z x) else (xs.any fun z => wK z x)))) S := by
 obtain ⟨p, p1, _, _⟩ := KO x h1;obtain ⟨qs, q1, _, _⟩ := E8 xs k1.2;have q2 : D.py (.lst xs) = some (.list qs) := by simp only [D.py, q1]
 have sh := KA h1 h2 p1 k1 k2 q2
 show (match D.py x, D.py (.lst xs) with
  | some p, some (.list qs) => if Md p (.list qs) = true then Res.ok (Vl.dat (.bl (if neg then !(qs.any fun z => PyData.eqv z p) else (qs.any fun z => PyData.eqv z p)))) S else .stuck
  | _, _ => .stuck) = _
 rw [p1, q2];dsimp only;rw [if_pos sh, Hl p1 q1]
end
def QG (md : FD) (ds : List Vl) (S : aM) : Res Vl := noE (md ds S)
theorem nU {md : FD} {as : FA} {ρ : Ev} {S : aM} : zQ md as ρ S = (as ρ S).bind (QG md) := rfl
theorem pM {md : FD} {ds : List Vl} {S S' : aM} {d : Vl} (h : md ds S = .ok d S') : QG md ds S = .ok d S' := by unfold QG; rw [h]; rfl
def J0 (x : String) : Er := ⟨"NoEquation", ["place"], [.str (Str.ofString x)]⟩
section
variable {S : aM} {n : Nat} {q : Eqn} {bs : List (List Stt)}
theorem check_okN (hb : bs.length <= 10) (Q : QOk q bs.length) : cL [.dat (cC bs), .dat q.d] S = .ok (.dat .non) S := by
 have el := Ki (S := S) (bs := bs) (by omega)
 have v := pM (MS (S := S) Q.v Q.l1 Q.l3);have s1 := pM (DD (S := S) Q.f.l Q.nl (by have := Q.f.ll; omega))
 have s2 := pM (DD (S := S) Q.f.r Q.nr (by have := Q.f.lr; omega))
 have p := pM (KQ (S := S) Q.f.p Q.asc Q.pn);have hl : cK (.dat (eF q.vars)) S = .ok (.dat (.int (q.vars.length : Int))) S := by
  show Res.ok (Vl.dat (.int ((q.vars.map A8).length : Int))) S = _
  rw [bB]
 have l3 := Q.l3;have kr : tX (.dat (.int (q.vars.length : Int))) S = .ok ((bV q.vars.length).map kI) S := by
  rw [iV (by omega) (by omega), cZ, BU]
 have lc : CL false (.nm 6) gK dM [some (.dat (cC bs)), some (.dat q.d), some (.dat (eF q.vars)), some (.dat (eZ q.left)), some (.dat (eZ q.right)), some (.dat (eZ q.parts)), none] [6] ((bV q.vars.length).map kI) S = .ok (.dat (.lst ((bV q.vars.length).map fun _ => PH.D.bl true))) S := by
  rw [gN (g := fun _ : Nat => PH.D.bl true) (sz (by rw [Am]; omega)) fun k hk => ⟨_, rfl, by
   have c := Q.cov k (wX.mp hk);have f1 := Gz (S := S) (neg := false) (s := q.left) (k := k) (by have := Q.f.ll; omega)
   have f2 := Gz (S := S) (neg := false) (s := q.right) (k := k) (by have := Q.f.lr; omega)
   have f1' : Cd false (.dat (kI k)) (.dat (eZ q.left)) S = .ok (.dat (.bl (decide (k ∈ q.left)))) S := f1;have f2' : Cd false (.dat (kI k)) (.dat (eZ q.right)) S = .ok (.dat (.bl (decide (k ∈ q.right)))) S := f2;unfold dM
   by_cases hc : k ∈ q.left
   ·rw [decide_eq_true hc] at f1'
    simp! [f1']
    try rfl
   ·rw [decide_eq_false hc] at f1'
    rw [decide_eq_true (c.resolve_left hc)] at f2';simp! [f1', f2']
    try rfl⟩]
  rfl
 have al := all_true (S := S) (bV q.vars.length);have k4 : ∀ {ρ : Ev}, Gv (.tp [2, 3, 4, 5]) ρ (.dat q.d) S = .next ((((ρ.set 2 (some (.dat (eF q.vars)))).set 3 (some (.dat (eZ q.left)))).set 4 (some (.dat (eZ q.right)))).set 5 (some (.dat (eZ q.parts)))) S := fun {ρ} => rfl
 have l4 : cK (.dat q.d) S = .ok (.dat (.int 4)) S := rfl;rw [jZ]; unfold dZ;have hq : q.d = .tup [eF q.vars, eZ q.left, eZ q.right, eZ q.parts] := rfl;rw [hq] at k4 l4 lc ⊢;simp! [nU, l4, k4, el, v, hl, s1, s2, kr, lc, al, p];rfl
theorem oM {x : String} {ρ : Ev} : dR "NoEquation" ["place"] (aB (mC (.str (Str.ofString x))) aI) ρ S = .err (J0 x) ρ S := rfl
theorem J4 {cs : List Str} {c : Str} {mr : FS} {ρ : Ev} : Kl cs c mr (.next ρ S) = .next ρ S := rfl
def pJ (i : Int) : Er := ⟨"NoEquations", ["index"], [.int i]⟩
theorem Im {i : Int} {ρ : Ev} (h : lk ρ 2 = some (.dat (.int i))) : dR "NoEquations" ["index"] (aB (aC 2) aI) ρ S = .err (pJ i) ρ S := by
 unfold dR;simp! [h];rfl
end
section
variable {R : aM} {ks : List Int} {n : Nat} {v0 v3 v4 v5 v8 v9 v10 v11 v12 v13 v14 : Option Vl}
theorem Fu {X : aM} {k : Int} (h2 : 2 <= ks.length) (h1 : 0 < k) (hk : k <= 1000) : ∃ (d : Nat) (ks' : List Int), bA [.cel 0, .dat (.int k)] (PL ks :: X) = .ok (.dat (.int (d : Int))) (PL ks' :: X) /\ (d : Int) < k /\ ks'.length = ks.length := by
 obtain ⟨d, k1, e1, d0, d1, l1⟩ := dW (S := PL ks :: X) (p := 0) (ks := ks) ⟨rfl, h2⟩ (k := k) h1 (by omega)
 rw [bH] at e1;refine ⟨d.toNat, k1, ?_, by omega, l1⟩
 rw [e1, Int.toNat_of_nonneg d0]
end
theorem OW {bs : List (List Stt)} (G : Good2 bs) : (PH.D.lst (bls bs)).Pl /\ (PH.D.lst (bls bs)).ht <= 12 := by
 have h3 := G.l3;refine zR (k := 11) (by rw [yG]; omega) fun d hd => ?_
 unfold bls at hd;obtain ⟨b, hb, rfl⟩ := dH.mp hd;obtain ⟨h1, h2⟩ := iK b 3 (G.ok b hb);have hl := (G.gd b hb).2.1;exact ⟨⟨by rw [dF]; omega, h1⟩, by show PH.D.hts (cD b) + 1 <= 11; omega⟩
theorem GW {j : Int} {m : Nat} : jH j (m + 1) = .int j :: jH (j + 1) m := by
 unfold jH;rw [HX, bG, Ai]
 show PH.D.int (j + (0 : Nat)) :: _ = _
 congr 1
 ·congr 1; omega
 ·refine kA fun k _ => ?_
  show PH.D.int (j + ((k + 1 : Nat) : Int)) = PH.D.int (j + 1 + (k : Int))
  congr 1; omega
section
variable {ks : List Int} {n : Nat} {v0 v5 v6 v7 v8 v9 v10 v11 v12 v13 v14 : Option Vl}
def Js : Option Nat -> PH.D
 | none => .non
 | some j => .int (j : Int)
end
def sC (k : List Int) (ds : List PH.D) : aM := [PL k, .lst ds]
def iH (d : PH.D) (b : Int) : Bool := match d with
 | .int i => decide (0 <= i) && decide (i < b)
 | _ => false
section
variable {S : aM}
theorem sG {d : PH.D} (h : d.Pl) {b : Int} : kM [.dat d, .dat (.int b)] S = .ok (.dat (.bl (iH d b))) S := by
 rw [GB];unfold pU;cases d with
 | int i =>
  by_cases h0 : 0 <= i
  ·have e : iH (.int i) b = decide (i < b) := by
    show (decide (0 <= i) && decide (i < b)) = _
    rw [decide_eq_true h0]; rfl
   rw [e];simp! [decide_eq_true h0];rfl
  ·have e : iH (.int i) b = false := by
    show (decide (0 <= i) && decide (i < b)) = _
    rw [decide_eq_false h0]; rfl
   rw [e];simp! [decide_eq_false h0];rfl
 | ins c ns xs => exact h.elim
 | dct => exact h.elim
 | opq _ => exact h.elim
 | _ => rfl
def fD (b : Int) : List PH.D -> List PH.D -> Bool
 | _, [] => true
 | seen, x :: r => if iH x b = true /\ (seen.any fun z => wK z x) = false then fD b (seen ++ [x]) r else false
def oP (d : PH.D) (b : Int) : Bool := match d with
 | .lst xs => fD b [] xs
 | _ => false
theorem pH {xs : List PH.D} (h : PH.D.Pls xs) : ∀ x ∈ xs, x.Pl := by
 induction xs with
 | nil => intro x hx; cases hx
 | cons y r ih =>
  intro x hx;rcases bN.mp hx with rfl | hx
  ·exact h.1
  ·exact ih h.2 x hx
theorem nS {xs : List PH.D} {k : Nat} (h : PH.D.hts xs <= k) : ∀ x ∈ xs, x.ht <= k := by
 induction xs with
 | nil => intro x hx; cases hx
 | cons y r ih =>
  intro x hx;rw [PH.D.hts] at h;have := Nat.max_le.mp h;rcases bN.mp hx with rfl | hx
  ·exact this.1
  ·exact ih this.2 x hx
theorem AJ {b : Int} {xs : List PH.D} (hp : (PH.D.lst xs).Pl) (hh : (PH.D.lst xs).ht <= 64) : ∀ (seen rest : List PH.D), seen ++ rest = xs ->
  loop (.nm 2) jF (jH (seen.length : Int) rest.length) [some (.dat (.lst xs)), some (.dat (.int b)), none] S = if fD b seen rest = true then .next [some (.dat (.lst xs)), some (.dat (.int b)), none] S else .ret (.dat (.bl false)) S
 | seen, [], _ => by rw [if_pos (show fD b seen [] = true from rfl)]; rfl
 | seen, x :: r, e => by
  have hx : x ∈ xs := by rw [<- e]; simp
  have px := pH hp.2 x hx;have hh' : PH.D.hts xs <= 63 := by
   have : PH.D.hts xs + 1 <= 64 := hh;omega
  have hhx := nS hh' x hx;have hix : atI xs (seen.length : Int) = some x := by
   rw [fR (n := seen.length) rfl, <- e];simp
  have tk : xs.take seen.length = seen := by rw [<- e]; simp
  have ps : (PH.D.lst seen).Pl := ⟨by have := hp.1; rw [<- e, bO] at this; omega, BW fun d hd => pH hp.2 d (by rw [<- e]; simp [hd])⟩
  have hs : (PH.D.lst seen).ht <= 64 := by
   have := AN (ds := seen) (k := 63) fun d hd => nS hh' d (by rw [<- e]; simp [hd])
   show PH.D.hts seen + 1 <= 64
   omega
  have io := sG (S := S) px (b := b);have inn := Jb (S := S) (neg := false) px (by omega) ps hs
  have ih := AJ (b := b) hp hh (seen ++ [x]) r (by rw [<- e]; simp)
  have el : (((seen ++ [x]).length : Nat) : Int) = (seen.length : Int) + 1 := by simp
  rw [el] at ih;rw [aW, F8, loop];simp only [sJ, bM, bH];rw [jF]
  by_cases h1 : iH x b = true
  ·rw [h1] at io
   by_cases h2 : (seen.any fun z => wK z x) = false
   ·simp only [h2, lL, if_false] at inn
    simp! [uA hix, io, Fw, tk, inn];rw [<- jF, ih];rw [show fD b seen (x :: r) = fD b (seen ++ [x]) r by rw [fD, if_pos ⟨h1, h2⟩]]
   ·have h2' : (seen.any fun z => wK z x) = true := by simpa using h2
    simp only [h2', lL, if_false] at inn;simp! [uA hix, io, Fw, tk, inn];rw [show fD b seen (x :: r) = false by rw [fD, if_neg (fun z => h2 z.2)]]
    rfl
  ·have h1' : iH x b = false := by simpa using h1
   rw [h1'] at io;simp! [uA hix, io];rw [show fD b seen (x :: r) = false by rw [fD, if_neg (fun z => h1 z.1)]]
   rfl
theorem A4 {d : PH.D} (hp : d.Pl) (hh : d.ht <= 64) {b : Int} : kL [.dat d, .dat (.int b)] S = .ok (.dat (.bl (oP d b))) S := by
 rw [GA];unfold pT;cases d with
 | lst xs =>
  have lp := AJ (S := S) (b := b) hp hh [] xs rfl;rw [cV, hM] at lp;have hl := hp.1;have i : ∀ S, fIsi "list" (.dat (.lst xs)) S = .ok (.dat (.bl true)) S := fun _ => rfl
  simp! [i, iV (show -(2 ^ 62) <= (xs.length : Int) by omega) (show (xs.length : Int) < 2 ^ 62 by omega), cZ, lp]
  by_cases h : fD b [] xs = true
  ·have e : oP (.lst xs) b = true := h
   rw [e];simp only [h, if_true];rfl
  ·have e : oP (.lst xs) b = false := by
    show fD b [] xs = false
    simpa using h
   rw [e];simp only [h, if_false];rfl
 | ins c ns xs => exact hp.elim
 | dct => exact hp.elim
 | opq _ => exact hp.elim
 | _ => rfl
end
section
variable {S : aM}
theorem wZ {d : PH.D} (h : d.Pl) {b : Int} : jI [.dat d, .dat (.int b)] S = .ok (.dat (.bl (iH d b))) S := by
 rw [G9];unfold uN;have w : xM [.dat d] S = .ok (.dat (.bl (match d with | .int _ => true | _ => false))) S := by
  rw [IS];unfold yH;cases d with
  | ins c ns xs => exact h.elim
  | dct => exact h.elim
  | opq _ => exact h.elim
  | _ => rfl
 cases d with
 | int i =>
  by_cases h0 : 0 <= i
  ·have e : iH (.int i) b = decide (i < b) := by
    show (decide (0 <= i) && decide (i < b)) = _
    rw [decide_eq_true h0]; rfl
   rw [e];simp! [w, jD, decide_eq_true h0];rfl
  ·have e : iH (.int i) b = false := by
    show (decide (0 <= i) && decide (i < b)) = _
    rw [decide_eq_false h0]; rfl
   rw [e];simp! [w, jD, decide_eq_false h0];rfl
 | ins c ns xs => exact h.elim
 | dct => exact h.elim
 | opq _ => exact h.elim
 | _ => simp! [w]; rfl
theorem vM {b : Int} {xs : List PH.D} (hp : (PH.D.lst xs).Pl) (hh : (PH.D.lst xs).ht <= 64) : ∀ (seen rest : List PH.D), seen ++ rest = xs ->
  loop (.tp [2, 3]) hX (cJ seen.length rest) [some (.dat (.lst xs)), some (.dat (.int b)), none, none] S = if fD b seen rest = true then .next [some (.dat (.lst xs)), some (.dat (.int b)), none, none] S else .ret (.dat (.bl false)) S
 | seen, [], _ => by rw [if_pos (show fD b seen [] = true from rfl)]; rfl
 | seen, x :: r, e => by
  have hx : x ∈ xs := by rw [<- e]; simp
  have px := pH hp.2 x hx;have hh' : PH.D.hts xs <= 63 := by
   have : PH.D.hts xs + 1 <= 64 := hh;omega
  have hhx := nS hh' x hx;have tk : xs.take seen.length = seen := by rw [<- e]; simp
  have ps : (PH.D.lst seen).Pl := ⟨by have := hp.1; rw [<- e, bO] at this; omega, BW fun d hd => pH hp.2 d (by rw [<- e]; simp [hd])⟩
  have hs : (PH.D.lst seen).ht <= 64 := by
   have := AN (ds := seen) (k := 63) fun d hd => nS hh' d (by rw [<- e]; simp [hd])
   show PH.D.hts seen + 1 <= 64
   omega
  have io := wZ (S := S) px (b := b);have inn := Jb (S := S) (neg := false) px (by omega) ps hs
  have ih := vM (b := b) hp hh (seen ++ [x]) r (by rw [<- e]; simp)
  have el : (seen ++ [x]).length = seen.length + 1 := by simp
  rw [el] at ih;rw [cJ, loop];simp only [sJ, pG, aW, cV, if_true, bM, bH];rw [hX]
  by_cases h1 : iH x b = true
  ·rw [h1] at io
   by_cases h2 : (seen.any fun z => wK z x) = false
   ·simp only [h2, lL, if_false] at inn
    simp! [io, Fw, tk, inn];rw [<- hX, ih];rw [show fD b seen (x :: r) = fD b (seen ++ [x]) r by rw [fD, if_pos ⟨h1, h2⟩]]
   ·have h2' : (seen.any fun z => wK z x) = true := by simpa using h2
    simp only [h2', lL, if_false] at inn;simp! [io, Fw, tk, inn];rw [show fD b seen (x :: r) = false by rw [fD, if_neg (fun z => h2 z.2)]]
    rfl
  ·have h1' : iH x b = false := by simpa using h1
   rw [h1'] at io;simp! [io];rw [show fD b seen (x :: r) = false by rw [fD, if_neg (fun z => h1 z.1)]]
   rfl
theorem Ex {d : PH.D} (hp : d.Pl) (hh : d.ht <= 64) {b : Int} : oF [.dat d, .dat (.int b)] S = .ok (.dat (.bl (oP d b))) S := by
 rw [De];unfold rC;cases d with
 | lst xs =>
  have lp := vM (S := S) (b := b) hp hh [] xs rfl;rw [cV] at lp;have i : ∀ S, fIsi "list" (.dat (.lst xs)) S = .ok (.dat (.bl true)) S := fun _ => rfl
  simp! [i, lp]
  by_cases h : fD b [] xs = true
  ·have e : oP (.lst xs) b = true := h
   rw [e];simp only [h, if_true];rfl
  ·have e : oP (.lst xs) b = false := by
    show fD b [] xs = false
    simpa using h
   rw [e];simp only [h, if_false];rfl
 | ins c ns xs => exact hp.elim
 | dct => exact hp.elim
 | opq _ => exact hp.elim
 | _ => rfl
def mO (d : PH.D) (n : Int) : Bool := match d with
 | .tup [a, b] => iH a n && iH b 2
 | _ => false
theorem GL {d : PH.D} (hp : d.Pl) {n : Int} : eT [.dat d, .dat (.int n)] S = .ok (.dat (.bl (mO d n))) S := by
 rw [vV];unfold jO;cases d with
 | tup xs =>
  have i : ∀ S, fIsi "tuple" (.dat (.tup xs)) S = .ok (.dat (.bl true)) S := fun _ => rfl
  have hl : ∀ S, cK (.dat (.tup xs)) S = .ok (.dat (.int (xs.length : Int))) S := fun _ => rfl
  match xs, hp with
  | [], _ => rfl
  | [a], _ => rfl
  | [a, b], hp =>
   have w1 := wZ (S := S) hp.2.1 (b := n);have w2 := wZ (S := S) hp.2.2.1 (b := 2);have e : mO (.tup [a, b]) n = (iH a n && iH b 2) := rfl;rw [e];have i0 : ∀ S, cQ (.dat (.tup [a, b])) (.dat (.int 0)) S = .ok (.dat a) S := fun _ => rfl
   have i1 : ∀ S, cQ (.dat (.tup [a, b])) (.dat (.int 1)) S = .ok (.dat b) S := fun _ => rfl
   have h2 : ∀ S, cK (.dat (.tup [a, b])) S = .ok (.dat (.int 2)) S := fun _ => rfl
   have ii : ∀ S, fIsi "tuple" (.dat (.tup [a, b])) S = .ok (.dat (.bl true)) S := fun _ => rfl
   cases q : iH a n with
   | true => rw [q] at w1; simp! [ii, h2, i0, i1, w1, w2]; rfl
   | false => rw [q] at w1; simp! [ii, h2, i0, i1, w1]; rfl
  | a :: b :: c :: r, _ =>
   have ne : ∀ S, A0 (.dat (.int (((a :: b :: c :: r).length : Nat) : Int))) (.dat (.int 2)) S = .ok (.dat (.bl true)) S := fun S => by
    show Res.ok (Vl.dat (.bl (!decide ((((a :: b :: c :: r).length : Nat) : Int) = 2)))) S = _
    rw [decide_eq_false (by simp only [aW]; omega)]
    rfl
   have h2 : ∀ S, cK (.dat (.tup (a :: b :: c :: r))) S = .ok (.dat (.int (((a :: b :: c :: r).length : Nat) : Int))) S := fun _ => rfl
   have ii : ∀ S, fIsi "tuple" (.dat (.tup (a :: b :: c :: r))) S = .ok (.dat (.bl true)) S := fun _ => rfl
   obtain ⟨z, hz⟩ : ∃ z : Int, z = (((a :: b :: c :: r).length : Nat) : Int) := ⟨_, rfl⟩;rw [<- hz] at ne h2;have nz : ¬ z = 2 := by rw [hz]; simp only [aW]; omega
   simp! [ii, h2, decide_eq_false nz];rfl
 | ins c ns xs => exact hp.elim
 | dct => exact hp.elim
 | opq _ => exact hp.elim
 | _ => rfl
end
section
variable {S : aM}
def fF : Int -> List PH.D -> Bool
 | _, [] => true
 | l, .int i :: r => if (0 <= i /\ i < 3) /\ l <= i then fF (i + 1) r else false
 | _, _ :: _ => false
def nN (d : PH.D) : Bool := match d with
 | .lst [] => false
 | .lst (x :: r) => fF 0 (x :: r)
 | _ => false
theorem xI {a0 : Option Vl} : ∀ (rest : List PH.D) (l : Int), PH.D.Pls rest -> -10 <= l -> l <= 10 ->
  ∃ l', loop (.nm 2) eS rest [a0, some (.dat (.int l)), none] S = if fF l rest = true then .next [a0, some (.dat (.int l')), none] S else .ret (.dat (.bl false)) S
 | [], l, _, _, _ => ⟨l, by rw [if_pos (show fF l [] = true from rfl)]; rfl⟩
 | x :: r, l, hp, h1, h2 => by
  have w := wZ (S := S) hp.1 (b := 3);cases q : iH x 3 with
  | false =>
   refine ⟨0, ?_⟩
   have e : fF l (x :: r) = false := by
    cases x with
    | int i =>
     have q' : (decide (0 <= i) && decide (i < 3)) = false := q;rw [fF, if_neg];intro z;rw [decide_eq_true z.1.1, decide_eq_true z.1.2] at q';cases q'
    | _ => rfl
   rw [q] at w;rw [e, loop];simp only [sJ, bM, bH];rw [eS];simp! [w]
  | true =>
   cases x with
   | int i =>
    have q' : (decide (0 <= i) && decide (i < 3)) = true := q;rw [fJ, decide_eq_true_eq, decide_eq_true_eq] at q';rw [q] at w
    by_cases hl : i < l
    ·refine ⟨0, ?_⟩
     have e : fF l (.int i :: r) = false := by
      rw [fF, if_neg];intro z;omega
     rw [e, loop];simp only [sJ, bM, bH];rw [eS];simp! [w, decide_eq_true hl]
    ·obtain ⟨l', ih⟩ := xI (a0 := a0) r (i + 1) hp.2 (by omega) (by omega)
     refine ⟨l', ?_⟩
     have e : fF l (.int i :: r) = fF (i + 1) r := by
      rw [fF, if_pos ⟨q', by omega⟩]
     rw [e, <- ih, loop];simp only [sJ, bM, bH];rw [eS];simp! [w, decide_eq_false hl]
   | _ => cases q
theorem Mu {d : PH.D} (hp : d.Pl) : mT [.dat d] S = .ok (.dat (.bl (nN d))) S := by
 rw [AZ];unfold mY;cases d with
 | lst xs =>
  cases xs with
  | nil => rfl
  | cons x r =>
   obtain ⟨l', lp⟩ := xI (S := S) (a0 := some (.dat (.lst (x :: r)))) (x :: r) 0 hp.2 (by decide) (by decide)
   have i : ∀ S, fIsi "list" (.dat (.lst (x :: r))) S = .ok (.dat (.bl true)) S := fun _ => rfl
   have it : ∀ S, itemsOf (.dat (.lst (x :: r))) S = .ok (x :: r) S := fun _ => rfl
   have tt : ∀ ρ : Ev, lk ρ 0 = some (.dat (.lst (x :: r))) -> bY (aC 0) ρ S = .ok true S := fun ρ h => by
    unfold bY;simp! [h];rfl
   have t0 := tt [some (.dat (.lst (x :: r))), none, none] rfl;have e : nN (.lst (x :: r)) = fF 0 (x :: r) := rfl;rw [e]
   by_cases h : fF 0 (x :: r) = true
   ·rw [if_pos h] at lp
    rw [h];simp! [i, t0, it, lp];rfl
   ·rw [if_neg h] at lp
    rw [show fF 0 (x :: r) = false by simpa using h]
    simp! [i, t0, it, lp];rfl
 | ins c ns xs => exact hp.elim
 | dct => exact hp.elim
 | opq _ => exact hp.elim
 | _ => rfl
def tE (d : PH.D) (n : Int) : Bool := match d with
 | .lst xs => decide (1 <= xs.length) && decide (xs.length <= 3) && xs.all fun x => mO x n
 | _ => false
theorem MK {α : Type} (f : α -> Bool) (xs : List α) : wJ (.dat (.lst (xs.map fun x => PH.D.bl (f x)))) S = .ok (.dat (.bl (xs.all f))) S := by
 have : ∀ xs : List α, yP (xs.map fun x => PH.D.bl (f x)) = some (xs.map f) := fun xs => by
  induction xs with
  | nil => rfl
  | cons x r ih => simp only [bG, yP, ih]
 simp only [wJ, hG, this]
 congr 3
 simp
theorem PX {d : PH.D} (hp : d.Pl) {n : Int} : gW [.dat d, .dat (.int n), .dat (.int 3)] S = .ok (.dat (.bl (tE d n))) S := by
 rw [sU];unfold gZ;cases d with
 | lst xs =>
  have i : ∀ S, fIsi "list" (.dat (.lst xs)) S = .ok (.dat (.bl true)) S := fun _ => rfl
  have it : ∀ S, itemsOf (.dat (.lst xs)) S = .ok xs S := fun _ => rfl
  have hl : ∀ S, cK (.dat (.lst xs)) S = .ok (.dat (.int (xs.length : Int))) S := fun _ => rfl
  have lc : CL false (.nm 3) gK (aO eT (aB (aC 3) (aB (aC 1) aI))) [some (.dat (.lst xs)), some (.dat (.int n)), some (.dat (.int 3)), none] [3] xs S = .ok (.dat (.lst (xs.map fun x => PH.D.bl (mO x n)))) S := by
   have k := gN (cl := false) (t := .nm 3) (e := aO eT (aB (aC 3) (aB (aC 1) aI))) (ρ := [some (.dat (.lst xs)), some (.dat (.int n)), some (.dat (.int 3)), none]) (S := S) (f := id) (g := fun x => PH.D.bl (mO x n)) (xs := xs) (vs := [3]) (sz (by have := hp.1; omega)) fun x hx => ⟨_, rfl, by
    have := GL (S := S) (pH hp.2 x hx) (n := n);simp! [this, id]⟩
   rw [List.map_id] at k;rw [k];rfl
  have al := MK (S := S) (fun x => mO x n) xs
  by_cases h1 : (1 : Int) <= (xs.length : Int)
  ·by_cases h3 : (xs.length : Int) <= 3
   ·have e : tE (.lst xs) n = xs.all fun x => mO x n := by
     show (decide (1 <= xs.length) && decide (xs.length <= 3) && xs.all fun x => mO x n) = _
     rw [decide_eq_true (by omega), decide_eq_true (by omega)]
     rfl
    rw [e];simp! [i, hl, jD, decide_eq_true h1, decide_eq_true h3, it, lc, al];rfl
   ·have e : tE (.lst xs) n = false := by
     show (decide (1 <= xs.length) && decide (xs.length <= 3) && xs.all fun x => mO x n) = _
     rw [decide_eq_false (show ¬ xs.length <= 3 by omega), wW]
     rfl
    rw [e];simp! [i, hl, jD, decide_eq_true h1, decide_eq_false h3];rfl
  ·have e : tE (.lst xs) n = false := by
    show (decide (1 <= xs.length) && decide (xs.length <= 3) && xs.all fun x => mO x n) = _
    rw [decide_eq_false (show ¬ 1 <= xs.length by omega)]
    rfl
   rw [e];simp! [i, hl, jD, decide_eq_false h1];rfl
 | ins c ns xs => exact hp.elim
 | dct => exact hp.elim
 | opq _ => exact hp.elim
 | _ => rfl
end
def DC (d : PH.D) : List PH.D := match d with
 | .lst xs => xs
 | _ => []
def IJ (l r : PH.D) (m : Nat) : Bool := (bV m).all fun k => ((DC l).any fun z => wK z (.int (k : Int))) || ((DC r).any fun z => wK z (.int (k : Int)))
def nH (v l r p : PH.D) (n : Int) : Bool := tE v n && (oP l ((DC v).length : Int) && (oP r ((DC v).length : Int) && (IJ l r (DC v).length && nN p)))
section
variable {S : aM} {bs : List (List Stt)} {v l r p : PH.D}
theorem chk4 (hb : bs.length <= 10) (hv : v.Pl) (hl : l.Pl) (hr : r.Pl) (hp : p.Pl) (tl : l.ht <= 64) (tr : r.ht <= 64) :
  (nH v l r p bs.length = true -> cL [.dat (cC bs), .dat (.tup [v, l, r, p])] S = .ok (.dat .non) S) /\
  (nH v l r p bs.length = false -> ∃ x : String, cL [.dat (cC bs), .dat (.tup [v, l, r, p])] S = .err (J0 x) S) := by
 have el := Ki (S := S) (bs := bs) (by omega)
 have i4 : fIsi "tuple" (.dat (.tup [v, l, r, p])) S = .ok (.dat (.bl true)) S := rfl;have l4 : cK (.dat (.tup [v, l, r, p])) S = .ok (.dat (.int 4)) S := rfl;have k4 : ∀ {ρ : Ev}, Gv (.tp [2, 3, 4, 5]) ρ (.dat (.tup [v, l, r, p])) S = .next ((((ρ.set 2 (some (.dat v))).set 3 (some (.dat l))).set 4 (some (.dat r))).set 5 (some (.dat p))) S := fun {ρ} => rfl
 have vo := pM (PX (S := S) hv (n := (bs.length : Int)));unfold nH;rw [jZ]; unfold dZ;cases q1 : tE v bs.length with
 | false =>
  rw [q1] at vo;refine ⟨fun h => (by cases h), fun _ => ⟨"variables", ?_⟩⟩
  simp! [nU, i4, l4, k4, el, vo, oM];rfl
 | true =>
  rw [q1] at vo;obtain ⟨xs, rfl⟩ : ∃ xs, v = .lst xs := by
   cases v with
   | lst xs => exact ⟨xs, rfl⟩
   | _ => cases q1
  have ex : DC (.lst xs) = xs := rfl;rw [ex];have hlv : cK (.dat (.lst xs)) S = .ok (.dat (.int (xs.length : Int))) S := rfl;have s1 := pM (Ex (S := S) hl tl (b := (xs.length : Int)));have s2 := pM (Ex (S := S) hr tr (b := (xs.length : Int)));cases q2 : oP l (xs.length : Int) with
  | false =>
   rw [q2] at s1;refine ⟨fun h => (by cases h), fun _ => ⟨"left", ?_⟩⟩
   simp! [nU, i4, l4, k4, el, vo, hlv, s1, oM];rfl
  | true =>
   rw [q2] at s1;cases q3 : oP r (xs.length : Int) with
   | false =>
    rw [q3] at s2;refine ⟨fun h => (by cases h), fun _ => ⟨"right", ?_⟩⟩
    simp! [nU, i4, l4, k4, el, vo, hlv, s1, s2, oM];rfl
   | true =>
    rw [q3] at s2;obtain ⟨ls, rfl⟩ : ∃ ls, l = .lst ls := by
     cases l with
     | lst ls => exact ⟨ls, rfl⟩
     | _ => cases q2
    obtain ⟨rs, rfl⟩ : ∃ rs, r = .lst rs := by
     cases r with
     | lst rs => exact ⟨rs, rfl⟩
     | _ => cases q3
    have hx := hv.1;have kr : tX (.dat (.int (xs.length : Int))) S = .ok ((bV xs.length).map kI) S := by
     rw [iV (by omega) (by omega), cZ, BU]
    obtain ⟨b, hb2⟩ : ∃ b : Nat -> Bool, b = fun k : Nat => (ls.any fun z => wK z (.int (k : Int))) || (rs.any fun z => wK z (.int (k : Int))) := ⟨_, rfl⟩
    have lc : CL false (.nm 6) gK dM [some (.dat (cC bs)), some (.dat (.tup [.lst xs, .lst ls, .lst rs, p])), some (.dat (.lst xs)), some (.dat (.lst ls)), some (.dat (.lst rs)), some (.dat p), none] [6] ((bV xs.length).map kI) S = .ok (.dat (.lst ((bV xs.length).map fun k => PH.D.bl (b k)))) S := by
     rw [gN (g := fun k : Nat => PH.D.bl (b k)) (sz (by rw [Am]; omega)) fun k hk => ⟨_, rfl, by
      have f1 : Cd false (.dat (kI k)) (.dat (.lst ls)) S = .ok (.dat (.bl (ls.any fun z => wK z (.int (k : Int))))) S := Jb (neg := false) (x := .int (k : Int)) trivial (dQ _) hl tl
      have f2 : Cd false (.dat (kI k)) (.dat (.lst rs)) S = .ok (.dat (.bl (rs.any fun z => wK z (.int (k : Int))))) S := Jb (neg := false) (x := .int (k : Int)) trivial (dQ _) hr tr
      unfold dM;have eb : b k = ((ls.any fun z => wK z (.int (k : Int))) || (rs.any fun z => wK z (.int (k : Int)))) := by rw [hb2]
      rw [eb];cases g : ls.any fun z => wK z (.int (k : Int)) with
      | true =>
       rw [g] at f1;simp! [f1]
       try rfl
      | false =>
       rw [g] at f1;simp! [f1, f2]
       try rfl⟩]
     rfl
    have al := MK (S := S) b (bV xs.length);have ec : IJ (.lst ls) (.lst rs) xs.length = (bV xs.length).all b := by rw [hb2]; rfl
    rw [ec];have po := pM (Mu (S := S) hp);cases q4 : (bV xs.length).all b with
    | false =>
     rw [q4] at al;refine ⟨fun h => (by cases h), fun _ => ⟨"right", ?_⟩⟩
     simp! [nU, i4, l4, k4, el, vo, hlv, s1, s2, kr, lc, al, oM];rfl
    | true =>
     rw [q4] at al;cases q5 : nN p with
     | false =>
      rw [q5] at po;refine ⟨fun h => (by cases h), fun _ => ⟨"parts", ?_⟩⟩
      simp! [nU, i4, l4, k4, el, vo, hlv, s1, s2, kr, lc, al, po, oM];rfl
     | true =>
      rw [q5] at po;refine ⟨fun _ => ?_, fun h => (by cases h)⟩
      simp! [nU, i4, l4, k4, el, vo, hlv, s1, s2, kr, lc, al, po];rfl
end
section
variable {S : aM}
theorem Iq {a0 a2 a3 a4 a5 a7 : Option Vl} {n : Int} {x : PH.D} (hp : x.Pl) :
  mN [a0, some (.dat (.int n)), a2, a3, a4, a5, some (.dat x), a7] S = if mO x n = true then .next [a0, some (.dat (.int n)), a2, a3, a4, a5, none, a7] S else .ret (.dat (.str "variables")) S := by
 rw [mN];cases x with
 | tup xs =>
  match xs, hp with
  | [], _ => rfl
  | [a], _ => rfl
  | [a, b], hp =>
   have w1 := sG (S := S) hp.2.1 (b := n);have w2 := sG (S := S) hp.2.2.1 (b := 2);have e : mO (.tup [a, b]) n = (iH a n && iH b 2) := rfl;rw [e];have i0 : ∀ S, cQ (.dat (.tup [a, b])) (.dat (.int 0)) S = .ok (.dat a) S := fun _ => rfl
   have i1 : ∀ S, cQ (.dat (.tup [a, b])) (.dat (.int 1)) S = .ok (.dat b) S := fun _ => rfl
   have h2 : ∀ S, cK (.dat (.tup [a, b])) S = .ok (.dat (.int 2)) S := fun _ => rfl
   have ii : ∀ S, fIsi "tuple" (.dat (.tup [a, b])) S = .ok (.dat (.bl true)) S := fun _ => rfl
   cases q : iH a n with
   | true =>
    rw [q] at w1;cases q2 : iH b 2 with
    | true => rw [q2] at w2; simp! [ii, h2, i0, i1, w1, w2]; try rfl
    | false => rw [q2] at w2; simp! [ii, h2, i0, i1, w1, w2]; try rfl
   | false => rw [q] at w1; simp! [ii, h2, i0, i1, w1]; try rfl
  | a :: b :: c :: r, _ =>
   have h2 : ∀ S, cK (.dat (.tup (a :: b :: c :: r))) S = .ok (.dat (.int (((a :: b :: c :: r).length : Nat) : Int))) S := fun _ => rfl
   have ii : ∀ S, fIsi "tuple" (.dat (.tup (a :: b :: c :: r))) S = .ok (.dat (.bl true)) S := fun _ => rfl
   obtain ⟨z, hz⟩ : ∃ z : Int, z = (((a :: b :: c :: r).length : Nat) : Int) := ⟨_, rfl⟩;rw [<- hz] at h2;have nz : ¬ z = 2 := by rw [hz]; simp only [aW]; omega
   simp! [ii, h2, decide_eq_false nz];rfl
 | ins c ns xs => exact hp.elim
 | dct => exact hp.elim
 | opq _ => exact hp.elim
 | _ => rfl
theorem BY {a0 a2 a3 a4 a5 a7 : Option Vl} {n : Int} : ∀ {xs : List PH.D}, PH.D.Pls xs ->
  loop (.nm 6) mN xs [a0, some (.dat (.int n)), a2, a3, a4, a5, none, a7] S = if (xs.all fun x => mO x n) = true then .next [a0, some (.dat (.int n)), a2, a3, a4, a5, none, a7] S else .ret (.dat (.str "variables")) S
 | [], _ => by rw [if_pos (show (([] : List PH.D).all fun x => mO x n) = true from rfl)]; rfl
 | x :: r, hp => by
  have st := Iq (S := S) (a0 := a0) (a2 := a2) (a3 := a3) (a4 := a4) (a5 := a5) (a7 := a7) (n := n) hp.1;have ih := BY (a0 := a0) (a2 := a2) (a3 := a3) (a4 := a4) (a5 := a5) (a7 := a7) (n := n) hp.2;rw [loop];simp only [sJ, bM, bH];rw [st];cases q : mO x n with
  | true =>
   rw [if_pos rfl];dsimp only;rw [ih, fG, q, yU]
  | false =>
   rw [if_neg (by simp), fG, q, Ek, if_neg (by simp)]
theorem Ct {a0 a1 a2 a5 a6 : Option Vl} {ls rs : List PH.D} (hl : (PH.D.lst ls).Pl) (hr : (PH.D.lst rs).Pl) (tl : (PH.D.lst ls).ht <= 64) (tr : (PH.D.lst rs).ht <= 64) : ∀ {ks : List Nat},
  loop (.nm 7) kD (ks.map kI) [a0, a1, a2, some (.dat (.lst ls)), some (.dat (.lst rs)), a5, a6, none] S = if (ks.all fun k => (ls.any fun z => wK z (.int (k : Int))) || (rs.any fun z => wK z (.int (k : Int)))) = true then .next [a0, a1, a2, some (.dat (.lst ls)), some (.dat (.lst rs)), a5, a6, none] S else .ret (.dat (.str "right")) S
 | [] => by rw [if_pos (show (([] : List Nat).all fun k => (ls.any fun z => wK z (.int (k : Int))) || (rs.any fun z => wK z (.int (k : Int)))) = true from rfl)]; rfl
 | k :: r => by
  have ih := Ct (a0 := a0) (a1 := a1) (a2 := a2) (a5 := a5) (a6 := a6) hl hr tl tr (ks := r);have f1 : Cd true (.dat (.int (k : Int))) (.dat (.lst ls)) S = .ok (.dat (.bl (!(ls.any fun z => wK z (.int (k : Int)))))) S := Jb (neg := true) (x := .int (k : Int)) trivial (dQ _) hl tl
  have f2 : Cd true (.dat (.int (k : Int))) (.dat (.lst rs)) S = .ok (.dat (.bl (!(rs.any fun z => wK z (.int (k : Int)))))) S := Jb (neg := true) (x := .int (k : Int)) trivial (dQ _) hr tr
  rw [bG, loop];simp only [sJ, kI, bM, bH];rw [kD];cases q : ls.any fun z => wK z (.int (k : Int)) with
  | true =>
   rw [q] at f1;simp! [f1];rw [<- kD, ih, fG, q, Bool.true_or, yU]
  | false =>
   rw [q] at f1;cases q2 : rs.any fun z => wK z (.int (k : Int)) with
   | true =>
    rw [q2] at f2;simp! [f1, f2];rw [<- kD, ih, fG, q, q2, Bool.or_true, yU]
   | false =>
    rw [q2] at f2;simp! [f1, f2];rw [fG, q, q2, GF, Ek];rfl
theorem Cb {x : PH.D} (h : iH x 3 = true) : x = .int 0 \/ x = .int 1 \/ x = .int 2 := by
 cases x with
 | int i =>
  have q : (decide (0 <= i) && decide (i < 3)) = true := h;rw [fJ, decide_eq_true_eq, decide_eq_true_eq] at q;rcases (by omega : i = 0 \/ i = 1 \/ i = 2) with rfl | rfl | rfl
  ·exact .inl rfl
  ·exact .inr (.inl rfl)
  ·exact .inr (.inr rfl)
 | _ => cases h
theorem rV {b : Int} {seen r : List PH.D} {x : PH.D} (h : fD b seen (x :: r) = true) : iH x b = true /\ (seen.any fun z => wK z x) = false /\ fD b (seen ++ [x]) r = true := by
 rw [fD] at h;split at h
 ·rename_i q
  exact ⟨q.1, q.2, h⟩
 ·cases h
theorem Ir {xs : List PH.D} (h : fD 3 [] xs = false) : nN (.lst xs) = false := by
 have key : ∀ (xs seen : List PH.D) (l : Int), (∀ z ∈ seen, ∃ j : Int, z = .int j /\ j < l) -> fF l xs = true -> fD 3 seen xs = true := by
  intro xs
  induction xs with
  | nil => intro seen l _ _; rfl
  | cons x r ih =>
   intro seen l hs hp;cases x with
   | int i =>
    rw [fF] at hp;split at hp
    ·rename_i q
     rw [fD, if_pos]
     ·refine ih (seen ++ [.int i]) (i + 1) (fun z hz => ?_) hp
      rcases bT.mp hz with hz | hz
      ·obtain ⟨j, e, hj⟩ := hs z hz
       exact ⟨j, e, by omega⟩
      ·rw [cU.mp hz]
       exact ⟨i, rfl, by omega⟩
     ·refine ⟨?_, ?_⟩
      ·show (decide (0 <= i) && decide (i < 3)) = true
       rw [decide_eq_true q.1.1, decide_eq_true q.1.2]; rfl
      ·rw [List.any_eq_false]
       intro z hz;obtain ⟨j, e, hj⟩ := hs z hz;rw [e]
       show ¬ (decide (j = i)) = true
       rw [decide_eq_true_eq];omega
    ·cases hp
   | _ => cases hp
 cases xs with
 | nil => rfl
 | cons x r =>
  show fF 0 (x :: r) = false
  cases q : fF 0 (x :: r) with
  | false => rfl
  | true =>
   have := key (x :: r) [] 0 (fun z hz => (nomatch hz)) q
   rw [h] at this;cases this
theorem K3 {xs : List PH.D} (h : fD 3 [] xs = true) : xs = [] \/ ∃ s : PH.D, (∀ S, xV false (.dat (.lst xs)) S = .ok (.dat s) S) /\ ∀ S, A0 (.dat (.lst xs)) (.dat s) S = .ok (.dat (.bl (!nN (.lst xs)))) S := by
 cases xs with
 | nil => exact .inl rfl
 | cons a r =>
  refine .inr ?_
  obtain ⟨h1, -, h⟩ := rV h;cases r with
  | nil => rcases Cb h1 with rfl | rfl | rfl <;> exact ⟨_, fun _ => rfl, fun _ => rfl⟩
  | cons b r =>
   obtain ⟨h2, g2, h⟩ := rV h;cases r with
   | nil =>
    rcases Cb h1 with rfl | rfl | rfl <;> rcases Cb h2 with rfl | rfl | rfl <;> first
     | exact absurd g2 (by decide)
     | exact ⟨_, fun _ => rfl, fun _ => rfl⟩
   | cons c r =>
    obtain ⟨h3, g3, h⟩ := rV h;cases r with
    | nil =>
     rcases Cb h1 with rfl | rfl | rfl <;> rcases Cb h2 with rfl | rfl | rfl <;> (try exact absurd g2 (by decide)) <;> rcases Cb h3 with rfl | rfl | rfl <;> first
      | exact absurd g3 (by decide)
      | exact ⟨_, fun _ => rfl, fun _ => rfl⟩
    | cons d r =>
     obtain ⟨h4, g4, -⟩ := rV h
     exfalso
     rcases Cb h1 with rfl | rfl | rfl <;> rcases Cb h2 with rfl | rfl | rfl <;> (try exact absurd g2 (by decide)) <;> rcases Cb h3 with rfl | rfl | rfl <;> (try exact absurd g3 (by decide)) <;> rcases Cb h4 with rfl | rfl | rfl <;> exact absurd g4 (by decide)
theorem Ph {v l r p : PH.D} {n : Int} (hv : v.Pl) (hl : l.Pl) (hr : r.Pl) (hp : p.Pl) (tl : l.ht <= 64) (tr : r.ht <= 64) (tp : p.ht <= 64) :
  (nH v l r p n = true -> kJ [.dat (.tup [v, l, r, p]), .dat (.int n)] S = .ok (.dat .non) S) /\
  (nH v l r p n = false -> ∃ x : String, kJ [.dat (.tup [v, l, r, p]), .dat (.int n)] S = .ok (.dat (.str (Str.ofString x))) S) := by
 have i4 : ∀ S, fIsi "tuple" (.dat (.tup [v, l, r, p])) S = .ok (.dat (.bl true)) S := fun _ => rfl
 have l4 : ∀ S, cK (.dat (.tup [v, l, r, p])) S = .ok (.dat (.int 4)) S := fun _ => rfl
 have k4 : ∀ {ρ : Ev}, Gv (.tp [2, 3, 4, 5]) ρ (.dat (.tup [v, l, r, p])) S = .next ((((ρ.set 2 (some (.dat v))).set 3 (some (.dat l))).set 4 (some (.dat r))).set 5 (some (.dat p))) S := fun {ρ} => rfl
 rw [Df]; unfold rD
 by_cases isl : ∃ xs, v = .lst xs
 ·obtain ⟨xs, rfl⟩ := isl
  have iv : ∀ S, fIsi "list" (.dat (.lst xs)) S = .ok (.dat (.bl true)) S := fun _ => rfl
  have hlv : ∀ S, cK (.dat (.lst xs)) S = .ok (.dat (.int (xs.length : Int))) S := fun _ => rfl
  have it : ∀ S, itemsOf (.dat (.lst xs)) S = .ok xs S := fun _ => rfl
  have hx := hv.1;have ev : tE (.lst xs) n = (decide (1 <= xs.length) && decide (xs.length <= 3) && xs.all fun x => mO x n) := rfl
  by_cases h1 : (xs.length : Int) < 1
  ·have e : nH (.lst xs) l r p n = false := by
    unfold nH;rw [ev, decide_eq_false (show ¬ 1 <= xs.length by omega)]; rfl
   refine ⟨fun h => (by rw [e] at h; cases h), fun _ => ⟨"variables", ?_⟩⟩
   simp! [i4, l4, k4, iv, hlv, decide_eq_true h1];rfl
  by_cases h3 : (3 : Int) < (xs.length : Int)
  ·have e : nH (.lst xs) l r p n = false := by
    unfold nH;rw [ev, decide_eq_false (show ¬ xs.length <= 3 by omega), wW]; rfl
   refine ⟨fun h => (by rw [e] at h; cases h), fun _ => ⟨"variables", ?_⟩⟩
   simp! [i4, l4, k4, iv, hlv, decide_eq_false h1, decide_eq_true h3];rfl
  have lv := BY (S := S) (a0 := some (.dat (.tup [.lst xs, l, r, p]))) (a2 := some (.dat (.lst xs))) (a3 := some (.dat l)) (a4 := some (.dat r)) (a5 := some (.dat p)) (a7 := none) (n := n) hv.2;cases q1 : xs.all fun x => mO x n with
  | false =>
   have e : nH (.lst xs) l r p n = false := by
    unfold nH;rw [ev, q1, wW]; rfl
   rw [q1, if_neg (by simp)] at lv
   refine ⟨fun h => (by rw [e] at h; cases h), fun _ => ⟨"variables", ?_⟩⟩
   simp! [i4, l4, k4, iv, hlv, decide_eq_false h1, decide_eq_false h3, it, lv];rfl
  | true =>
   have e1 : tE (.lst xs) n = true := by
    rw [ev, q1, decide_eq_true (show 1 <= xs.length by omega), decide_eq_true (show xs.length <= 3 by omega)]; rfl
   rw [q1, if_pos rfl] at lv;have s1 := A4 (S := S) hl tl (b := (xs.length : Int));have s2 := A4 (S := S) hr tr (b := (xs.length : Int));have eg : nH (.lst xs) l r p n = (oP l (xs.length : Int) && (oP r (xs.length : Int) && (IJ l r xs.length && nN p))) := by
    unfold nH;rw [e1]; rfl
   rw [eg];cases q2 : oP l (xs.length : Int) with
   | false =>
    rw [q2] at s1;refine ⟨fun h => (by cases h), fun _ => ⟨"left", ?_⟩⟩
    simp! [i4, l4, k4, iv, hlv, decide_eq_false h1, decide_eq_false h3, it, lv, s1];rfl
   | true =>
   rw [q2] at s1;cases q3 : oP r (xs.length : Int) with
   | false =>
    rw [q3] at s2;refine ⟨fun h => (by cases h), fun _ => ⟨"right", ?_⟩⟩
    simp! [i4, l4, k4, iv, hlv, decide_eq_false h1, decide_eq_false h3, it, lv, s1, s2];rfl
   | true =>
   rw [q3] at s2;obtain ⟨ls, rfl⟩ : ∃ ls, l = .lst ls := by
    cases l with
    | lst ls => exact ⟨ls, rfl⟩
    | _ => cases q2
   obtain ⟨rs, rfl⟩ : ∃ rs, r = .lst rs := by
    cases r with
    | lst rs => exact ⟨rs, rfl⟩
    | _ => cases q3
   have kr : tX (.dat (.int (xs.length : Int))) S = .ok ((bV xs.length).map kI) S := by
    rw [iV (by omega) (by omega), cZ, BU]
   have lc := Ct (S := S) (a0 := some (.dat (.tup [.lst xs, .lst ls, .lst rs, p]))) (a1 := some (.dat (.int n))) (a2 := some (.dat (.lst xs))) (a5 := some (.dat p)) (a6 := none) hl hr tl tr (ks := bV xs.length);have ec : IJ (.lst ls) (.lst rs) xs.length = (bV xs.length).all fun k => (ls.any fun z => wK z (.int (k : Int))) || (rs.any fun z => wK z (.int (k : Int))) := rfl
   rw [ec];cases q4 : (bV xs.length).all fun k => (ls.any fun z => wK z (.int (k : Int))) || (rs.any fun z => wK z (.int (k : Int))) with
   | false =>
    rw [q4, if_neg (by simp)] at lc
    refine ⟨fun h => (by cases h), fun _ => ⟨"right", ?_⟩⟩
    simp! [i4, l4, k4, iv, hlv, decide_eq_false h1, decide_eq_false h3, it, lv, s1, s2, kr, lc];rfl
   | true =>
   rw [q4, if_pos rfl] at lc;have s3 := A4 (S := S) hp tp (b := 3);cases q5 : oP p 3 with
   | false =>
    have e5 : nN p = false := by
     cases p with
     | lst ps => exact Ir q5
     | _ => rfl
    rw [q5] at s3;rw [e5];refine ⟨fun h => (by cases h), fun _ => ⟨"parts", ?_⟩⟩
    simp! [i4, l4, k4, iv, hlv, decide_eq_false h1, decide_eq_false h3, it, lv, s1, s2, kr, lc, s3];rfl
   | true =>
   rw [q5] at s3;obtain ⟨ps, rfl⟩ : ∃ ps, p = .lst ps := by
    cases p with
    | lst ps => exact ⟨ps, rfl⟩
    | _ => cases q5
   have hlp : ∀ S, cK (.dat (.lst ps)) S = .ok (.dat (.int (ps.length : Int))) S := fun _ => rfl
   rcases K3 q5 with rfl | ⟨s, so, ne⟩
   ·refine ⟨fun h => (by cases h), fun _ => ⟨"parts", ?_⟩⟩
    simp! [i4, l4, k4, iv, hlv, decide_eq_false h1, decide_eq_false h3, it, lv, s1, s2, kr, lc, s3];rfl
   ·by_cases hz : (ps.length : Int) < 1
    ·have : ps = [] := by
      cases ps with
      | nil => rfl
      | cons a b => simp only [aW] at hz; omega
     subst this;refine ⟨fun h => (by cases h), fun _ => ⟨"parts", ?_⟩⟩
     simp! [i4, l4, k4, iv, hlv, decide_eq_false h1, decide_eq_false h3, it, lv, s1, s2, kr, lc, s3];rfl
    ·cases q6 : nN (.lst ps) with
     | true =>
      rw [q6] at ne;refine ⟨fun _ => ?_, fun h => (by cases h)⟩
      simp! [i4, l4, k4, iv, hlv, decide_eq_false h1, decide_eq_false h3, it, lv, s1, s2, kr, lc, s3, hlp, decide_eq_false hz, so, ne];rfl
     | false =>
      rw [q6] at ne;refine ⟨fun h => (by cases h), fun _ => ⟨"parts", ?_⟩⟩
      simp! [i4, l4, k4, iv, hlv, decide_eq_false h1, decide_eq_false h3, it, lv, s1, s2, kr, lc, s3, hlp, decide_eq_false hz, so, ne];rfl
 ·have e : nH v l r p n = false := by
   unfold nH;cases v with
   | lst xs => exact absurd ⟨xs, rfl⟩ isl
   | _ => rfl
  refine ⟨fun h => (by rw [e] at h; cases h), fun _ => ⟨"variables", ?_⟩⟩
  cases v with
  | lst xs => exact absurd ⟨xs, rfl⟩ isl
  | ins c ns xs => exact hv.elim
  | dct => exact hv.elim
  | opq _ => exact hv.elim
  | _ =>
   simp! [i4, l4, k4];rfl
end
def oQ (d : PH.D) (n : Int) : Bool := match d with
 | .tup [v, l, r, p] => nH v l r p n
 | _ => false
section
variable {S : aM} {bs : List (List Stt)}
theorem Mr {d : PH.D} {n : Int} (hp : d.Pl) (hh : d.ht <= 64) :
  (oQ d n = true -> kJ [.dat d, .dat (.int n)] S = .ok (.dat .non) S) /\
  (oQ d n = false -> ∃ x : String, kJ [.dat d, .dat (.int n)] S = .ok (.dat (.str (Str.ofString x))) S) := by
 by_cases h : ∃ v l r p, d = .tup [v, l, r, p]
 ·obtain ⟨v, l, r, p, rfl⟩ := h
  have hh' : PH.D.hts [v, l, r, p] <= 63 := by
   have : PH.D.hts [v, l, r, p] + 1 <= 64 := hh;omega
  have t := nS hh';exact Ph hp.2.1 hp.2.2.1 hp.2.2.2.1 hp.2.2.2.2.1 (by have := t l (by simp); omega) (by have := t r (by simp); omega) (by have := t p (by simp); omega)
 ·have n4 : ∀ v l r p, d ≠ .tup [v, l, r, p] := fun v l r p e => h ⟨v, l, r, p, e⟩
  have e : oQ d n = false := by
   unfold oQ;split
   ·rename_i v l r p
    exact absurd rfl (n4 v l r p)
   ·rfl
  refine ⟨fun z => (by rw [e] at z; cases z), fun _ => ⟨"equation", ?_⟩⟩
  rw [Df]; unfold rD;cases d with
  | ins c ns xs => exact hp.elim
  | dct => exact hp.elim
  | opq _ => exact hp.elim
  | tup xs =>
   have hl : ¬ (xs.length : Int) = 4 := fun e => by
    have e : xs.length = 4 := by omega
    match xs, e with
    | [a, b, c, d], _ => exact n4 a b c d rfl
   have i : ∀ S, fIsi "tuple" (.dat (.tup xs)) S = .ok (.dat (.bl true)) S := fun _ => rfl
   have l : ∀ S, cK (.dat (.tup xs)) S = .ok (.dat (.int (xs.length : Int))) S := fun _ => rfl
   simp! [i, l, decide_eq_false hl];rfl
  | _ => rfl
theorem chk62 {d : PH.D} (hb : bs.length <= 10) (hp : d.Pl) (hh : d.ht <= 64) :
  (oQ d bs.length = true -> cL [.dat (cC bs), .dat d] S = .ok (.dat .non) S) /\
  (oQ d bs.length = false -> ∃ x : String, cL [.dat (cC bs), .dat d] S = .err (J0 x) S) := by
 by_cases h : ∃ v l r p, d = .tup [v, l, r, p]
 ·obtain ⟨v, l, r, p, rfl⟩ := h
  have hh' : PH.D.hts [v, l, r, p] <= 63 := by
   have : PH.D.hts [v, l, r, p] + 1 <= 64 := hh;omega
  have t := nS hh';exact chk4 hb hp.2.1 hp.2.2.1 hp.2.2.2.1 hp.2.2.2.2.1 (by have := t l (by simp); omega) (by have := t r (by simp); omega)
 ·have n4 : ∀ v l r p, d ≠ .tup [v, l, r, p] := fun v l r p e => h ⟨v, l, r, p, e⟩
  have e : oQ d bs.length = false := by
   unfold oQ;split
   ·rename_i v l r p
    exact absurd rfl (n4 v l r p)
   ·rfl
  refine ⟨fun z => (by rw [e] at z; cases z), fun _ => ⟨"equation", ?_⟩⟩
  rw [jZ]; unfold dZ;cases d with
  | ins c ns xs => exact hp.elim
  | dct => exact hp.elim
  | opq _ => exact hp.elim
  | tup xs =>
   have hl : ¬ (xs.length : Int) = 4 := fun e => by
    have e : xs.length = 4 := by omega
    match xs, e with
    | [a, b, c, d], _ => exact n4 a b c d rfl
   have i : ∀ S, fIsi "tuple" (.dat (.tup xs)) S = .ok (.dat (.bl true)) S := fun _ => rfl
   have l : ∀ S, cK (.dat (.tup xs)) S = .ok (.dat (.int (xs.length : Int))) S := fun _ => rfl
   simp! [nU, i, l, decide_eq_false hl, oM];rfl
  | _ =>
   simp! [nU, oM];rfl
end
mutual
def nC : Stt -> Nat
 | .keep b => vJ b
 | .again b => vJ b
 | .either a b => vJ a + vJ b
 | .call _ _ a b => 1 + (vJ a + vJ b)
 | _ => 0
def vJ : List Stt -> Nat
 | [] => 0
 | s :: r => nC s + vJ r
end
mutual
theorem nC_le : ∀ s : Stt, nC s <= s.size
 | .keep b => by have := tS b; simp only [nC, Stt.size]; omega
 | .again b => by have := tS b; simp only [nC, Stt.size]; omega
 | .either a b => by have := tS a; have := tS b; simp only [nC, Stt.size]; omega
 | .call _ _ a b => by have := tS a; have := tS b; simp only [nC, Stt.size]; omega
 | .cmd _ => by simp [nC]
 | .fin _ => by simp [nC]
 | .bad => by simp [nC]
 | .odd _ => by simp [nC]
theorem tS : ∀ l : List Stt, vJ l <= bW l
 | [] => by simp [vJ]
 | s :: r => by have := nC_le s; have := tS r; simp only [vJ, bW]; omega
end
theorem Aq : ∀ a b : List Stt, vJ (a ++ b) = vJ a + vJ b
 | [], b => by simp [vJ]
 | s :: r, b => by rw [sY, vJ, Aq r b, vJ]; omega
theorem pR {i : Int} (l : List (List Int × Stt)) : ((l.map (pre i)).filter fun x => x.2.isCall).length = (l.filter fun x => x.2.isCall).length := by
 rw [List.filter_map, bB];rfl
mutual
theorem KH : ∀ s : Stt, ((relS s).filter fun x => x.2.isCall).length + (if s.isCall = true then 1 else 0) = nC s
 | .keep b => by have := mP 0 b; rw [relS, pR, this]; rfl
 | .again b => by have := mP 0 b; rw [relS, pR, this]; rfl
 | .either a b => by
  have h1 := mP 0 a;have h2 := mP 0 b;rw [relS, qM, bO, pR, pR, h1, h2]; rfl
 | .call _ _ a b => by
  have h1 := mP 0 a;have h2 := mP 0 b;rw [relS, qM, bO, pR, pR, h1, h2, nC]; show vJ a + vJ b + 1 = _; omega
 | .cmd _ => by simp [relS, nC, Stt.isCall]
 | .fin _ => by simp [relS, nC, Stt.isCall]
 | .bad => by simp [relS, nC, Stt.isCall]
 | .odd _ => by simp [relS, nC, Stt.isCall]
theorem mP : ∀ (i : Int) (l : List Stt), ((kW i l).filter fun x => x.2.isCall).length = vJ l
 | i, [] => rfl
 | i, s :: r => by
  have h1 := KH s;have h2 := mP (i + 1) r;rw [kW, List.filter_cons];split
  ·rename_i h
   rw [if_pos h] at h1;rw [aW, qM, bO, pR, h2, vJ]; omega
  ·rename_i h
   rw [if_neg h] at h1;rw [qM, bO, pR, h2, vJ]; omega
end
theorem IK : ∀ (p : Int) (bs : List (List Stt)), (EY (CC p bs)).length = (bs.map vJ).sum
 | p, [] => rfl
 | p, b :: r => by
  have h := IK (p + 1) r;rw [CC, IL, bO, h, bG, List.sum_cons]
  congr 1
  unfold EY;rw [bB, List.filter_map, bB];exact mP 0 b
theorem Au : ∀ a b : List PH.D, PH.D.hts (a ++ b) = max (PH.D.hts a) (PH.D.hts b)
 | [], b => by simp [PH.D.hts]
 | x :: r, b => by rw [sY, PH.D.hts, PH.D.hts, Au r b, Nat.max_assoc]
mutual
theorem NO {many : Int} : ∀ (s : Stt) {n : Nat}, s.Gd many n -> s.d.ht <= 3 * s.size
 | .cmd c, n, _ => by cases c <;> simp [Stt.d, Cmd.d, PH.D.ht, PH.D.hts, Stt.size]
 | .fin w, n, _ => by simp [Stt.d, PH.D.ht, PH.D.hts, Stt.size]
 | .keep a, n, h => by have := mU a h.2; simp only [Stt.d, PH.D.ht, PH.D.hts, Stt.size]; omega
 | .again a, n, h => by have := mU a h.2; simp only [Stt.d, PH.D.ht, PH.D.hts, Stt.size]; omega
 | .either a b, n, h => by have := mU a h.2.1; have := mU b h.2.2; simp only [Stt.d, PH.D.ht, PH.D.hts, Stt.size]; omega
 | .call _ _ a b, n, h => by have := mU a h.2.1; have := mU b h.2.2; simp only [Stt.d, PH.D.ht, PH.D.hts, Stt.size]; omega
 | .bad, n, h => h.elim
 | .odd _, n, h => h.elim
theorem mU {many : Int} : ∀ (l : List Stt) {n : Nat}, GdL many l n -> PH.D.hts (cD l) <= 3 * bW l
 | [], n, _ => by simp [cD, PH.D.hts]
 | s :: r, n, h => by have := NO s h.1; have := mU r h.2; simp only [cD, PH.D.hts, bW]; omega
end
theorem MG {p q c N : Nat} {many : Int} {S : aM} {r l mood low : Int} (D : Dr p q c N many S r l) (h0 : 0 <= mood) (h7 : mood <= 7) (lo : 0 <= low) (r0 : 0 <= r) (r8 : r <= 8) (m1 : 1 <= many) (m3 : many <= 3) :
  ∃ (ls : List Stt) (S' : aM) (r' l' : Int), tU [.cel p, .dat (.int mood), .cel q, .cel c, .dat (.int low)] S = .ok (.dat (.lst (cD ls))) S' /\ ((vJ ls : Int) <= r /\ (r <= 2 -> PH.D.hts (cD ls) <= 6)) /\ Left p q c N many S (r + 2) 3 ls S' r' l' := by
 rw [show tU [.cel p, .dat (.int mood), .cel q, .cel c, .dat (.int low)] S = cH (yO [some (.cel p), some (.dat (.int mood)), some (.cel q), some (.cel c), some (.dat (.int low)), none, none, none, none] S) from rfl]
 unfold yO;obtain ⟨d, S1, e1, d0, d1, D1, s1⟩ := D.draw (k := 6) (by decide) (by decide)
 obtain ⟨a, S2, e2, a0, a1, D2, s2⟩ := D1.draw (k := 2) (by decide) (by decide)
 -- behind the loop
 have fin : ∀ (ls : List Stt) (T : aM) (r1 l1 : Int), Dr p q c N many T r1 l1 -> Sam [p, q, c] S T -> 0 <= r1 -> (bW ls : Int) + r1 <= r -> GdL many ls 3 -> ∃ (ls' : List Stt) (S' : aM) (r' l' : Int), cH (aK (kP (gX (aX (dD false) (mC (.int 1)) (aO bA (aB (aC 0) (aB (mC (.int 4)) aI))))) (.nm 7) jT)
 (aK (bL (bK false (aB (bK false (aB (cE (aB (mC (.str "either")) (aB (bK false (aB (cE (aB (mC (.str "end")) (aB (mC (.int 1)) aI))) aI)) (aB (bK false aI) aI)))) aI)) (aB (bK false (aB (cE (aB (mC (.str "end")) (aB (mC (.int 1)) aI))) aI)) aI))) (.nm 8))
 (aK (bJ (pK (mB (aX gC (aC 5) (mC (.int 1)))) (mB (aX gC (aC 5) (mC (.int 3))))) (bI (aX (dD false) (aC 6) (aX cQ (aC 8) (aX pO (aC 5) (mC (.int 2)))))) aZ)
 (aK (bJ (mB (aX gC (aC 5) (mC (.int 2)))) (bI (aX (dD false) (aX cQ (aC 8) (mC (.int 0))) (aC 6))) aZ)
 (bI (aC 6))))) [some (.cel p), some (.dat (.int mood)), some (.cel q), some (.cel c), some (.dat (.int low)), some (.dat (.int d)), some (.dat (.lst (cD ls))), none, none] T) = .ok (.dat (.lst (cD ls'))) S' /\ ((vJ ls' : Int) <= r /\ (r <= 2 -> PH.D.hts (cD ls') <= 6)) /\ Left p q c N many S (r + 2) 3 ls' S' r' l' := fun ls T r1 l1 DT sT r10 hsz g => by
  obtain ⟨x, T1, e3, x0, x1, D3, s3⟩ := DT.draw (k := 4) (by decide) (by decide)
  obtain ⟨l4, T4, r4, c4, e4, L4⟩ := A3 (z8 := none) (z5 := some (.dat (.int d))) h0 h7 lo m3 (jH 0 (1 + x).toNat) ls T1 r1 l1 D3 r10 (by omega) g
  have hs4 := L4.sz;have hr4 := L4.r0;have hl4 := iP l4;have hc0 := tS l4;have ht0 := mU l4 L4.gd;have htA : PH.D.hts (cD [Af]) <= 6 := by decide
  have htB : PH.D.hts (cD [.fin 1]) <= 6 := by decide
  have s4 := sT.trans (s3.trans L4.sam);simp! [e3, iV (show -(2 ^ 62) <= 1 + x by omega) (show 1 + x < 2 ^ 62 by omega), e4]
  have hA : GdL many [Af] 3 := ⟨⟨by omega, ⟨⟨by omega, by omega⟩, trivial⟩, trivial⟩, trivial⟩
  have hB : GdL many [.fin 1] 3 := ⟨⟨by omega, by omega⟩, trivial⟩
  have a1 : (cD l4).length + (cD [Af]).length <= sizeLine := sz (by rw [dF, dF]; simp; omega)
  have a2 : (cD l4).length + (cD [.fin 1]).length <= sizeLine := sz (by rw [dF, dF]; simp; omega)
  have a3 : (cD [Af]).length + (cD l4).length <= sizeLine := sz (by rw [dF, dF]; simp; omega)
  have q1 : ∀ T, cQ (.dat (.lst [.lst [.tup [.str "either", .lst [.tup [.str "end", .int 1]], .lst []]], .lst [.tup [.str "end", .int 1]]])) (.dat (.int 0)) T = .ok (.dat (.lst (cD [Af]))) T := fun T => rfl
  have q2 : ∀ T, cQ (.dat (.lst [.lst [.tup [.str "either", .lst [.tup [.str "end", .int 1]], .lst []]], .lst [.tup [.str "end", .int 1]]])) (.dat (.int 1)) T = .ok (.dat (.lst (cD [.fin 1]))) T := fun T => rfl
  rcases (by omega : d = 0 \/ d = 1 \/ d = 2 \/ d = 3 \/ d = 4 \/ d = 5) with rfl | rfl | rfl | rfl | rfl | rfl
  ·simp! [if_true]
   exact ⟨l4, T4, r4, c4, rfl, ⟨by omega, fun _ => by omega⟩, L4.dr, s4, hr4, by omega, L4.gd⟩
  ·have f1 : ∀ T, pO (.dat (.int 1)) (.dat (.int 2)) T = .ok (.dat (.int 0)) T := fun T => rfl
   simp! [f1, q1, jX a1];refine ⟨l4 ++ [Af], T4, r4, c4, by rw [iL]; rfl, ⟨by rw [Aq]; simp [Af, vJ, nC]; omega, fun _ => by rw [iL, Au]; omega⟩, L4.dr, s4, hr4, ?_, L4.gd.app hA⟩
   rw [hE]; simp only [bW, Af, Stt.size]; omega
  ·simp! [q1, jX a3]
   refine ⟨[Af] ++ l4, T4, r4, c4, by rw [iL]; rfl, ⟨by rw [Aq]; simp [Af, vJ, nC]; omega, fun _ => by rw [iL, Au]; omega⟩, L4.dr, s4, hr4, ?_, hA.app L4.gd⟩
   rw [hE]; simp only [bW, Af, Stt.size]; omega
  ·have f1 : ∀ T, pO (.dat (.int 3)) (.dat (.int 2)) T = .ok (.dat (.int 1)) T := fun T => rfl
   simp! [f1, q2, jX a2];refine ⟨l4 ++ [.fin 1], T4, r4, c4, by rw [iL]; rfl, ⟨by rw [Aq]; simp [Af, vJ, nC]; omega, fun _ => by rw [iL, Au]; omega⟩, L4.dr, s4, hr4, ?_, L4.gd.app hB⟩
   rw [hE]; simp only [bW, Stt.size]; omega
  ·simp! [if_true]
   exact ⟨l4, T4, r4, c4, rfl, ⟨by omega, fun _ => by omega⟩, L4.dr, s4, hr4, by omega, L4.gd⟩
  ·simp! [if_true]
   exact ⟨l4, T4, r4, c4, rfl, ⟨by omega, fun _ => by omega⟩, L4.dr, s4, hr4, by omega, L4.gd⟩
 have fin0 := fin [] S2 r l D2 (s1.trans s2) r0 (by simp [bW]) trivial
 rw [DG] at fin0
 by_cases ha : a = 0
 ·by_cases hr : 3 < r
  ·by_cases hl : 0 < l
   ·obtain ⟨la, Sa, ra, ca, ea, La⟩ := Jk D2 h0 h7 hr m1 m3
    have := La.sz;have f := fin la Sa ra ca La.dr (s1.trans (s2.trans La.sam)) La.r0 (by omega) La.gd
    rw [DG] at f;simp! [e1, e2, decide_eq_true ha, D2.ixq, decide_eq_true hr, D2.ixc0, decide_eq_true hl, ea] at f ⊢;exact f
   ·simp! [e1, e2, decide_eq_true ha, D2.ixq, decide_eq_true hr, D2.ixc0, decide_eq_false hl] at fin0 ⊢
    exact fin0
  ·simp! [e1, e2, decide_eq_true ha, D2.ixq, decide_eq_false hr] at fin0 ⊢
   exact fin0
 ·simp! [e1, e2, decide_eq_false ha] at fin0 ⊢
  exact fin0
theorem CA {p n N : Nat} {S0 T : aM} {many l mood low rm : Int} {bs : List (List Stt)} (B : Bk p n N S0 many l bs T) (h0 : 0 <= mood) (h7 : mood <= 7) (lo : 0 <= low) (r0 : 0 <= rm) (r8 : rm <= 8) (m1 : 1 <= many) (m3 : many <= 3) (hb : bs.length <= 3) :
  ∃ (b : List Stt) (T2 : aM) (l' : Int), tU [.cel p, .dat (.int mood), .cel T.length, .cel n, .dat (.int low)] (T ++ [PL [rm]]) = .ok (.dat (.lst (cD b))) T2 /\ T2[n + 1]? = some (.lst (bls bs)) /\ GdL many b 3 /\ (bW b : Int) <= rm + 2 /\ ((vJ b : Int) <= rm /\ (rm <= 2 -> PH.D.hts (cD b) <= 6)) /\ Bk p n N S0 many l' (bs ++ [b]) (T2.set (n + 1) (.lst (bls bs ++ [.lst (cD b)]))) := by
 obtain ⟨ks, hk, hkl⟩ := B.pool;have hlen := B.len;have hp := B.hp;have D : Dr p T.length n N many (T ++ [PL [rm]]) rm l := ⟨B.ls.app, B.n2, ⟨ks, by rw [qK (by omega)]; exact hk, hkl⟩, by simp, by rw [qK (by omega)]; exact B.call, by omega, by omega, by omega⟩
 obtain ⟨b, T2, r', l', e, cn, L⟩ := MG D h0 h7 lo r0 r8 m1 m3;have hsz := L.sz;have hr := L.r0;have h1 : T2[n + 1]? = some (.lst (bls bs)) := by
  rw [L.sam.2 (n + 1) (by simp; omega), qK (by omega)]
  exact B.bod
 have hl2 : T2.length = T.length + 1 := by rw [L.sam.1]; simp
 refine ⟨b, T2, l', e, h1, L.gd, by omega, cn, L.dr.ls.set, B.n2, B.hp, by simp; omega, ?_, by rw [eO (by omega)]; exact L.dr.call, ?_, fun i hi hip => ?_⟩
 ·obtain ⟨ks', hk', hkl'⟩ := L.dr.pool
  exact ⟨ks', by rw [eO (by omega)]; exact hk', hkl'⟩
 ·rw [jU h1]
  simp [bls]
 ·rw [eO (by omega), L.sam.2 i (by simp; omega), qK (by omega)]
  exact B.old i hi hip
theorem wN {p n N : Nat} {S0 : aM} {many mood most size : Int} {wild : Bool} (h0 : 0 <= mood) (h7 : mood <= 7) (m1 : 1 <= many) (m3 : many <= 3) (z3 : 3 <= size) (z8 : size <= 8) {R : Int} (hR0 : (size - 2 - (if decide ((2 : Int) < many) = true then (1 : Int) else 0)) = R) :
  ∀ (j : Nat) (i : Int) (bs : List (List Stt)) (T : aM) (l : Int), Bk p n N S0 many l bs T -> 0 <= i -> bs.length + j <= 3 -> (∀ b ∈ bs, GdL many b 3 /\ (bW b : Int) <= size /\ ((vJ b : Int) <= R /\ (R <= 2 -> PH.D.hts (cD b) <= 6))) -> ∃ (bs' : List (List Stt)) (T' : aM) (l' : Int),
   loop (.nm 8) lQ (jH i j) [some (.cel p), some (.dat (.int most)), some (.dat (.int size)), some (.dat (.int mood)), some (.dat (.bl wild)), some (.dat (.int many)), some (.cel n), some (.cel (n + 1)), none, none, none] T =
    .next [some (.cel p), some (.dat (.int most)), some (.dat (.int size)), some (.dat (.int mood)), some (.dat (.bl wild)), some (.dat (.int many)), some (.cel n), some (.cel (n + 1)), none, none, none] T' /\ Bk p n N S0 many l' bs' T' /\ (∀ b ∈ bs', GdL many b 3 /\ (bW b : Int) <= size /\ ((vJ b : Int) <= R /\ (R <= 2 -> PH.D.hts (cD b) <= 6))) /\ bs'.length = bs.length + j
 | 0, i, bs, T, l, B, _, _, g => ⟨bs, T, l, rfl, B, g, rfl⟩
 | j + 1, i, bs, T, l, B, hi, hj, g => by
  have hlen := B.len;have hR := hR0;have hrm : 0 <= R /\ R <= size - 2 := by rw [<- hR]; split <;> omega
  obtain ⟨b1, T1, l1, e1, a1, g1, s1, n1, B1⟩ := CA (rm := R) (mood := mood) (low := 0) B h0 h7 (by omega) (by omega) (by omega) m1 m3 (by omega)
  obtain ⟨b2, T2, l2, e2, a2, g2, s2, n2, B2⟩ := CA (rm := R) (mood := mood) (low := i + 1) B h0 h7 (by omega) (by omega) (by omega) m1 m3 (by omega)
  have hat : (T ++ [PL [R]])[n + 1]? = some (.lst (bls bs)) := by rw [qK (by omega)]; exact B.bod
  have hsl : (bls bs).length < sizeLine := by rw [yG]; exact hQ (show bs.length <= 3 by omega) (by decide)
  rw [show PL [R] = .lst [.int R] from rfl] at e1 e2 hat
  rw [F8, loop];simp only [sJ, bM, bH];rw [lQ];cases wild with
  | true =>
   simp! [hR, tZ hat, e1, zV a1 hsl];rw [<- lQ];obtain ⟨bs', T', l', e, B', g', n'⟩ := wN (hR0 := hR0) (most := most) h0 h7 m1 m3 z3 z8 j (i + 1) (bs ++ [b1]) _ l1 B1 (by omega) (by simp; omega) (fun b hb => by
    rcases bT.mp hb with hb | hb
    ·exact g b hb
    ·rw [cU.mp hb]; exact ⟨g1, by omega, n1⟩)
   exact ⟨bs', T', l', e, B', g', by rw [n']; simp; omega⟩
  | false =>
   simp! [hR, tZ hat, e2, zV a2 hsl];rw [<- lQ];obtain ⟨bs', T', l', e, B', g', n'⟩ := wN (hR0 := hR0) (most := most) h0 h7 m1 m3 z3 z8 j (i + 1) (bs ++ [b2]) _ l2 B2 (by omega) (by simp; omega) (fun b hb => by
    rcases bT.mp hb with hb | hb
    ·exact g b hb
    ·rw [cU.mp hb]; exact ⟨g2, by omega, n2⟩)
   exact ⟨bs', T', l', e, B', g', by rw [n']; simp; omega⟩
theorem MF {S : aM} {p : Nat} {ks : List Int} {most size : Int} (hP : PoolAt S p ks) (ls : LS S) (m1 : 1 <= most) (m3 : most <= 3) (z3 : 3 <= size) (z8 : size <= 8) :
  ∃ (bs : List (List Stt)) (ks' : List Int), xP [.cel p, .dat (.int most), .dat (.int size)] S = .ok (.dat (.lst (bls bs))) (S.set p (PL ks')) /\ Good bs /\ (∀ b ∈ bs, (bW b : Int) <= size) /\ (bs.length : Int) <= most /\ ks'.length = ks.length /\ ∀ b ∈ bs, ((vJ b : Int) <= size - 2 - (if decide ((2 : Int) < (bs.length : Int)) = true then (1 : Int) else 0) /\ (size - 2 - (if decide ((2 : Int) < (bs.length : Int)) = true then (1 : Int) else 0) <= 2 -> PH.D.hts (cD b) <= 6)) := by
 obtain ⟨d1, k1, e1, h10, h11, l1⟩ := dW hP (k := 6) (by decide) (by decide)
 obtain ⟨d2, k2, e2, h20, h21, l2⟩ := dW (hP.next l1) (k := 8) (by decide) (by decide)
 obtain ⟨d3, k3, e3, h30, h31, l3⟩ := dW ((hP.next l1).next l2) (k := most) (by omega) (by omega)
 simp only [pB] at e2 e3;have hp : p < S.length := (aJ.mp hP.1).1;have P3 : PoolAt (S.set p (PL k3)) p k3 := ⟨jU hP.1, by have := hP.2; omega⟩
 have ls3 : LS (S.set p (PL k3)) := ls.set;have hS3 : (S.set p (PL k3)).length = S.length := by simp
 rw [show xP [.cel p, .dat (.int most), .dat (.int size)] S = trunc S.length (cH (yN [some (.cel p), some (.dat (.int most)), some (.dat (.int size)), none, none, none, none, none, none, none, none] S)) from rfl]
 unfold yN;simp! [e1, e2, e3, iV (show -(2 ^ 62) <= 1 + d3 by omega) (show 1 + d3 < 2 ^ 62 by omega), aS, bO]
 have B : Bk p S.length k3.length S (1 + d3) 4 [] (S.set p (PL k3) ++ [PL [4, 1 + d3]] ++ [.lst []]) := by
  refine ⟨ls3.app.app, by have := hP.2; omega, hp, by simp, ⟨k3, ?_, rfl⟩, ?_, ?_, fun i hi hip => ?_⟩
  ·rw [qK (by simp; omega), qK (by simp; omega)]; exact P3.1
  ·rw [qK (by simp), <- hS3]; simp
  ·rw [show S.length + 1 = (S.set p (PL k3) ++ [PL [4, 1 + d3]]).length by simp]; simp [bls]
  ·rw [qK (by simp; omega), qK (by simp; omega), eO (Ne.symm hip)]
 obtain ⟨bs, T, l, e, B', g, nb⟩ := wN (hR0 := rfl) (p := p) (most := most) (wild := decide (d2 = 0)) (mood := d1) h10 (by omega) (by omega) (by omega) z3 z8 (1 + d3).toNat 0 [] _ 4 B (by omega) (by simp; omega) (fun b hb => nomatch hb)
 have nb' : bs.length = (1 + d3).toNat := by rw [nb]; simp
 have hm : (bs.length : Int) = 1 + d3 := by omega
 rw [show ([PL [4, 1 + d3]] : aM) = [.lst [.int 4, .int (1 + d3)]] from rfl, show PL k3 = .lst (k3.map D.int) from rfl] at e
 simp! [e, zU B'.bod];obtain ⟨ks', hk, hkl⟩ := B'.pool;have hlen := B'.len;have et : (T.set (S.length + 1) Cell.dead).take S.length = S.set p (PL ks') := by
  apply iN
  intro i;rw [dO]
  by_cases hi : i < S.length
  ·rw [if_pos hi, eO (by omega)]
   by_cases hip : i = p
   ·rw [hip, hk, jU hP.1]
   ·rw [eO (Ne.symm hip)]; exact B'.old i hi hip
  ·rw [if_neg hi, IV (by simp; omega)]
 refine ⟨bs, ks', ?_, ⟨by omega, by omega, fun b hb => ?_⟩, fun b hb => (g b hb).2.1, by omega, by omega, fun b hb => by rw [hm]; exact (g b hb).2.2⟩
 ·show trunc S.length (.ok (.dat (.lst (bls bs))) (T.set (S.length + 1) Cell.dead)) = _
  dsimp only [trunc];rw [et];have : ((S.set p (PL ks')).all fun c => c.below S.length) = true := bZ.mpr fun c hc => (LS.set ls : LS (S.set p (PL ks'))) c hc _
  simp only [Vl.below, this, sH, if_true]
 ·have := (g b hb).2.1
  rw [hm];exact ⟨(g b hb).1, by omega⟩
def Fx : List Str := ["NoBook", "NoCall", "NoCommand", "NoEquation", "NoEquations", "NoPath", "NoProcedure", "NoRows", "NoRun", "TooMany"]
def xU (n : Int) : Nat -> List PH.D -> Option Nat
 | _, [] => none
 | i, d :: r => if oQ d n = true then xU n (i + 1) r else some i
section
variable {S : aM} {bs : List (List Stt)} {n : Nat}
theorem HN {a1 : Option Vl} {i : Nat} {d : PH.D} (hb : bs.length <= 10) (hp : d.Pl) (hh : d.ht <= 64) :
  (oQ d bs.length = true -> cM [some (.dat (cC bs)), a1, some (.dat (.int (i : Int))), some (.dat d)] S = .next [some (.dat (cC bs)), a1, none, none] S) /\
  (oQ d bs.length = false -> cM [some (.dat (cC bs)), a1, some (.dat (.int (i : Int))), some (.dat d)] S = .err (pJ (i : Int)) [some (.dat (cC bs)), a1, some (.dat (.int (i : Int))), some (.dat d)] S) := by
 obtain ⟨c1, c2⟩ := chk62 (S := S) hb hp hh;refine ⟨fun h => ?_, fun h => ?_⟩
 ·have ck := c1 h
  have w : (eV (aO cL (aB (aC 0) (aB (aC 3) aI)))) [some (.dat (cC bs)), a1, some (.dat (.int (i : Int))), some (.dat d)] S = .next [some (.dat (cC bs)), a1, some (.dat (.int (i : Int))), some (.dat d)] S := by
   simp! [ck]
  unfold cM;simp! [L7, w, J4]
 ·obtain ⟨x, ck⟩ := c2 h
  have w : (eV (aO cL (aB (aC 0) (aB (aC 3) aI)))) [some (.dat (cC bs)), a1, some (.dat (.int (i : Int))), some (.dat d)] S = .err (J0 x) [some (.dat (cC bs)), a1, some (.dat (.int (i : Int))), some (.dat d)] S := by
   simp! [ck]
  have r := Im (S := S) (i := (i : Int)) (ρ := [some (.dat (cC bs)), a1, some (.dat (.int (i : Int))), some (.dat d)]) rfl;have k : Kl ["NoBook", "NoCall", "NoCommand", "NoEquation", "NoEquations", "NoPath", "NoProcedure", "NoRows", "NoRun", "TooMany"] "NoEquation" (dR "NoEquations" ["index"] (aB (aC 2) aI)) (.err (J0 x) [some (.dat (cC bs)), a1, some (.dat (.int (i : Int))), some (.dat d)] S) = .err (pJ (i : Int)) [some (.dat (cC bs)), a1, some (.dat (.int (i : Int))), some (.dat d)] S := by
   unfold Kl J0;dsimp only;rw [if_pos (by decide), if_pos rfl, r]
  unfold cM;simp! [L7, w, k]
theorem C8 {a1 : Option Vl} (hb : bs.length <= 10) : ∀ (ts : List PH.D) (i : Nat), (∀ d ∈ ts, d.Pl /\ d.ht <= 64) ->
  (xU bs.length i ts = none -> loop (.tp [2, 3]) cM (cJ i ts) [some (.dat (cC bs)), a1, none, none] S = .next [some (.dat (cC bs)), a1, none, none] S) /\
  ∀ j : Nat, xU bs.length i ts = some j -> ∃ ρ, loop (.tp [2, 3]) cM (cJ i ts) [some (.dat (cC bs)), a1, none, none] S = .err (pJ (j : Int)) ρ S
 | [], i, _ => ⟨fun _ => rfl, fun j h => by cases h⟩
 | d :: r, i, h => by
  obtain ⟨hp, hh⟩ := h d (aY ..);obtain ⟨t1, t2⟩ := HN (S := S) (a1 := a1) (i := i) hb hp hh;obtain ⟨i1, i2⟩ := C8 (a1 := a1) hb r (i + 1) fun d hd => h d (aV _ hd)
  cases g : oQ d bs.length with
  | true =>
   have st := t1 g;have e : xU bs.length i (d :: r) = xU bs.length (i + 1) r := by rw [xU, if_pos g]
   rw [e];refine ⟨fun q => ?_, fun j q => ?_⟩
   ·rw [cJ, <- i1 q]
    exact iQ (ρ1 := [some (.dat (cC bs)), a1, some (.dat (.int (i : Int))), some (.dat d)]) rfl st
   ·obtain ⟨ρ, l⟩ := i2 j q
    refine ⟨ρ, ?_⟩
    rw [cJ, <- l];exact iQ (ρ1 := [some (.dat (cC bs)), a1, some (.dat (.int (i : Int))), some (.dat d)]) rfl st
  | false =>
   have st := t2 g;have e : xU bs.length i (d :: r) = some i := by rw [xU, if_neg (by rw [g]; simp)]
   rw [e];refine ⟨fun q => (by cases q), fun j q => ?_⟩
   cases q;refine ⟨[some (.dat (cC bs)), a1, some (.dat (.int (i : Int))), some (.dat d)], ?_⟩
   rw [cJ, loop, show sJ (.tp [2, 3]) (.dat (.tup [.int (i : Int), d])) [some (.dat (cC bs)), a1, none, none] = some [some (.dat (cC bs)), a1, some (.dat (.int (i : Int))), some (.dat d)] from rfl]
   dsimp only;rw [st]
def eL (n : Int) (d : PH.D) : Option Int := match d with
 | .lst ts => (xU n 0 ts).map fun k : Nat => (k : Int)
 | _ => some (-1)
def CG (d : PH.D) : Prop := d.Pl /\ d.ht <= 12
theorem Fz {d : PH.D} (hb : bs.length <= 10) (h : CG d) :
  (eL bs.length d = none -> dX [.dat (cC bs), .dat d] S = .ok (.dat .non) S) /\
  ∀ i : Int, eL bs.length d = some i -> dX [.dat (cC bs), .dat d] S = .err (pJ i) S := by
 by_cases hl : ∃ ts, d = .lst ts
 ·obtain ⟨ts, rfl⟩ := hl
  have hh : PH.D.hts ts + 1 <= 12 := h.2;obtain ⟨l1, l2⟩ := C8 (S := S) (a1 := some (.dat (.lst ts))) hb ts 0 fun d hd => ⟨pH h.1.2 d hd, by have := nS (k := 11) (by omega) d hd; omega⟩
  have en : ∀ {ρ : Ev} {v : Option Vl}, sO (aC 1) (v :: some (.dat (.lst ts)) :: ρ) S = .ok (cJ 0 ts) S := fun {ρ v} => rfl
  have ed : eL bs.length (.lst ts) = (xU bs.length 0 ts).map fun k : Nat => (k : Int) := rfl
  have il : ∀ S, fIsi "list" (.dat (.lst ts)) S = .ok (.dat (.bl true)) S := fun _ => rfl
  rw [ed, nL]; unfold eM;cases q : xU bs.length 0 ts with
  | none =>
   refine ⟨fun _ => ?_, fun i e => (by cases e)⟩
   have lp := l1 q;simp! [il, en, lp];rfl
  | some j =>
   refine ⟨fun e => (by cases e), fun i e => ?_⟩
   cases e;obtain ⟨ρ, lp⟩ := l2 j q;simp! [il, en, lp];rfl
 ·have ed : eL bs.length d = some (-1) := by
   unfold eL;split
   ·rename_i ts
    exact absurd ⟨ts, rfl⟩ hl
   ·rfl
  rw [ed];refine ⟨fun e => (by cases e), fun i e => ?_⟩
  cases e;have r : dR "NoEquations" ["index"] (aB (m1 oS (mC (.int 1))) aI) [some (.dat (cC bs)), some (.dat d), none, none] S = .err (pJ (-1)) [some (.dat (cC bs)), some (.dat d), none, none] S := rfl;rw [nL]; unfold eM;have := h.1;cases d with
  | lst xs => exact absurd ⟨xs, rfl⟩ hl
  | ins c ns xs => exact this.elim
  | dct => exact this.elim
  | opq _ => exact this.elim
  | _ =>
   simp! [r];rfl
theorem NP {d : PH.D} (hb : bs.length <= 10) (h : CG d) :
  (eL bs.length d = none -> fU [.dat (cC bs), .dat d, .dat .non] S = .ok (.dat (.tup [.str "form"])) S) /\
  ∀ i : Int, eL bs.length d = some i -> fU [.dat (cC bs), .dat d, .dat .non] S = .err (pJ i) S := by
 obtain ⟨c1, c2⟩ := Fz (S := S) hb h;have ist : rS [.dat (cC bs), .dat .non] S = .ok (.dat (.bl false)) S := by
  rw [HS]; unfold rY;have i : ∀ S, fIsi "dict" (.dat .non) S = .ok (.dat (.bl false)) S := fun _ => rfl
  simp! [i];rfl
 have tf : lY [.dat (cC bs), .dat .non] S = .ok (.dat (.tup [.str "form"])) S := by
  rw [Ci]; unfold mG;simp! [ist];rfl
 have nn : ∀ S, lH true (.dat (.tup [.str "form"])) (.dat .non) S = .ok (.dat (.bl true)) S := fun _ => rfl
 refine ⟨fun q => ?_, fun i q => ?_⟩
 ·have ck := c1 q
  rw [vW]; unfold jP;simp! [ck, tf, nn];rfl
 ·have ck := c2 i q
  rw [vW]; unfold jP;simp! [ck];rfl
structure Few (bs : List (List Stt)) : Prop where
 g : Good bs
 f : (EY (CC 0 bs)).length <= 5
theorem Few.len {bs : List (List Stt)} (F : Few bs) : bs.length <= 10 := by have := F.g.l3; omega
theorem DX {d : PH.D} (F : Few bs) (ls : LS S) (h : CG d) :
  (eL bs.length d = none -> eG [.dat (cC bs), .dat d] S = .ok (.dat (.lst (EY (CC 0 bs)))) S) /\
  ∀ i : Int, eL bs.length d = some i -> eG [.dat (cC bs), .dat d] S = .err (pJ i) S := by
 obtain ⟨c1, c2⟩ := Fz (S := S) F.len h;have ca := M8 (S := S) (bs := bs) ls (show 3 <= 9 by omega) (fun b hb => ⟨F.g.ok b hb, by have := (F.g.gd b hb).2; omega⟩) F.g.l3
 have hf := F.f;have hi : qV S "Book" "calls" (.dat (cC bs)) = true := rfl;refine ⟨fun q => ?_, fun i q => ?_⟩
 ·have ck := c1 q
  rw [pX]; unfold fQ;simp! [ck, Ni hi, ca, decide_eq_false (show ¬ (5 : Int) < ((EY (CC 0 bs)).length : Int) by omega)]
  rfl
 ·have ck := c2 i q
  rw [pX]; unfold fQ;simp! [ck];rfl
theorem Mg {d : PH.D} (F : Few bs) (ls : LS S) (h : CG d) :
  (eL bs.length d = none -> eJ [.dat (cC bs), .dat d, .dat .non] S = .ok (.dat (.tup [.str "form"])) S) /\
  ∀ i : Int, eL bs.length d = some i -> eJ [.dat (cC bs), .dat d, .dat .non] S = .err (pJ i) S := by
 obtain ⟨c1, c2⟩ := DX (S := S) F ls h;have ir : lZ [.dat .non] S = .ok (.dat (.bl false)) S := by
  rw [Cj]; unfold mH;have i : ∀ S, fIsi "tuple" (.dat .non) S = .ok (.dat (.bl false)) S := fun _ => rfl
  simp! [i];rfl
 refine ⟨fun q => ?_, fun i q => ?_⟩
 ·have ck := c1 q
  rw [sS]; unfold gY;simp! [ck, ir];rfl
 ·have ck := c2 i q
  rw [sS]; unfold gY;simp! [ck];rfl
theorem Lu {d : PH.D} (F : Few bs) (ls : LS S) (h : CG d) {i : Int} (q : eL bs.length d = some i) : eY [.dat (cC bs), .dat d] S = .err (pJ i) S := by
 have h1 := (DX (S := S ++ [.lst []]) F ls.app h).2 i q;rw [A5]; unfold iY;simp! [h1];have q : (trunc S.length (Res.err (pJ i) (S ++ [Cell.lst []]) : Res Vl)) = .err (pJ i) S := by
  unfold trunc;dsimp only;rw [List.take_left, if_pos (LS.all ls)]
 exact q
end
def Fb : List HL := [("NoEquations", 6, [(4, .f "index"), (5, .is "HomeError" true)])]
abbrev AY : FS := bJ (mB (aX gC (aC 2) (mC (.int 0)))) (bL (aO fU (aB (aC 0) (aB (aC 1) (aB (mC .non) aI)))) (.nm 3)) (bJ (mB (aX gC (aC 2) (mC (.int 1)))) (bL (aO eJ (aB (aC 0) (aB (aC 1) (aB (mC .non) aI)))) (.nm 3)) (bL (aO eY (aB (aC 0) (aB (aC 1) aI))) (.nm 3)))
def jE (o : Option Int) : PH.D := match o with
 | some i => .tup [.str "refused", .int i]
 | none => .tup [.str "told", .tup [.str "form"]]
section
variable {S : aM} {b t d : PH.D} {j : Int}
def FH (j : Int) (b t : PH.D) (S : aM) : Res Vl := if j = 0 then fU [.dat b, .dat t, .dat .non] S else if j = 1 then eJ [.dat b, .dat t, .dat .non] S else eY [.dat b, .dat t] S
theorem Ll (h : FH j b t S = .ok (.dat d) S) : AY [some (.dat b), some (.dat t), some (.dat (.int j)), some (.dat .non), some (.dat .non), some (.dat (.bl true)), none] S = .next [some (.dat b), some (.dat t), some (.dat (.int j)), some (.dat d), some (.dat .non), some (.dat (.bl true)), none] S := by
 unfold FH at h;unfold AY;split at h
 ·rename_i q
  simp! [decide_eq_true q, h]
 ·rename_i q
  split at h
  ·rename_i q1
   simp! [decide_eq_false q, decide_eq_true q1, h]
  ·rename_i q1
   simp! [decide_eq_false q, decide_eq_false q1, h]
theorem JY {e : Er} (h : FH j b t S = .err e S) : AY [some (.dat b), some (.dat t), some (.dat (.int j)), some (.dat .non), some (.dat .non), some (.dat (.bl true)), none] S = .err e [some (.dat b), some (.dat t), some (.dat (.int j)), some (.dat .non), some (.dat .non), some (.dat (.bl true)), none] S := by
 unfold FH at h;unfold AY;split at h
 ·rename_i q
  simp! [decide_eq_true q, h]
 ·rename_i q
  split at h
  ·rename_i q1
   simp! [decide_eq_false q, decide_eq_true q1, h]
  ·rename_i q1
   simp! [decide_eq_false q, decide_eq_false q1, h]
theorem Jy {ρ : Ev} : Km Fx Fb (.next ρ S) = .next ρ S := rfl
theorem MV {i : Int} {v0 v1 v2 v3 v4 v5 v6 : Option Vl} : Km Fx Fb (.err (pJ i) [v0, v1, v2, v3, v4, v5, v6] S) = .next [v0, v1, v2, v3, some (.dat (.int i)), some (.dat (.bl true)), none] S := by
 unfold Km;dsimp only;rw [if_pos ⟨(by show (Str.ofString "NoEquations") ∈ Fx; decide), fun h hh => by
  simp only [Fb, bN, fK, or_false] at hh;rw [hh]
  show (Str.ofString "NoEquations") ∈ Fx
  decide⟩]
 unfold Fb uW;rw [if_pos (by rfl), if_pos (by show 6 < 7; decide)]
 rfl
theorem OY (h : FH j b t S = .ok (.dat d) S) : jV [.dat b, .dat t, .dat (.int j)] S = .ok (.dat (.tup [.str "told", d])) S := by
 have h' : AG Fx AY Fb [some (.dat b), some (.dat t), some (.dat (.int j)), some (.dat .non), some (.dat .non), some (.dat (.bl true)), none] S = .next [some (.dat b), some (.dat t), some (.dat (.int j)), some (.dat d), some (.dat .non), some (.dat (.bl true)), none] S := by rw [L8, Ll h, Jy]
 have nn : ∀ S, lH true (.dat .non) (.dat .non) S = .ok (.dat (.bl false)) S := fun _ => rfl
 unfold Fx Fb AY at h';rw [CK]; unfold oX;simp! [h', nn];rfl
theorem MI {i : Int} (h : FH j b t S = .err (pJ i) S) : jV [.dat b, .dat t, .dat (.int j)] S = .ok (.dat (.tup [.str "refused", .int i])) S := by
 have h' : AG Fx AY Fb [some (.dat b), some (.dat t), some (.dat (.int j)), some (.dat .non), some (.dat .non), some (.dat (.bl true)), none] S = .next [some (.dat b), some (.dat t), some (.dat (.int j)), some (.dat .non), some (.dat (.int i)), some (.dat (.bl true)), none] S := by rw [L8, JY h, MV]
 have nn : ∀ S, lH true (.dat (.int i)) (.dat .non) S = .ok (.dat (.bl true)) S := fun _ => rfl
 unfold Fx Fb AY at h';rw [CK]; unfold oX;simp! [h', nn];rfl
theorem MJ {bs : List (List Stt)} (F : Few bs) (ls : LS S) (h : CG t) (hj : j = 0 \/ j = 1 \/ (j = 2 /\ eL bs.length t ≠ none)) : jV [.dat (cC bs), .dat t, .dat (.int j)] S = .ok (.dat (jE (eL bs.length t))) S := by
 have h1 := NP (S := S) F.len h;have h2 := Mg (S := S) F ls h;cases q : eL bs.length t with
 | none =>
  refine OY ?_
  unfold FH;rcases hj with rfl | rfl | ⟨_, hj⟩
  ·rw [if_pos rfl]; exact h1.1 q
  ·rw [if_neg (by decide), if_pos rfl]; exact h2.1 q
  ·exact absurd q hj
 | some i =>
  refine MI ?_
  unfold FH;rcases hj with rfl | rfl | ⟨rfl, hj⟩
  ·rw [if_pos rfl]; exact h1.2 i q
  ·rw [if_neg (by decide), if_pos rfl]; exact h2.2 i q
  ·rw [if_neg (by decide), if_neg (by decide)]; exact Lu F ls h q
end
section
variable {bs : List (List Stt)} {T T' : Nat -> Nat} {X : Nat} {S : aM} {qs : List Eqn} {G : List Plc -> List (List En)} {r : Option (List Plc) × List PH.D} {p : Nat} {ks : List Int}
theorem Kz {xs : List PH.D} {i : Int} (h0 : 0 <= i) (h1 : i < xs.length) : ∃ d, d ∈ xs /\ ∀ S : aM, cQ (.dat (.lst xs)) (.dat (.int i)) S = .ok (.dat d) S := by
 obtain ⟨n, rfl⟩ : ∃ n : Nat, i = (n : Int) := ⟨i.toNat, by omega⟩
 have hn : n < xs.length := by omega
 exact ⟨xs[n], eD hn, fun S => QM (cX hn)⟩
theorem add_l {xs ys : List PH.D} (h : xs.length + ys.length <= 900) : dD false (.dat (.lst xs)) (.dat (.lst ys)) S = .ok (.dat (.lst (xs ++ ys))) S := by
 rw [jX (sz (by omega))]
 rfl
end
def tR : List PH.D := [.non, .bl true, .int 0, .int (-1), .int 2, .str "left", .tup [], .lst [], .lst [.int 0, .int 0], .lst [.int 1, .int 0], .lst [.bl true], .lst [.int 0, .int 3], .lst [.lst [.int 0]], .tup [.int 0, .int 1], .lst [.int 0, .str "1"],
 .lst [.int 0, .int (-1)], .lst [.int 2, .int 1], .lst [.bl false, .int 1], .lst [.tup [.int 0, .int 0]], .lst [.tup [.int 0, .int 2]], .lst [.tup [.int 3, .int 0]], .lst [.tup [.int 0, .bl true]], .lst [.lst [.int 0, .int 0]], .lst [.tup [.int 0, .int 0, .int 0]]]
def Sm (d : PH.D) : Prop := d.Pl /\ d.ht <= 5 /\ ∀ ds, d = .lst ds -> ds.length <= 3
theorem Cy : ∀ d ∈ tR, Sm d := by
 have hs : PyData.strOk (Str.ofString "left") = true := by decide +kernel
 have h1 : PyData.strOk (Str.ofString "1") = true := by decide +kernel
 intro d hd;simp only [tR, bN, fK, or_false] at hd;rcases hd with rfl | rfl | rfl | rfl | rfl | rfl | rfl | rfl | rfl | rfl | rfl | rfl | rfl | rfl | rfl | rfl | rfl | rfl | rfl | rfl | rfl | rfl | rfl | rfl
 all_goals
  refine ⟨?_, by simp [PH.D.ht, PH.D.hts], fun ds e => ?_⟩
  ·simp [PH.D.Pl, PH.D.Pls, hs, h1]
  ·cases e <;> simp
section
variable {S : aM}
theorem Fy {ds : List PH.D} (hp : (PH.D.lst ds).Pl) (hh : (PH.D.lst ds).ht < 10) : fP [.dat (.lst ds)] S = .ok (.cel S.length) (S ++ [.lst ds]) := by
 rw [yT];unfold lK;have hl := hp.1;have lc : CL true (.nm 1) gK (aO (cF 10) (aB (aC 1) aI)) [some (.dat (.lst ds)), none] [1] ds S = .ok (.cel S.length) (S ++ [.lst ds]) := by
  have := gN (cl := true) (t := .nm 1) (e := aO (cF 10) (aB (aC 1) aI)) (ρ := [some (.dat (.lst ds)), none]) (S := S) (f := fun x : PH.D => x) (g := fun x : PH.D => x) (xs := ds) (vs := [1]) (sz hl) fun x hx => ⟨_, rfl, by
   have hd' : PH.D.hts ds + 1 < 10 := hh;have h1 := wC hx;have e := qZ 10 (S := S) (wA hp.2 hx) (by omega)
   show (aO (cF 10) (aB (aC 1) aI)) [some (.dat (.lst ds)), some (.dat x)] S = _
   simp! [e]⟩
  rw [Ak] at this;exact this
 simp! [lc];rfl
theorem Jg {d : PH.D} (hp : d.Pl) (hh : d.ht < 10) (hn : ∀ ds, d ≠ .lst ds) : fP [.dat d] S = .ok (.dat d) S := by
 rw [yT];unfold lK;cases d with
 | non => simp! [if_true]; rfl
 | bl b => simp! [if_true]; rfl
 | int i => simp! [if_true]; rfl
 | str x => simp! [if_true]; rfl
 | ins _ _ _ => exact hp.elim
 | dct => exact hp.elim
 | opq _ => exact hp.elim
 | lst xs => exact absurd rfl (hn xs)
 | tup xs =>
  have hl := hp.1;have lc : CL false (.nm 1) gK (aO (cF 10) (aB (aC 1) aI)) [some (.dat (.tup xs)), none] [1] xs S = .ok (.dat (.lst xs)) S := by
   have := gN (cl := false) (t := .nm 1) (e := aO (cF 10) (aB (aC 1) aI)) (ρ := [some (.dat (.tup xs)), none]) (S := S) (f := fun x : PH.D => x) (g := fun x : PH.D => x) (xs := xs) (vs := [1]) (sz hl) fun x hx => ⟨_, rfl, by
    have hd' : PH.D.hts xs + 1 < 10 := hh;have h1 := wC hx;have e := qZ 10 (S := S) (wA hp.2 hx) (by omega)
    show (aO (cF 10) (aB (aC 1) aI)) [some (.dat (.tup xs)), some (.dat x)] S = _
    simp! [e]⟩
   rw [Ak] at this;exact this
  simp! [NY, lc];rfl
variable {p : Nat} {ks : List Int}
theorem Pk {v : Vl} : vD [some v, none] S = (bI (aO (cF 10) (aB (aX cQ (aC 1) (aO bA (aB (aC 0) (aB (m1 cK (aC 1)) aI)))) aI))) [some v, some (.dat (.lst tR))] S := (rfl)
theorem KY {v : Vl} : vC [some v, none] S = (bI (aO fP (aB (aX cQ (aC 1) (aO bA (aB (aC 0) (aB (m1 cK (aC 1)) aI)))) aI))) [some v, some (.dat (.lst tR))] S := (rfl)
theorem N2 (hP : PoolAt S p ks) : ∃ (d : PH.D) (ks' : List Int), uT [.cel p] S = .ok (.dat d) (S.set p (PL ks')) /\ Sm d /\ ks'.length = ks.length := by
 obtain ⟨j, k1, e1, h0, h1, l1⟩ := dW hP (k := 24) (by decide) (by decide)
 obtain ⟨d, hd, ix⟩ := Kz (xs := tR) h0 (by show j < 24; exact h1)
 have sm := Cy d hd;have cp := qZ 10 (S := S.set p (PL k1)) sm.1 (by have := sm.2.1; omega)
 refine ⟨d, k1, ?_, sm, l1⟩
 have hl24 : ∀ T, cK (.dat (.lst tR)) T = .ok (.dat (.int 24)) T := fun T => rfl
 rw [Jo, Pk];simp! [hl24, e1, ix, cp];rfl
theorem N1 (hP : PoolAt S p ks) : ∃ (d : PH.D) (ks' : List Int), Sm d /\ ks'.length = ks.length /\ ((∃ ds, d = .lst ds /\ oG [.cel p] S = .ok (.cel S.length) (S.set p (PL ks') ++ [.lst ds])) \/ ((∀ ds, d ≠ .lst ds) /\ oG [.cel p] S = .ok (.dat d) (S.set p (PL ks')))) := by
 obtain ⟨j, k1, e1, h0, h1, l1⟩ := dW hP (k := 24) (by decide) (by decide)
 obtain ⟨d, hd, ix⟩ := Kz (xs := tR) h0 (by show j < 24; exact h1)
 have sm := Cy d hd;refine ⟨d, k1, sm, l1, ?_⟩
 have hl24 : ∀ T, cK (.dat (.lst tR)) T = .ok (.dat (.int 24)) T := fun T => rfl
 by_cases hl : ∃ ds, d = .lst ds
 ·obtain ⟨ds, rfl⟩ := hl
  have cp := Fy (S := S.set p (PL k1)) sm.1 (by have := sm.2.1; omega)
  rw [aS] at cp;refine .inl ⟨ds, rfl, ?_⟩
  rw [Dg, KY];simp! [hl24, e1, ix, cp];rfl
 ·have hn : ∀ ds, d ≠ .lst ds := fun ds e => hl ⟨ds, e⟩
  have cp := Jg (S := S.set p (PL k1)) sm.1 (by have := sm.2.1; omega) hn
  refine .inr ⟨hn, ?_⟩
  rw [Dg, KY];simp! [hl24, e1, ix, cp];rfl
end
def Ee (L b c : Nat) (T : aM) (x : Vl) : Prop := (∃ d, x = .dat d /\ d.Pl /\ d.ht <= 6 /\ ∀ ds, d ≠ .lst ds) \/ ∃ n ds, x = .cel n /\ b <= n /\ n ≠ c /\ T[n]? = some (.lst ds) /\ ds.length <= L /\ ∀ d ∈ ds, d.Pl /\ d.ht <= 5
structure Rows (p c L : Nat) (S0 T : aM) (ks : List Int) (xs : List Vl) : Prop where
 hp : p < S0.length
 n2 : 2 <= ks.length
 hc : S0.length <= c
 pool : T[p]? = some (PL ks)
 row : T[c]? = some (.lv xs)
 l4 : xs.length = 4
 old : ∀ i, i < S0.length -> i ≠ p -> T[i]? = S0[i]?
 it : ∀ x ∈ xs, Ee L S0.length c T x
 ne : ∀ i j n : Nat, xs[i]? = some (.cel n) -> xs[j]? = some (.cel n) -> i = j
section
variable {p c L : Nat} {S0 T : aM} {ks : List Int} {xs : List Vl}
theorem AH {S : aM} {i : Nat} {x : Cell} (h : S[i]? = some x) : i < S.length := (aJ.mp h).1
theorem Rows.pl (R : Rows p c L S0 T ks xs) {k1 : List Int} (l1 : k1.length = ks.length) : Rows p c L S0 (T.set p (PL k1)) k1 xs := by
 have hp := R.hp;have hc := R.hc;have ns : ∀ i, i ≠ p -> (T.set p (PL k1))[i]? = T[i]? := fun i hi => eO (Ne.symm hi)
 refine ⟨R.hp, by have := R.n2; omega, R.hc, jU R.pool, ?_, R.l4, fun i hi hip => ?_, fun x hx => ?_, R.ne⟩
 ·rw [ns c (by omega)]; exact R.row
 ·rw [ns i hip]; exact R.old i hi hip
 ·rcases R.it x hx with h | ⟨n, ds, e, h1, h2, h3, h4⟩
  ·exact .inl h
  ·exact .inr ⟨n, ds, e, h1, h2, by rw [ns n (by omega)]; exact h3, h4⟩
theorem Rows.draw (R : Rows p c L S0 T ks xs) {k : Int} (h0 : 0 < k) (h1 : k < 1073741824) : ∃ (d : Nat) (T' : aM) (ks' : List Int), bA [.cel p, .dat (.int k)] T = .ok (.dat (.int (d : Int))) T' /\ (d : Int) < k /\ ks'.length = ks.length /\ Rows p c L S0 T' ks' xs /\ ∀ i, i ≠ p -> T'[i]? = T[i]? := by
 obtain ⟨d, k1, e, d0, d1, l1⟩ := dW (S := T) (p := p) (ks := ks) ⟨R.pool, R.n2⟩ h0 h1;obtain ⟨n, rfl⟩ : ∃ n : Nat, d = (n : Int) := ⟨d.toNat, by omega⟩
 exact ⟨n, T.set p (PL k1), k1, e, d1, l1, R.pl l1, fun i hi => eO (Ne.symm hi)⟩
theorem Rows.mono (R : Rows p c L S0 T ks xs) {L' : Nat} (h : L <= L') : Rows p c L' S0 T ks xs := ⟨R.hp, R.n2, R.hc, R.pool, R.row, R.l4, R.old, fun x hx => by
 rcases R.it x hx with h1 | ⟨n, ds, e, h1, h2, h3, h4, h5⟩
 ·exact .inl h1
 ·exact .inr ⟨n, ds, e, h1, h2, h3, by omega, h5⟩, R.ne⟩
theorem Rows.put (R : Rows p c L S0 T ks xs) {a : Nat} {x : Vl} (hx : Ee L S0.length c T x) (hn : ∀ (n j : Nat), x = .cel n -> xs[j]? ≠ some (.cel n)) : Rows p c L S0 (T.set c (.lv (xs.set a x))) ks (xs.set a x) := by
 have hp := R.hp;have hc := R.hc;have ns : ∀ i, i ≠ c -> (T.set c (.lv (xs.set a x)))[i]? = T[i]? := fun i hi => eO (Ne.symm hi)
 have up : ∀ y, Ee L S0.length c T y -> Ee L S0.length c (T.set c (.lv (xs.set a x))) y := fun y h => by
  rcases h with h | ⟨n, ds, e, h1, h2, h3, h4⟩
  ·exact .inl h
  ·exact .inr ⟨n, ds, e, h1, h2, by rw [ns n h2]; exact h3, h4⟩
 refine ⟨R.hp, R.n2, R.hc, by rw [ns p (by omega)]; exact R.pool, jU R.row, by rw [aS]; exact R.l4, fun i hi hip => by rw [ns i (by omega)]; exact R.old i hi hip, fun y hy => ?_, fun i j n hi hj => ?_⟩
 ·rcases rG hy with h | rfl
  ·exact up y (R.it y h)
  ·exact up _ hx
 ·rw [aQ] at hi hj
  split at hi
  ·rename_i q1
   split at hi
   ·split at hj
    ·rename_i q2
     rw [<- q1, <- q2]
    ·exact absurd hj (hn n j (Option.some.inj hi))
   ·cases hi
  ·split at hj
   ·split at hj
    ·exact absurd hi (hn n i (Option.some.inj hj))
    ·cases hj
   ·exact R.ne i j n hi hj
theorem Rows.push (R : Rows p c L S0 T ks xs) {x : Cell} : Rows p c L S0 (T ++ [x]) ks xs := by
 have hp := AH R.pool;have hc := AH R.row;have ap : ∀ i, i < T.length -> (T ++ [x])[i]? = T[i]? := fun i hi => aR hi
 refine ⟨R.hp, R.n2, R.hc, by rw [ap p hp]; exact R.pool, by rw [ap c hc]; exact R.row, R.l4, fun i hi hip => by rw [ap i (by have := R.hc; omega)]; exact R.old i hi hip, fun y hy => ?_, R.ne⟩
 rcases R.it y hy with h | ⟨n, ds, e, h1, h2, h3, h4⟩
 ·exact .inl h
 ·exact .inr ⟨n, ds, e, h1, h2, by rw [ap n (AH h3)]; exact h3, h4⟩
theorem Rows.upd (R : Rows p c L S0 T ks xs) {n a : Nat} {ds : List PH.D} (h : xs[a]? = some (.cel n)) (hl : ds.length <= L) (hd : ∀ d ∈ ds, d.Pl /\ d.ht <= 5) : Rows p c L S0 (T.set n (.lst ds)) ks xs := by
 have hx := R.it _ (eK h);rcases hx with ⟨d, e, _⟩ | ⟨n', ds', e, h1, h2, h3, h4, h5⟩
 ·cases e
 ·cases e
  have hp := R.hp;have ns : ∀ i, i ≠ n -> (T.set n (.lst ds))[i]? = T[i]? := fun i hi => eO (Ne.symm hi)
  refine ⟨R.hp, R.n2, R.hc, by rw [ns p (by omega)]; exact R.pool, by rw [ns c (Ne.symm h2)]; exact R.row, R.l4, fun i hi hip => by rw [ns i (by omega)]; exact R.old i hi hip, fun y hy => ?_, R.ne⟩
  rcases R.it y hy with h | ⟨m, es, e, g1, g2, g3, g4⟩
  ·exact .inl h
  ·by_cases hm : m = n
   ·subst hm
    exact .inr ⟨m, ds, e, g1, g2, jU g3, hl, hd⟩
   ·exact .inr ⟨m, es, e, g1, g2, by rw [ns m hm]; exact g3, g4⟩
theorem Rows.get (R : Rows p c L S0 T ks xs) {a : Nat} (h : a < 4) : ∃ x, xs[a]? = some x /\ Ee L S0.length c T x := by
 have ha : a < xs.length := by rw [R.l4]; exact h
 exact ⟨xs[a], cX ha, R.it _ (eD ha)⟩
theorem Rows.ix (R : Rows p c L S0 T ks xs) {a : Nat} {x : Vl} (h : xs[a]? = some x) : oV (.cel c) (.dat (.int (a : Int))) T = .ok x T := g_ixV R.row ((fR rfl).trans h)
theorem Rows.set3 (R : Rows p c L S0 T ks xs) {a : Nat} {x : Vl} {ρ : Ev} (h : a < 4) : Ar ρ x (.cel c) (.dat (.int (a : Int))) T = .next ρ (T.set c (.lv (xs.set a x))) := by
 unfold Ar setV;simp only [R.row];rw [if_pos ⟨by omega, by rw [cZ, R.l4]; exact h⟩, cZ]
theorem Rows.fresh (R : Rows p c L S0 T ks xs) : ∀ j : Nat, xs[j]? ≠ some (.cel T.length) := fun j hj => by
 rcases R.it _ (eK hj) with ⟨d, e, _⟩ | ⟨n, ds, e, h1, h2, h3, h4⟩
 ·cases e
 ·cases e
  have := AH h3;omega
theorem Ia (R : Rows p c L S0 T ks xs) (h3 : 3 <= L) {a : Nat} (ha : a < 4) {v1 v3 v5 v6 v7 : Option Vl} : ∃ (T' : aM) (ks' : List Int) (xs' : List Vl),
  (Bl (aO oG (aB (aC 0) aI)) (aC 2) (aC 4)) [some (.cel p), v1, some (.cel c), v3, some (.dat (.int (a : Int))), v5, v6, v7] T = .next [some (.cel p), v1, some (.cel c), v3, some (.dat (.int (a : Int))), v5, v6, v7] T' /\ Rows p c L S0 T' ks' xs' /\ ks'.length = ks.length := by
 obtain ⟨d, k1, sm, l1, h⟩ := N1 (S := T) (p := p) (ks := ks) ⟨R.pool, R.n2⟩;rcases h with ⟨ds, rfl, e⟩ | ⟨hn, e⟩
 ·have R1 := (R.pl l1).push (x := .lst ds)
  have hc := AH R.row;have hb := R.hc;have ll : ds.length <= 3 := sm.2.2 ds rfl;have hh : PH.D.hts ds + 1 <= 5 := sm.2.1;have io : Ee L S0.length c (T.set p (PL k1) ++ [.lst ds]) (.cel T.length) := .inr ⟨T.length, ds, rfl, by omega, by omega, by rw [bE (by rw [aS]; omega), aS, pY]; rfl, by omega, fun d hd => ⟨pH sm.1.2 d hd, by have := nS (k := 4) (by omega) d hd; omega⟩⟩
  have R2 := R1.put (a := a) io fun n j hn => by cases hn; exact R.fresh j
  have s3 := R1.set3 (x := .cel T.length) (ρ := [some (.cel p), v1, some (.cel c), v3, some (.dat (.int (a : Int))), v5, v6, v7]) ha;refine ⟨_, _, _, ?_, R2, l1⟩
  simp! [EVK, e, s3]
 ·have R1 := R.pl l1
  have io : Ee L S0.length c (T.set p (PL k1)) (.dat d) := .inl ⟨d, rfl, sm.1, by have := sm.2.1; omega, hn⟩
  have R2 := R1.put (a := a) io fun n j hn => by cases hn
  have s3 := R1.set3 (x := .dat d) (ρ := [some (.cel p), v1, some (.cel c), v3, some (.dat (.int (a : Int))), v5, v6, v7]) ha;refine ⟨_, _, _, ?_, R2, l1⟩
  simp! [EVK, e, s3]
def As : List PH.D := [.int (-1), .int 3, .bl true, .non, .tup [.int 0, .int 2], .tup [.int 0, .int 0], .tup [.int (-1), .int 0], .int 1]
theorem Gw : ∀ d ∈ As, d.Pl /\ d.ht <= 5 := by
 intro d hd;simp only [As, bN, fK, or_false] at hd;rcases hd with rfl | rfl | rfl | rfl | rfl | rfl | rfl | rfl
 all_goals exact ⟨by simp [PH.D.Pl, PH.D.Pls], by simp [PH.D.ht, PH.D.hts]⟩
theorem EX {ds : List PH.D} {lo hi : Option Int} : (cutD ds lo hi).length <= ds.length /\ ∀ d ∈ cutD ds lo hi, d ∈ ds := by
 unfold cutD;exact ⟨by rw [nF, List.length_drop]; omega, fun d hd => wY (oD hd)⟩
theorem Of {S : aM} {n : Nat} {cl : Bool} {xs : List PH.D} {lo hi : Option Int} (h : S[n]? = some (.lst xs)) : IH cl (.cel n) lo hi S = newL cl (cutD xs lo hi) S := by simp only [IH, hG, h]
theorem GN (R : Rows p c L S0 T ks xs) (h3 : 3 <= L) (hL : L <= 400) {q v3 v4 v5 : Option Vl} : ∃ (T' : aM) (ks' : List Int) (xs' : List Vl) (v5' : Option Vl),
  gU [some (.cel p), q, some (.cel c), v3, v4, v5, none, none] T = .next [some (.cel p), q, some (.cel c), none, none, v5', none, none] T' /\ Rows p c (2 * L + 1) S0 T' ks' xs' /\ ks'.length = ks.length := by
 obtain ⟨a, T1, k1, e1, a1, l1, R1, _⟩ := R.draw (k := 4) (by decide) (by decide)
 obtain ⟨b, T2, k2, e2, b1, l2, R2, _⟩ := R1.draw (k := 4) (by decide) (by decide)
 obtain ⟨x, hx, io⟩ := R2.get (a := a) (by omega)
 have ix := R2.ix hx;obtain ⟨To, ko, xo, eo, Ro, lo⟩ := Ia R2 h3 (a := a) (by omega) (v1 := q) (v3 := v3) (v5 := some (.dat (.int (b : Int)))) (v6 := none) (v7 := none)
 have Ro' := Ro.mono (show L <= 2 * L + 1 by omega)
 rw [gU]
 by_cases hb : (b : Int) = 0
 ·refine ⟨To, ko, xo, some (.dat (.int (b : Int))), ?_, Ro', by omega⟩
  simp! [e1, e2, decide_eq_true hb, eo]
 ·rcases io with ⟨d, rfl, hp, hh, hn⟩ | ⟨n, ds, rfl, g1, g2, g3, g4, g5⟩
  ·refine ⟨To, ko, xo, some (.dat (.int (b : Int))), ?_, Ro', by omega⟩
   cases d with
   | lst xs => exact absurd rfl (hn xs)
   | ins c ns xs => exact hp.elim
   | dct => exact hp.elim
   | opq _ => exact hp.elim
   | _ => simp! [e1, e2, decide_eq_false hb, ix, eo]
  ·have il : fIsi "list" (.cel n) T2 = .ok (.dat (.bl true)) T2 := by
    simp only [fIsi, kindOf, g3];rfl
   have hlen := Bu g3
   by_cases hz : (ds.length : Int) = 0
   ·refine ⟨To, ko, xo, some (.dat (.int (b : Int))), ?_, Ro', by omega⟩
    simp! [e1, e2, decide_eq_false hb, ix, g3, hlen, decide_eq_true hz, eo]
   ·by_cases hb1 : (b : Int) = 1
    ·obtain ⟨i, T3, k3, e3, i1, l3, R3, s3⟩ := R2.draw (k := (ds.length : Int) + 1) (by omega) (by omega)
     have g3' : T3[n]? = some (.lst ds) := by rw [s3 n (by have := R.hp; omega)]; exact g3
     have ix3 := R3.ix hx;have hlen3 := Bu g3';obtain ⟨j, T4, k4, e4, j1, l4, R4, s4⟩ := R3.draw (k := (ds.length : Int)) (by omega) (by omega)
     have g4' : T4[n]? = some (.lst ds) := by rw [s4 n (by have := R.hp; omega)]; exact g3'
     have hj : j < ds.length := by omega
     have ixd : cQ (.cel n) (.dat (.int (j : Int))) T4 = .ok (.dat ds[j]) T4 := P8 g4' ((fR rfl).trans (cX hj));have ins := HD (k := i) (d := ds[j]) g4' (hQ g4 (hQ hL (by decide))) (by omega)
     have R5 := (R4.mono (show L <= 2 * L + 1 by omega)).upd (ds := ds.take i ++ [ds[j]] ++ ds.drop i) hx (by simp; omega) fun d hd => by
      rcases bT.mp hd with hd | hd
      ·rcases bT.mp hd with hd | hd
       ·exact g5 d (oD hd)
       ·rw [cU.mp hd]; exact g5 _ (eD hj)
      ·exact g5 d (wY hd)
     refine ⟨_, k4, xs, some (.dat (.int (b : Int))), ?_, R5, by omega⟩
     simp! [e1, e2, decide_eq_false hb, ix, g3, hlen, decide_eq_false hz, decide_eq_true hb1, LY, EM g3, e3, EL, ix3, hlen3, e4, ixd, ins]
    ·by_cases hb2 : (b : Int) = 2
     ·obtain ⟨j, T4, k4, e4, j1, l4, R4, s4⟩ := R2.draw (k := (ds.length : Int)) (by omega) (by omega)
      have g4' : T4[n]? = some (.lst ds) := by rw [s4 n (by have := R.hp; omega)]; exact g3
      have hj : j < ds.length := by omega
      have pop := Lc (k := j) g4' (by omega) (cX hj)
      have R5 := (R4.mono (show L <= 2 * L + 1 by omega)).upd (ds := ds.take j ++ ds.drop (j + 1)) hx (by simp; omega) fun d hd => by
       rcases bT.mp hd with hd | hd
       ·exact g5 d (oD hd)
       ·exact g5 d (wY hd)
      refine ⟨_, k4, xs, some (.dat (.int (b : Int))), ?_, R5, by omega⟩
      simp! [e1, e2, decide_eq_false hb, ix, g3, hlen, decide_eq_false hz, decide_eq_false hb1, decide_eq_true hb2, NV, LM g3, e4, pop]
     ·obtain ⟨j, T3, k3, e3, j1, l3, R3, s3⟩ := R2.draw (k := (ds.length : Int)) (by omega) (by omega)
      have g3' : T3[n]? = some (.lst ds) := by rw [s3 n (by have := R.hp; omega)]; exact g3
      obtain ⟨m, T4, k4, e4, m1, l4, R4, s4⟩ := R3.draw (k := 8) (by decide) (by decide)
      have g4' : T4[n]? = some (.lst ds) := by rw [s4 n (by have := R.hp; omega)]; exact g3'
      obtain ⟨d, hd, ixm⟩ := Kz (xs := As) (i := (m : Int)) (by omega) (by show (m : Int) < 8; exact m1)
      have ixm := ixm T4;have k8 : Bp false [.dat (.int (-1)), .dat (.int 3), .dat (.bl true), .dat .non, .dat (.tup [.int 0, .int 2]), .dat (.tup [.int 0, .int 0]), .dat (.tup [.int (-1), .int 0]), .dat (.int 1)] T3 = .ok (.dat (.lst As)) T3 := rfl;have ix4 := R4.ix hx;obtain ⟨A, hA⟩ : ∃ A, A = cutD ds none (some (j : Int)) := ⟨_, rfl⟩;obtain ⟨C, hC⟩ : ∃ C, C = cutD ds (some ((j : Int) + 1)) none := ⟨_, rfl⟩;have sA : IH false (.cel n) none (some (j : Int)) T4 = .ok (.dat (.lst A)) T4 := by rw [hA]; exact Of g4'
      have sC : IH false (.cel n) (some ((j : Int) + 1)) none T4 = .ok (.dat (.lst C)) T4 := by rw [hC]; exact Of g4'
      have lA := (EX (ds := ds) (lo := none) (hi := some (j : Int)));have lC := (EX (ds := ds) (lo := some ((j : Int) + 1)) (hi := none));rw [<- hA] at lA;rw [<- hC] at lC;have ad1 : dD false (.dat (.lst A)) (.dat (.lst [d])) T4 = .ok (.dat (.lst (A ++ [d]))) T4 := add_l (by have := lA.1; simp; omega)
      have ad2 : dD true (.dat (.lst (A ++ [d]))) (.dat (.lst C)) T4 = .ok (.cel T4.length) (T4 ++ [.lst (A ++ [d] ++ C)]) := by
       rw [jX (sz (by have := lA.1; have := lC.1; simp; omega))]
       rfl
      have R5 := (R4.mono (show L <= 2 * L + 1 by omega)).push (x := .lst (A ++ [d] ++ C))
      have hc := AH R4.row;have hb' := R4.hc;have io : Ee (2 * L + 1) S0.length c (T4 ++ [.lst (A ++ [d] ++ C)]) (.cel T4.length) := .inr ⟨T4.length, A ++ [d] ++ C, rfl, by omega, by omega, by rw [bE (bR _), pY]; rfl, by have := lA.1; have := lC.1; rw [bO, bO]; simp only [aW, cV]; omega, fun z hz => by
       rcases bT.mp hz with hz | hz
       ·rcases bT.mp hz with hz | hz
        ·exact g5 z (lA.2 z hz)
        ·rw [cU.mp hz]; exact Gw d hd
       ·exact g5 z (lC.2 z hz)⟩
      have R6 := R5.put (a := a) io fun n j hn => by cases hn; exact R4.fresh j
      have s6 : ∀ {ρ : Ev}, Ar ρ (.cel T4.length) (.cel c) (.dat (.int (a : Int))) (T4 ++ [.lst (A ++ [d] ++ C)]) = .next ρ _ := fun {ρ} => R5.set3 (x := .cel T4.length) (ρ := ρ) (by omega)
      refine ⟨_, k4, _, some (.dat (.int (b : Int))), ?_, R6, by omega⟩
      simp! [EVK, e1, e2, decide_eq_false hb, ix, g3, hlen, decide_eq_false hz, decide_eq_false hb1, decide_eq_false hb2, e3, k8, e4, ixm, ix4, sA, sC, ad1, ad2, s6]
end
structure Pw (p : Nat) (S0 T : aM) (ks : List Int) : Prop where
 hp : p < S0.length
 n2 : 2 <= ks.length
 pool : T[p]? = some (PL ks)
 len : S0.length <= T.length
 old : ∀ i, i < S0.length -> i ≠ p -> T[i]? = S0[i]?
theorem Pw.pl {p : Nat} {S0 T : aM} {ks k1 : List Int} (R : Pw p S0 T ks) (l1 : k1.length = ks.length) : Pw p S0 (T.set p (PL k1)) k1 := ⟨R.hp, by have := R.n2; omega, jU R.pool, by rw [aS]; exact R.len, fun i hi hip => by rw [eO (Ne.symm hip)]; exact R.old i hi hip⟩
theorem Pw.take {p : Nat} {S0 T : aM} {ks : List Int} (R : Pw p S0 T ks) : T.take S0.length = S0.set p (PL ks) := by
 have hl := R.len;have hp := R.hp
 apply iN
 intro i;rw [dO]
 by_cases hi : i < S0.length
 ·rw [if_pos hi]
  by_cases hip : i = p
  ·rw [hip, R.pool, aQ, if_pos rfl, if_pos hp]
  ·rw [eO (Ne.symm hip)]; exact R.old i hi hip
 ·rw [if_neg hi, IV (by simp; omega)]
theorem Pw.trunc {p : Nat} {S0 T : aM} {ks : List Int} {d : PH.D} (R : Pw p S0 T ks) (ls : LS S0) : trunc S0.length (.ok (.dat d) T) = .ok (.dat d) (S0.set p (PL ks)) := by
 have : ((S0.set p (PL ks)).all fun c => c.below S0.length) = true := bZ.mpr fun c hc => (LS.set ls : LS (S0.set p (PL ks))) c hc _
 dsimp only [PH.trunc];rw [R.take];simp only [Vl.below, this, sH, if_true]
section
variable {p c L : Nat} {S0 T : aM} {ks : List Int} {xs : List Vl}
theorem B5 {q v5 : Option Vl} : ∀ (is : List PH.D) (L : Nat) (T : aM) (ks : List Int) (xs : List Vl) (v5 : Option Vl), Rows p c L S0 T ks xs -> 3 <= L -> (L + 1) * 2 ^ is.length <= 401 -> ∃ (T' : aM) (ks' : List Int) (xs' : List Vl) (v5' : Option Vl),
  loop (.nm 3) gU is [some (.cel p), q, some (.cel c), none, none, v5, none, none] T = .next [some (.cel p), q, some (.cel c), none, none, v5', none, none] T' /\ Rows p c 400 S0 T' ks' xs' /\ ks'.length = ks.length
 | [], L, T, ks, xs, v5, R, _, h => ⟨T, ks, xs, v5, rfl, R.mono (by simp at h; omega), rfl⟩
 | i :: is, L, T, ks, xs, v5, R, h3, h => by
  have hp : 1 <= 2 ^ is.length := Nat.one_le_two_pow;have e2 : (L + 1) * 2 ^ (i :: is).length = (2 * L + 1 + 1) * 2 ^ is.length := by
   rw [aW, Nat.pow_succ, show 2 * L + 1 + 1 = (L + 1) * 2 by omega, Nat.mul_assoc, Nat.mul_comm 2]
  have hL : (2 * L + 1 + 1) * 1 <= (2 * L + 1 + 1) * 2 ^ is.length := Nat.mul_le_mul_left _ hp;obtain ⟨T1, k1, x1, v1, st, R1, l1⟩ := GN R h3 (by omega) (q := q) (v3 := some (.dat i)) (v4 := none) (v5 := v5)
  obtain ⟨T2, k2, x2, v2, lp, R2, l2⟩ := B5 (q := q) (v5 := v5) is (2 * L + 1) T1 k1 x1 v1 R1 (by omega) (by omega)
  refine ⟨T2, k2, x2, v2, ?_, R2, by omega⟩
  rw [<- lp];exact iQ (ρ1 := [some (.cel p), q, some (.cel c), some (.dat i), none, v5, none, none]) rfl st
theorem Lo {b c L : Nat} (hL : L <= 900) : ∀ (xs : List Vl) (T : aM), (∀ x ∈ xs, Ee L b c T x) -> (∀ i j n : Nat, xs[i]? = some (.cel n) -> xs[j]? = some (.cel n) -> i = j) ->
  ∃ (ds : List PH.D) (T' : aM), iI xs T = some (ds, T') /\ ds.length = xs.length /\ (∀ d ∈ ds, d.Pl /\ d.ht <= 6) /\ T'.length = T.length /\ ∀ i, i < b -> T'[i]? = T[i]?
 | [], T, _, _ => ⟨[], T, rfl, rfl, fun d h => (nomatch h), rfl, fun _ _ => rfl⟩
 | x :: r, T, h, hn => by
  have hn' : ∀ i j n : Nat, r[i]? = some (.cel n) -> r[j]? = some (.cel n) -> i = j := fun i j n h1 h2 => by
   have := hn (i + 1) (j + 1) n (by simpa using h1) (by simpa using h2)
   omega
  rcases h x (aY ..) with ⟨d, rfl, hp, hh, -⟩ | ⟨n, ds, rfl, h1, h2, h3, h4, h5⟩
  ·obtain ⟨es, T', e, le, he, lT, ho⟩ := Lo hL r T (fun x hx => h x (aV _ hx)) hn'
   refine ⟨d :: es, T', ?_, by rw [aW, aW, le], fun z hz => ?_, lT, ho⟩
   ·rw [iI, e]
   ·rcases bN.mp hz with rfl | hz
    ·exact ⟨hp, hh⟩
    ·exact he z hz
  ·have nr : ∀ x ∈ r, x ≠ .cel n := fun x hx e => by
    subst e;obtain ⟨j, hj⟩ := List.mem_iff_getElem?.mp hx;have := hn 0 (j + 1) n rfl (by simpa using hj)
    omega
   obtain ⟨es, T', e, le, he, lT, ho⟩ := Lo hL r (T.set n .dead) (fun x hx => by
    rcases h x (aV _ hx) with h | ⟨m, fs, e, g1, g2, g3, g4⟩
    ·exact .inl h
    ·have : m ≠ n := fun z => nr x hx (by rw [e, z])
     exact .inr ⟨m, fs, e, g1, g2, by rw [eO (Ne.symm this)]; exact g3, g4⟩) hn'
   refine ⟨.lst ds :: es, T', ?_, by rw [aW, aW, le], fun z hz => ?_, by rw [lT, aS], fun i hi => by rw [ho i hi, eO (by omega)]⟩
   ·rw [iI, h3]
    dsimp only;rw [e]
   ·rcases bN.mp hz with rfl | hz
    ·exact ⟨⟨by omega, BW fun d hd => (h5 d hd).1⟩, CN (AN fun d hd => (h5 d hd).2)⟩
    ·exact he z hz
theorem IZ {S : aM} (hP : PoolAt S p ks) (ls : LS S) {vs l r ps : List PH.D} (hv : (PH.D.lst vs).Pl /\ (PH.D.lst vs).ht <= 5 /\ vs.length <= 4) (hl : (PH.D.lst l).Pl /\ (PH.D.lst l).ht <= 5 /\ l.length <= 4) (hr : (PH.D.lst r).Pl /\ (PH.D.lst r).ht <= 5 /\ r.length <= 4) (hps : (PH.D.lst ps).Pl /\ (PH.D.lst ps).ht <= 5 /\ ps.length <= 4) :
  ∃ (d : PH.D) (ks' : List Int), jK [.cel p, .dat (.tup [.lst vs, .lst l, .lst r, .lst ps])] S = .ok (.dat d) (S.set p (PL ks')) /\ d.Pl /\ d.ht <= 8 /\ ks'.length = ks.length := by
 have hp : p < S.length := AH hP.1;obtain ⟨qd, hq⟩ : ∃ qd : PH.D, qd = .tup [.lst vs, .lst l, .lst r, .lst ps] := ⟨_, rfl⟩;have i0 : ∀ T, cQ (.dat qd) (.dat (.int 0)) T = .ok (.dat (.lst vs)) T := fun T => by rw [hq]; rfl
 have i1 : ∀ T, cQ (.dat qd) (.dat (.int 1)) T = .ok (.dat (.lst l)) T := fun T => by rw [hq]; rfl
 have i2 : ∀ T, cQ (.dat qd) (.dat (.int 2)) T = .ok (.dat (.lst r)) T := fun T => by rw [hq]; rfl
 have i3 : ∀ T, cQ (.dat qd) (.dat (.int 3)) T = .ok (.dat (.lst ps)) T := fun T => by rw [hq]; rfl
 have cp := Fy (S := S) hv.1 (by have := hv.2.1; omega)
 have f1 : oU true (.dat (.lst l)) (S ++ [Cell.lst vs]) = .ok (.cel (S.length + 1)) (S ++ [Cell.lst vs] ++ [Cell.lst l]) := by
  have : (S ++ [Cell.lst vs]).length = S.length + 1 := by simp
  rw [<- this]; rfl
 have f2 : oU true (.dat (.lst r)) (S ++ [Cell.lst vs] ++ [Cell.lst l]) = .ok (.cel (S.length + 2)) (S ++ [Cell.lst vs] ++ [Cell.lst l] ++ [Cell.lst r]) := by
  have : (S ++ [Cell.lst vs] ++ [Cell.lst l]).length = S.length + 2 := by simp
  rw [<- this]; rfl
 have f3 : oU true (.dat (.lst ps)) (S ++ [Cell.lst vs] ++ [Cell.lst l] ++ [Cell.lst r]) = .ok (.cel (S.length + 3)) (S ++ [Cell.lst vs] ++ [Cell.lst l] ++ [Cell.lst r] ++ [Cell.lst ps]) := by
  have : (S ++ [Cell.lst vs] ++ [Cell.lst l] ++ [Cell.lst r]).length = S.length + 3 := by simp
  rw [<- this]; rfl
 obtain ⟨x0, hx0⟩ : ∃ x0 : List Vl, x0 = [.cel S.length, .cel (S.length + 1), .cel (S.length + 2), .cel (S.length + 3)] := ⟨_, rfl⟩;obtain ⟨T0, hT0⟩ : ∃ T0 : aM, T0 = S ++ [Cell.lst vs] ++ [Cell.lst l] ++ [Cell.lst r] ++ [Cell.lst ps] ++ [Cell.lv x0] := ⟨_, rfl⟩;have mk : ∀ {ρ : Ev}, lk ρ 1 = some (.dat qd) -> (Ht (aB (aO fP (aB (aX cQ (aC 1) (mC (.int 0))) aI)) (aB (m1 (oU true) (aX cQ (aC 1) (mC (.int 1)))) (aB (m1 (oU true) (aX cQ (aC 1) (mC (.int 2)))) (aB (m1 (oU true) (aX cQ (aC 1) (mC (.int 3)))) aI))))) ρ S = .ok (.cel (S.length + 4)) T0 := fun {ρ} h => by
  have ln : (S ++ [Cell.lst vs] ++ [Cell.lst l] ++ [Cell.lst r] ++ [Cell.lst ps]).length = S.length + 4 := by simp
  unfold Ht;simp! [h, i0, i1, i2, i3, cp, f1, f2, f3];rw [if_pos (by decide)]
  unfold newV;rw [hT0, hx0, ln]
 have at0 : ∀ k : Nat, T0[S.length + k]? = ([Cell.lst vs, Cell.lst l, Cell.lst r, Cell.lst ps, Cell.lv x0] : List Cell)[k]? := fun k => by
  rw [hT0, show S ++ [Cell.lst vs] ++ [Cell.lst l] ++ [Cell.lst r] ++ [Cell.lst ps] ++ [Cell.lv x0] = S ++ [Cell.lst vs, .lst l, .lst r, .lst ps, .lv x0] by simp, bE (by omega), show S.length + k - S.length = k by omega]
 have old0 : ∀ i, i < S.length -> T0[i]? = S[i]? := fun i hi => by
  rw [hT0, show S ++ [Cell.lst vs] ++ [Cell.lst l] ++ [Cell.lst r] ++ [Cell.lst ps] ++ [Cell.lv x0] = S ++ [Cell.lst vs, .lst l, .lst r, .lst ps, .lv x0] by simp, aR hi]
 have small : ∀ {ds : List PH.D}, (PH.D.lst ds).Pl /\ (PH.D.lst ds).ht <= 5 /\ ds.length <= 4 -> ∀ d ∈ ds, d.Pl /\ d.ht <= 5 := fun {ds} h d hd => ⟨pH h.1.2 d hd, by
  have hh : PH.D.hts ds + 1 <= 5 := h.2.1;have := nS (k := 4) (by omega) d hd
  omega⟩
 have R0 : Rows p (S.length + 4) 4 S T0 ks x0 := by
  refine ⟨hp, hP.2, by omega, by rw [old0 p hp]; exact hP.1, at0 4, by rw [hx0]; rfl, fun i hi _ => old0 i hi, fun x hx => ?_, fun i j n hi hj => ?_⟩
  ·rw [hx0] at hx
   simp only [bN, fK, or_false] at hx;rcases hx with rfl | rfl | rfl | rfl
   ·exact .inr ⟨_, vs, rfl, by omega, by omega, at0 0, hv.2.2, small hv⟩
   ·exact .inr ⟨_, l, rfl, by omega, by omega, at0 1, hl.2.2, small hl⟩
   ·exact .inr ⟨_, r, rfl, by omega, by omega, at0 2, hr.2.2, small hr⟩
   ·exact .inr ⟨_, ps, rfl, by omega, by omega, at0 3, hps.2.2, small hps⟩
  ·rw [hx0] at hi hj
   have key : ∀ i : Nat, ([.cel S.length, .cel (S.length + 1), .cel (S.length + 2), .cel (S.length + 3)] : List Vl)[i]? = some (.cel n) -> n = S.length + i := fun i hi => by
    match i, hi with
    | 0, hi => cases hi; rfl
    | 1, hi => cases hi; rfl
    | 2, hi => cases hi; rfl
    | 3, hi => cases hi; rfl
    | k + 4, hi => cases hi
   have := key i hi;have := key j hj;omega
 obtain ⟨u, T1, k1, e1, u1, l1, R1, _⟩ := R0.draw (k := 2) (by decide) (by decide)
 have rg : ∀ {T : aM}, tX (.dat (.int (1 + (u : Int)))) T = .ok (jH 0 (1 + u)) T := fun {T} => by
  rw [iV (by omega) (by omega), show (1 + (u : Int)).toNat = 1 + u by omega]
 have rl : (jH 0 (1 + u)).length = 1 + u := by unfold jH; simp
 have hu : 2 ^ (1 + u) <= 4 := by
  have : 1 + u = 1 \/ 1 + u = 2 := by omega
  rcases this with h | h <;> rw [h] <;> decide
 obtain ⟨T2, k2, x2, v2, lp, R2, l2⟩ := B5 (q := some (.dat qd)) (v5 := none) (jH 0 (1 + u)) 4 T1 k1 x0 none R1 (by decide) (by rw [rl]; omega)
 have hc2 := AH R2.row;obtain ⟨ds, T3, fz, dl, dp, lT, ho⟩ := Lo (b := S.length) (c := S.length + 4) (L := 400) (by decide) x2 (T2.set (S.length + 4) .dead) (fun x hx => by
  rcases R2.it x hx with h | ⟨m, fs, e, g1, g2, g3, g4⟩
  ·exact .inl h
  ·exact .inr ⟨m, fs, e, g1, g2, by rw [eO (Ne.symm g2)]; exact g3, g4⟩) R2.ne
 have fw : DA 2 [some (.cel p), some (.dat qd), some (.cel (S.length + 4)), none, none, v2, none, none] T2 = .next [some (.cel p), some (.dat qd), some (.dat (.lst ds)), none, none, v2, none, none] T3 := Qz rfl R2.row fz;have P3 : Pw p S T3 k2 := ⟨hp, R2.n2, by rw [ho p hp, eO (by omega)]; exact R2.pool, by rw [lT, aS]; omega, fun i hi hip => by rw [ho i hi, eO (by omega)]; exact R2.old i hi hip⟩
 have dl4 : ds.length = 4 := by rw [dl, R2.l4]
 obtain ⟨m, k3, e3, m0, m1, l3⟩ := dW (S := T3) (p := p) (ks := k2) ⟨P3.pool, P3.n2⟩ (k := 12) (by decide) (by decide)
 have P4 := P3.pl l3;obtain ⟨T4, hT4⟩ : ∃ T4, T4 = T3.set p (PL k3) := ⟨_, rfl⟩;rw [show T3.set p (.lst (k3.map PH.D.int)) = T4 from hT4.symm] at e3
 rw [<- hT4] at P4;have n2 := hP.2;have lk3 : k3.length = ks.length := by omega
 have plt : ∀ es : List PH.D, es.length <= 10 -> (∀ d ∈ es, d.Pl /\ d.ht <= 6) -> (PH.D.tup es).Pl /\ (PH.D.tup es).ht <= 8 := fun es h1 h2 => ⟨⟨by omega, BW fun d hd => (h2 d hd).1⟩, by
  have := AN (ds := es) (k := 6) fun d hd => (h2 d hd).2
  show PH.D.hts es + 1 <= 8
  omega⟩
 have pll : (PH.D.lst ds).Pl /\ (PH.D.lst ds).ht <= 8 := ⟨⟨by omega, BW fun d hd => (dp d hd).1⟩, by
  have := AN (ds := ds) (k := 6) fun d hd => (dp d hd).2
  show PH.D.hts ds + 1 <= 8
  omega⟩
 have tu : ∀ (es : List PH.D) (T : aM), fTuple (.dat (.lst es)) T = .ok (.dat (.tup es)) T := fun es T => rfl
 rw [Ck, <- hq]; unfold mJ;have mk0 := mk (ρ := [some (.cel p), some (.dat qd), none, none, none, none, none, none]) rfl
 by_cases m0' : m = 0
 ·refine ⟨.lst ds, k3, ?_, pll.1, pll.2, lk3⟩
  simp! [mk0, e1, rg, lp, fw, e3, decide_eq_true m0'];exact P4.trunc ls
 by_cases m1' : m = 1
 ·obtain ⟨A, hA⟩ : ∃ A, A = cutD ds none (some 3) := ⟨_, rfl⟩
  have sA : IH false (.dat (.lst ds)) none (some 3) T4 = .ok (.dat (.lst A)) T4 := by rw [hA]; rfl
  have lA := (EX (ds := ds) (lo := none) (hi := some 3));rw [<- hA] at lA;obtain ⟨q1, q2⟩ := plt A (by omega) fun d hd => dp d (lA.2 d hd)
  refine ⟨.tup A, k3, ?_, q1, q2, lk3⟩
  simp! [mk0, e1, rg, lp, fw, e3, decide_eq_false m0', decide_eq_true m1', sA, tu];exact P4.trunc ls
 by_cases m2' : m = 2
 ·have ad : dD false (.dat (.lst ds)) (.dat (.lst [.lst [.int 0]])) T4 = .ok (.dat (.lst (ds ++ [.lst [.int 0]]))) T4 := add_l (by simp; omega)
  obtain ⟨q1, q2⟩ := plt (ds ++ [.lst [.int 0]]) (by simp; omega) fun d hd => by
   rcases bT.mp hd with hd | hd
   ·exact dp d hd
   ·rw [cU.mp hd]
    exact ⟨by simp [PH.D.Pl, PH.D.Pls], by simp [PH.D.ht, PH.D.hts]⟩
  refine ⟨.tup (ds ++ [.lst [.int 0]]), k3, ?_, q1, q2, lk3⟩
  simp! [mk0, e1, rg, lp, fw, e3, decide_eq_false m0', decide_eq_false m1', decide_eq_true m2', ad, tu];exact P4.trunc ls
 by_cases m3' : m = 3
 ·obtain ⟨d, k4, e4, sm, l4⟩ := N2 (S := T4) (p := p) (ks := k3) ⟨P4.pool, P4.n2⟩
  have P5 := P4.pl l4;refine ⟨d, k4, ?_, sm.1, by have := sm.2.1; omega, by omega⟩
  simp! [mk0, e1, rg, lp, fw, e3, decide_eq_false m0', decide_eq_false m1', decide_eq_false m2', decide_eq_true m3', e4];exact P5.trunc ls
 ·obtain ⟨q1, q2⟩ := plt ds (by omega) dp
  refine ⟨.tup ds, k3, ?_, q1, q2, lk3⟩
  simp! [mk0, e1, rg, lp, fw, e3, decide_eq_false m0', decide_eq_false m1', decide_eq_false m2', decide_eq_false m3', tu];exact P4.trunc ls
end
def iG (n : Nat) : List (Nat × Nat) := (bV (2 * n)).map fun k => (k / 2, k % 2)
section
variable {S : aM} {bs : List (List Stt)} {ks : List Int} {v0 v2 v3 v4 v7 v8 v9 v10 v11 v12 v13 v14 : Option Vl}
theorem Fn {n : Int} (d : PH.D) : ∀ (ts : List PH.D) (i : Nat), xU n i (ts ++ [d]) = (match xU n i ts with
  | some j => some j
  | none => if oQ d n = true then none else some (i + ts.length))
 | [], i => by
  show xU n i [d] = if oQ d n = true then none else some (i + 0)
  rw [xU]
  split <;> rfl
 | x :: r, i => by
  rw [sY, xU, xU];split
  ·rw [Fn d r (i + 1), aW, show i + 1 + r.length = i + (r.length + 1) by omega]
  ·rfl
theorem Jc {q : Eqn} {n : Nat} (Q : QOk q n) : ((PH.D.lst (q.vars.map A8)).Pl /\ (PH.D.lst (q.vars.map A8)).ht <= 5 /\ (q.vars.map A8).length <= 4) /\ ((eZ q.left).Pl /\ (eZ q.left).ht <= 5 /\ (q.left.map kI).length <= 4) /\ ((eZ q.right).Pl /\ (eZ q.right).ht <= 5 /\ (q.right.map kI).length <= 4) /\ ((eZ q.parts).Pl /\ (eZ q.parts).ht <= 5 /\ (q.parts.map kI).length <= 4) := by
 have nt : ∀ (xs : List Nat), xs.length <= 4 -> (eZ xs).Pl /\ (eZ xs).ht <= 5 /\ (xs.map kI).length <= 4 := fun xs h => by
  obtain ⟨a, b⟩ := zR (k := 0) (ds := xs.map kI) (by rw [bB]; omega) fun d hd => by
   obtain ⟨i, _, rfl⟩ := dH.mp hd;exact ⟨trivial, bR _⟩
  exact ⟨a, IU b (by omega), by rw [bB]; exact h⟩
 have l3 := Q.l3;obtain ⟨a, b⟩ := zR (k := 1) (ds := q.vars.map A8) (by rw [bB]; omega) fun d hd => by
  obtain ⟨i, _, rfl⟩ := dH.mp hd;exact ⟨by simp [A8, PH.D.Pl, PH.D.Pls], by simp [A8, PH.D.ht, PH.D.hts]⟩
 have pp : q.parts.length <= 4 := by
  have h1 := Q.f.p;have h2 := Q.asc
  match hq : q.parts, h1, h2 with
  | [], _, _ => exact dQ _
  | [_], _, _ => exact (by decide : 1 <= 4)
  | [_, _], _, _ => exact (by decide : 2 <= 4)
  | [_, _, _], _, _ => exact (by decide : 3 <= 4)
  | a :: b :: c :: d :: r, h1, h2 =>
   have h3 := h1 d (by simp)
   simp only [eC, bN] at h2;have := h2.1 b (.inl rfl);have := h2.2.1 c (.inl rfl);have := h2.2.2.1 d (.inl rfl);omega
 exact ⟨⟨a, by omega, by rw [bB]; omega⟩, nt _ Q.f.ll, nt _ Q.f.lr, nt _ pp⟩
theorem Jd (F : Few bs) (h2 : 2 <= ks.length) {acc : List PH.D} (ha : acc.length <= 10) (hp : ∀ d ∈ acc, d.Pl /\ d.ht <= 8) {so : Bool} :
  ∃ (d : PH.D) (ks' : List Int), kB [v0, some (.cel 0), some (.dat (.lst (bls bs))), v3, some (.dat (eF (iG bs.length))), some (.cel 1), some (.dat (Js (xU bs.length 0 acc))), some (.dat (.bl so)), some (.dat (.int (acc.length : Int))), none, v10, v11, v12, v13, v14] [PL ks, .lst acc] =
   .next [v0, some (.cel 0), some (.dat (.lst (bls bs))), v3, some (.dat (eF (iG bs.length))), some (.cel 1), some (.dat (Js (xU bs.length 0 (acc ++ [d])))), some (.dat (.bl so)), none, none, v10, v11, v12, v13, v14] [PL ks', .lst (acc ++ [d])] /\ d.Pl /\ d.ht <= 8 /\ ks'.length = ks.length := by
 have l1 := F.g.l1;have l3 := F.g.l3;have ls0 : ∀ (k : List Int) (x : List PH.D), LS [PL k, .lst x] := fun k x c hc m => by
  simp only [bN, fK, or_false] at hc;rcases hc with rfl | rfl <;> rfl
 have hk : ∀ v ∈ iG bs.length, v.1 < bs.length /\ v.2 < 2 := fun v hv => by
  obtain ⟨k, hk, rfl⟩ := dH.mp hv;have := wX.mp hk;exact ⟨by show k / 2 < _; omega, by show k % 2 < 2; omega⟩
 have kl : (iG bs.length).length = 2 * bs.length := by unfold iG; simp
 obtain ⟨q, k1, e1, Q, _, z1⟩ := Fq (S := [PL ks, .lst acc]) (p := 0) (ks := ks) ⟨rfl, h2⟩ (ls0 ks acc) hk (fun e => by rw [e] at kl; simp at kl; omega) (by omega) (show 1 <= 3 by decide) (bR _)
 have e1' : kZ [.cel 0, .dat (eF (iG bs.length)), .dat (.int 3)] [PL ks, .lst acc] = .ok (.dat q.d) [PL k1, .lst acc] := e1;obtain ⟨p1, t0⟩ := RK Q;have t1 : q.d.ht <= 8 := IU t0 (by decide)
 -- what is behind the choice
 have fin : ∀ (d : PH.D) (k : List Int), d.Pl -> d.ht <= 8 -> (aK (eV (vK (aC 5) (aC 9)))
 (bJ (xQ (mB (aX (lH false) (aC 6) (mC .non))) (mB (aX (lH true) (aO kJ (aB (aC 9) (aB (m1 cK (aC 2)) aI))) (mC .non)))) (bL (aC 8) (.nm 6)) aZ)) [v0, some (.cel 0), some (.dat (.lst (bls bs))), v3, some (.dat (eF (iG bs.length))), some (.cel 1), some (.dat (Js (xU bs.length 0 acc))), some (.dat (.bl so)), some (.dat (.int (acc.length : Int))), some (.dat d), v10, v11, v12, v13, v14] [PL k, .lst acc] =
  .next [v0, some (.cel 0), some (.dat (.lst (bls bs))), v3, some (.dat (eF (iG bs.length))), some (.cel 1), some (.dat (Js (xU bs.length 0 (acc ++ [d])))), some (.dat (.bl so)), some (.dat (.int (acc.length : Int))), some (.dat d), v10, v11, v12, v13, v14] [PL k, .lst (acc ++ [d])] := fun d k hp hh => by
  have at1 : ([PL k, .lst acc] : aM)[1]? = some (.lst acc) := rfl;have ap := zV (d := d) at1 (hQ ha (by decide))
  have ap' : EV (.cel 1) (.dat d) [PL k, .lst acc] = .ok (.dat .non) [PL k, .lst (acc ++ [d])] := ap;obtain ⟨c1, c2⟩ := Mr (S := [PL k, .lst (acc ++ [d])]) (n := (bs.length : Int)) hp (by omega : d.ht <= 64)
  have hlen : ∀ S, cK (.dat (.lst (bls bs))) S = .ok (.dat (.int (bs.length : Int))) S := fun S => by
   show Res.ok (Vl.dat (.int ((bls bs).length : Int))) S = _
   rw [yG]
  rw [Fn];cases g : xU bs.length 0 acc with
  | some j =>
   have ni : ∀ S, lH false (.dat (Js (some j))) (.dat .non) S = .ok (.dat (.bl false)) S := fun S => rfl
   unfold Js at ni ⊢;simp! [tZ at1, ap', ni]
  | none =>
   have ni : ∀ S, lH false (.dat .non) (.dat .non) S = .ok (.dat (.bl true)) S := fun S => rfl
   have nn : ∀ S, lH true (.dat .non) (.dat .non) S = .ok (.dat (.bl false)) S := fun S => rfl
   have e0 : Js none = .non := rfl;cases gd : oQ d bs.length with
   | true =>
    have pl := c1 gd;rw [if_pos rfl, e0];simp! [tZ at1, ap', ni, hlen, pl, nn]
   | false =>
    obtain ⟨x, pl⟩ := c2 gd;have ns : ∀ S, lH true (.dat (.str (Str.ofString x))) (.dat .non) S = .ok (.dat (.bl true)) S := fun S => rfl
    rw [if_neg (by simp), e0, mL]
    simp! [tZ at1, ap', ni, hlen, pl, ns];rfl
 unfold kB;cases so with
 | true =>
  have f := fin q.d k1 p1 t1;rw [DG] at f;refine ⟨q.d, k1, ?_, p1, t1, z1⟩
  simp! [e1'] at f ⊢;simp! [f]
 | false =>
  obtain ⟨j, k2, e2, j1, z2⟩ := Fu (ks := k1) (X := [.lst acc]) (k := 4) (by omega) (by decide) (by decide)
  by_cases hj : (j : Int) = 0
  ·obtain ⟨s1, s2, s3, s4⟩ := Jc Q
   obtain ⟨d, k3, e3, p3, t3, z3⟩ := IZ (S := [PL k2, .lst acc]) (p := 0) (ks := k2) ⟨rfl, by omega⟩ (ls0 k2 acc) s1 s2 s3 s4
   have e3' : jK [.cel 0, .dat q.d] [PL k2, .lst acc] = .ok (.dat d) [PL k3, .lst acc] := e3;have f := fin d k3 p3 t3;rw [DG] at f;refine ⟨d, k3, ?_, p3, t3, by omega⟩
   simp! [e1', e2, decide_eq_true hj, e3'] at f ⊢;simp! [f]
  ·have f := fin q.d k2 p1 t1
   rw [DG] at f;refine ⟨q.d, k2, ?_, p1, t1, by omega⟩
   simp! [e1', e2, decide_eq_false hj] at f ⊢;simp! [f]
theorem DK (F : Few bs) {so : Bool} : ∀ (m : Nat) (ks : List Int) (acc : List PH.D), 2 <= ks.length -> acc.length + m <= 10 -> (∀ d ∈ acc, d.Pl /\ d.ht <= 8) ->
  ∃ (acc' : List PH.D) (ks' : List Int), loop (.nm 8) kB (jH (acc.length : Int) m) [v0, some (.cel 0), some (.dat (.lst (bls bs))), v3, some (.dat (eF (iG bs.length))), some (.cel 1), some (.dat (Js (xU bs.length 0 acc))), some (.dat (.bl so)), none, none, v10, v11, v12, v13, v14] [PL ks, .lst acc] =
   .next [v0, some (.cel 0), some (.dat (.lst (bls bs))), v3, some (.dat (eF (iG bs.length))), some (.cel 1), some (.dat (Js (xU bs.length 0 acc'))), some (.dat (.bl so)), none, none, v10, v11, v12, v13, v14] [PL ks', .lst acc'] /\ acc'.length <= 10 /\ (∀ d ∈ acc', d.Pl /\ d.ht <= 8) /\ ks'.length = ks.length
 | 0, ks, acc, h2, hl, hp => ⟨acc, ks, rfl, by omega, hp, rfl⟩
 | m + 1, ks, acc, h2, hl, hp => by
  obtain ⟨d, k1, e1, p1, t1, l1⟩ := Jd (v0 := v0) (v3 := v3) (v10 := v10) (v11 := v11) (v12 := v12) (v13 := v13) (v14 := v14) F h2 (by omega) hp (so := so)
  have e : (acc ++ [d]).length = acc.length + 1 := by simp
  obtain ⟨acc', k2, e2, z2, p2, l2⟩ := DK F (so := so) m k1 (acc ++ [d]) (by omega) (by omega) fun x hx => by
   rcases bT.mp hx with hx | hx
   ·exact hp x hx
   ·rw [cU.mp hx]; exact ⟨p1, t1⟩
  refine ⟨acc', k2, ?_, z2, p2, by omega⟩
  rw [GW, show (acc.length : Int) + 1 = ((acc ++ [d]).length : Int) by rw [e]; omega, <- e2]
  exact iQ (ρ1 := [v0, some (.cel 0), some (.dat (.lst (bls bs))), v3, some (.dat (eF (iG bs.length))), some (.cel 1), some (.dat (Js (xU bs.length 0 acc))), some (.dat (.bl so)), some (.dat (.int (acc.length : Int))), none, v10, v11, v12, v13, v14]) rfl e1
theorem Fs {o : Option Int} : (jE o).Pl /\ (jE o).ht <= 8 := by
 have h1 : PyData.strOk (Str.ofString "refused") = true := by decide +kernel
 have h2 : PyData.strOk (Str.ofString "told") = true := by decide +kernel
 have h3 : PyData.strOk (Str.ofString "form") = true := by decide +kernel
 cases o with
 | some i => exact ⟨by simp [jE, PH.D.Pl, PH.D.Pls, h1], by simp [jE, PH.D.ht, PH.D.hts]⟩
 | none => exact ⟨by simp [jE, PH.D.Pl, PH.D.Pls, h2, h3], by simp [jE, PH.D.ht, PH.D.hts]⟩
theorem Jx (F : Few bs) (ls : LS S) {t : PH.D} (ht : CG t) {j : Int} (hj : j = 0 \/ j = 1) {v1 v5 v6 : Option Vl} :
  mM [v0, v1, v2, some (.dat (cC bs)), v4, some (.dat t), v6, v7, v8, v9, v10, some (.dat t), some (.dat (jE (eL bs.length t))), some (.dat (.int j)), v14] S =
   .next [v0, v1, v2, some (.dat (cC bs)), v4, some (.dat t), v6, v7, v8, v9, v10, some (.dat t), some (.dat (jE (eL bs.length t))), none, v14] S := by
 have an := MJ (j := j) F ls ht (by rcases hj with h | h; exact .inl h; exact .inr (.inl h))
 obtain ⟨p1, p2⟩ := Fs (o := eL bs.length t);have s1 := xE 20 (S := S) p1 (by omega)
 have s2 := xE 20 (S := S) ht.1 (by have := ht.2; omega)
 unfold mM;simp! [an, s1, s2]
theorem MU (F : Few bs) (ls : LS S) {t : PH.D} (ht : CG t) {v1 v5 v6 : Option Vl} :
  loop (.nm 13) mM (jH 0 2) [v0, v1, v2, some (.dat (cC bs)), v4, some (.dat t), v6, v7, v8, v9, v10, some (.dat t), some (.dat (jE (eL bs.length t))), none, v14] S =
   .next [v0, v1, v2, some (.dat (cC bs)), v4, some (.dat t), v6, v7, v8, v9, v10, some (.dat t), some (.dat (jE (eL bs.length t))), none, v14] S := by
 rw [show jH 0 2 = [.int 0, .int 1] from rfl]
 rw [iQ (ρ1 := [v0, v1, v2, some (.dat (cC bs)), v4, some (.dat t), v6, v7, v8, v9, v10, some (.dat t), some (.dat (jE (eL bs.length t))), some (.dat (.int 0)), v14]) rfl (Jx F ls ht (.inl rfl) (v5 := v5))];rw [iQ (ρ1 := [v0, v1, v2, some (.dat (cC bs)), v4, some (.dat t), v6, v7, v8, v9, v10, some (.dat t), some (.dat (jE (eL bs.length t))), some (.dat (.int 1)), v14]) rfl (Jx F ls ht (.inr rfl) (v5 := v5))];rfl
def J9 : Option Int -> PH.D
 | none => .non
 | some j => .int j
theorem end62 (F : Few bs) (ls : LS S) {t : PH.D} (ht : CG t) {v1 : Option Vl} :
  pE [v0, v1, v2, some (.dat (cC bs)), v4, some (.dat t), some (.dat (J9 (eL bs.length t))), v7, v8, v9, v10, some (.dat t), some (.dat (jE (eL bs.length t))), none, v14] S = .ret (.dat (.bl true)) S := by
 have lp := MU (v0 := v0) (v1 := v1) (v2 := v2) (v4 := v4) (v6 := some (.dat (J9 (eL bs.length t)))) (v7 := v7) (v8 := v8) (v9 := v9) (v10 := v10) (v14 := v14) (v5 := none) F ls ht;obtain ⟨p1, p2⟩ := Fs (o := eL bs.length t);have s1 := xE 20 (S := S) p1 (by omega)
 have s2 := xE 20 (S := S) ht.1 (by have := ht.2; omega)
 have rg : tX (.dat (.int 2)) S = .ok (jH 0 2) S := rfl;unfold pE tP;cases q : eL bs.length t with
 | none =>
  rw [q] at lp;have ni : ∀ S, lH false (.dat (J9 none)) (.dat .non) S = .ok (.dat (.bl true)) S := fun _ => rfl
  simp! [rg, lp, ni]
 | some i =>
  have an := MJ (j := 2) F ls ht (.inr (.inr ⟨rfl, by rw [q]; simp⟩))
  rw [q] at lp an s1;have ni : ∀ S, lH false (.dat (J9 (some i))) (.dat .non) S = .ok (.dat (.bl false)) S := fun _ => rfl
  simp! [rg, lp, ni, an, s1, s2]
theorem M6 (F : Few bs) {S' : aM} (ls : LS S') {t : PH.D} (ht : CG t) (ht2 : t.ht < 10) {v1 v5 : Option Vl} (fz : nD 5 [v0, v1, v2, some (.dat (cC bs)), v4, v5, some (.dat (J9 (eL bs.length t))), v7, v8, v9, v10, none, none, none, v14] S = .next [v0, v1, v2, some (.dat (cC bs)), v4, some (.dat t), some (.dat (J9 (eL bs.length t))), v7, v8, v9, v10, none, none, none, v14] S') :
  pD [v0, v1, v2, some (.dat (cC bs)), v4, v5, some (.dat (J9 (eL bs.length t))), v7, v8, v9, v10, none, none, none, v14] S = .ret (.dat (.bl true)) S' := by
 have e := end62 (v0 := v0) (v1 := v1) (v2 := v2) (v4 := v4) (v7 := v7) (v8 := v8) (v9 := v9) (v10 := v10) (v14 := v14) F ls ht;have cp := qZ 10 (S := S') ht.1 ht2;unfold pD;cases q : eL bs.length t with
 | none =>
  rw [q] at e fz;unfold jE at e;have ni : ∀ S, lH true (.dat (J9 none)) (.dat .non) S = .ok (.dat (.bl false)) S := fun _ => rfl
  simp! [fz, cp, ni, e]
 | some i =>
  rw [q] at e fz;unfold jE at e;have ni : ∀ S, lH true (.dat (J9 (some i))) (.dat .non) S = .ok (.dat (.bl true)) S := fun _ => rfl
  unfold J9 at ni fz e ⊢;simp! [fz, cp, ni, e]
end
theorem law_true_k62 : ∀ ns : List Int, ns.length <= 63 -> ∃ S, m_law_k62 [.scr ns] [] = .ok (.dat (.bl true)) S := by
 intro ns hn;refine ⟨[], ?_⟩
 rw [Jn];obtain ⟨k0, e0, h0⟩ := Mq (S := []) hn;simp only [oY] at e0;have ls0 : ∀ (k : List Int), LS [PL k] := fun k c hc m => by
  rw [cU.mp hc]; rfl
 obtain ⟨bs, k1, e1, G, sz1, mo, l1, cn⟩ := MF (S := [PL k0]) (p := 0) (ks := k0) (most := 3) (size := 4) ⟨rfl, h0⟩ (ls0 k0) (by decide) (by decide) (by decide) (by decide)
 rw [bH] at e1;have b1 := G.l1;have b3 := G.l3;have F : Few bs := ⟨G, by
  rw [IK];have key : ∀ (l : List (List Stt)) (R : Nat), (∀ b ∈ l, vJ b <= R) -> (l.map vJ).sum <= l.length * R := fun l R => by
   induction l with
   | nil => intro _; simp
   | cons b r ih =>
    intro h;have h1 := h b (aY ..);have h2 := ih fun x hx => h x (aV _ hx)
    rw [bG, List.sum_cons, aW, Nat.add_mul];omega
  by_cases h3 : (2 : Int) < (bs.length : Int)
  ·have := key bs 1 fun b hb => by have := (cn b hb).1; rw [decide_eq_true h3, if_pos rfl] at this; omega
   omega
  ·have := key bs 2 fun b hb => by have := (cn b hb).1; rw [decide_eq_false h3, if_neg (by simp)] at this; omega
   omega⟩
 obtain ⟨pb, _⟩ := OW G.two;have hb2 : (PH.D.lst (bls bs)).ht < 10 := by
  have : PH.D.hts (bls bs) <= 7 := AN (k := 7) fun d hd => by
   unfold bls at hd;obtain ⟨b, hb, rfl⟩ := dH.mp hd;have := (cn b hb).2 (by split <;> omega)
   show PH.D.hts (cD b) + 1 <= 7
   omega
  show PH.D.hts (bls bs) + 1 < 10
  omega
 have cp := qZ 10 (S := [PL k1]) pb hb2;have mk := J2 (S := [PL k1]) (ls0 k1) G;have hlen : ∀ S, cK (.dat (.lst (bls bs))) S = .ok (.dat (.int (bs.length : Int))) S := fun S => by
  show Res.ok (Vl.dat (.int ((bls bs).length : Int))) S = _
  rw [yG]
 have mu : ∀ T, A1 (.dat (.int 2)) (.dat (.int (bs.length : Int))) T = .ok (.dat (.int (2 * (bs.length : Int)))) T := fun T => EK (show IntMulOk 2 (bs.length : Int) from mulL (by decide) (by decide))
 have kr : ∀ T, tX (.dat (.int (2 * (bs.length : Int)))) T = .ok ((bV (2 * bs.length)).map kI) T := fun T => by
  rw [iV (by omega) (by omega), show (2 * (bs.length : Int)).toNat = 2 * bs.length by omega, BU]
 have lc : ∀ {ρ : Ev}, ρ.length = 15 -> CL false (.nm 14) gK pP ρ [14] ((bV (2 * bs.length)).map kI) [PL k1] = .ok (.dat (eF (iG bs.length))) [PL k1] := fun {ρ} hr => by
  rw [gN (g := fun k : Nat => A8 (k / 2, k % 2)) (sz (by rw [Am]; omega)) fun k hk => ⟨_, rfl, by
   match ρ, hr with
   | [x0, x1, x2, x3, x4, x5, x6, x7, x8, x9, x10, x11, x12, x13, x14], _ =>
    have d1 : ∀ T, pO (.dat (.int (k : Int))) (.dat (.int 2)) T = .ok (.dat (.int ((k / 2 : Nat) : Int))) T := fun T => by
     rw [xS (show CDiv (k : Int) 2 from ⟨by decide, by decide⟩)]; rfl
    have d2 : ∀ T, wI (.dat (.int (k : Int))) (.dat (.int 2)) T = .ok (.dat (.int ((k % 2 : Nat) : Int))) T := fun T => by
     rw [nE (by decide)]; rfl
    unfold pP kI
    show _ = Res.ok (Vl.dat (.tup [.int ((k / 2 : Nat) : Int), .int ((k % 2 : Nat) : Int)])) _
    simp! [wipeE, d1, d2]⟩]
  unfold eF iG;rw [Ai];rfl
 obtain ⟨s, k2, e2, s1, l2⟩ := Fu (ks := k1) (X := [.lst []]) (k := 4) (by omega) (by decide) (by decide)
 obtain ⟨m, k3, e3, m1, l3⟩ := Fu (ks := k2) (X := [.lst []]) (k := 5) (by omega) (by decide) (by decide)
 have rm : ∀ T, tX (.dat (.int (m : Int))) T = .ok (jH 0 m) T := fun T => by rw [iV (by omega) (by omega), cZ]
 obtain ⟨acc, k4, e4, al, ap, l4⟩ := DK (v0 := some (.scr ns)) (v3 := some (.dat (cC bs))) (v10 := none) (v11 := none) (v12 := none) (v13 := none) (v14 := none) F (so := decide ((s : Int) = 0)) m k3 [] (by omega) (by show 0 + m <= 10; omega) (fun d h => (nomatch h))
 obtain ⟨od, k5, e5, o1, l5⟩ := Fu (ks := k4) (X := [.lst acc]) (k := 8) (by omega) (by decide) (by decide)
 have e4' : loop (.nm 8) kB (jH 0 m) [some (.scr ns), some (.cel 0), some (.dat (.lst (bls bs))), some (.dat (cC bs)), some (.dat (eF (iG bs.length))), some (.cel 1), some (.dat .non), some (.dat (.bl (decide ((s : Int) = 0)))), none, none, none, none, none, none, none] [PL k3, .lst []] = .next [some (.scr ns), some (.cel 0), some (.dat (.lst (bls bs))), some (.dat (cC bs)), some (.dat (eF (iG bs.length))), some (.cel 1), some (.dat (Js (xU bs.length 0 acc))), some (.dat (.bl (decide ((s : Int) = 0)))), none, none, none, none, none, none, none] [PL k4, .lst acc] := e4;have lst8 := zR (k := 8) (ds := acc) (by omega) ap
 have tup8 := Dl (k := 8) (ds := acc) (by omega) ap
 have nl : newL true [] [PL k1] = .ok (.cel 1) [PL k1, .lst []] := rfl;have lsA : ∀ (k : List Int) (x : Cell), (∀ n, x.below n = true) -> LS [PL k, x] := fun k x hx c hc m => by
  simp only [bN, fK, or_false] at hc;rcases hc with rfl | rfl
  ·rfl
  ·exact hx m
 unfold rB tO
 by_cases ho : (od : Int) = 0
 ·obtain ⟨w, k6, e6, w1, l6⟩ := Fu (ks := k5) (X := [.lst acc]) (k := 5) (by omega) (by decide) (by decide)
  have tu : ∀ k, fTuple (.cel 1) [PL k, .lst acc] = .ok (.dat (.tup acc)) [PL k, .lst acc] := fun k => rfl
  obtain ⟨t, it, ht, ht2, hd⟩ : ∃ t : PH.D, (∀ T, cQ (.dat (.lst [.tup acc, .non, .int 0, .str "", .bl true])) (.dat (.int (w : Int))) T = .ok (.dat t) T) /\ CG t /\ t.ht < 10 /\ eL bs.length t = some (-1) := by
   have hs : PyData.strOk (Str.ofString "") = true := by decide +kernel
   rcases (by omega : w = 0 \/ w = 1 \/ w = 2 \/ w = 3 \/ w = 4) with rfl | rfl | rfl | rfl | rfl
   ·exact ⟨.tup acc, fun T => rfl, ⟨tup8.1, by have := tup8.2; omega⟩, by have := tup8.2; omega, rfl⟩
   ·exact ⟨.non, fun T => rfl, ⟨trivial, by decide⟩, by decide, rfl⟩
   ·exact ⟨.int 0, fun T => rfl, ⟨trivial, by decide⟩, by decide, rfl⟩
   ·exact ⟨.str "", fun T => rfl, ⟨hs, by decide⟩, by decide, rfl⟩
   ·exact ⟨.bl true, fun T => rfl, ⟨trivial, by decide⟩, by decide, rfl⟩
  have ng : ∀ T, oS (.dat (.int 1)) T = .ok (.dat (.int (-1))) T := fun T => rfl
  have kl5 : ∀ T, Bp false [.dat (.tup acc), .dat .non, .dat (.int 0), .dat (.str ""), .dat (.bl true)] T = .ok (.dat (.lst [.tup acc, .non, .int 0, .str "", .bl true])) T := fun T => rfl
  have en := M6 (v0 := some (.scr ns)) (v1 := some (.cel 0)) (v2 := some (.dat (.lst (bls bs)))) (v4 := some (.dat (eF (iG bs.length)))) (v5 := some (.dat t)) (v7 := some (.dat (.bl (decide ((s : Int) = 0))))) (v8 := none) (v9 := none) (v10 := some (.dat (.int (od : Int)))) (v14 := none) (S := [PL k6, .lst acc]) F (lsA k6 (.lst acc) fun _ => rfl) ht ht2 (Np rfl)
  rw [hd] at en;unfold J9 at en;simp! [e0, e1, cp, mk, hlen, mu, kr, lc, nl, e2, e3, rm, e4', e5, decide_eq_true ho, tu, kl5, e6, it, ng, en];rfl
 ·have en := M6 (v0 := some (.scr ns)) (v1 := some (.cel 0)) (v2 := some (.dat (.lst (bls bs)))) (v4 := some (.dat (eF (iG bs.length)))) (v5 := some (.cel 1)) (v7 := some (.dat (.bl (decide ((s : Int) = 0))))) (v8 := none) (v9 := none) (v10 := some (.dat (.int (od : Int)))) (v14 := none) (S := [PL k5, .lst acc]) (S' := [PL k5, .dead]) (t := .lst acc) F (lsA k5 .dead fun _ => rfl) ⟨lst8.1, by have := lst8.2; omega⟩ (by have := lst8.2; omega) (by rw [Nq rfl rfl]; rfl)
  have ed : J9 (eL bs.length (.lst acc)) = Js (xU bs.length 0 acc) := by
   show J9 ((xU bs.length 0 acc).map fun k : Nat => (k : Int)) = _
   cases xU bs.length 0 acc <;> rfl
  rw [ed] at en;simp! [e0, e1, cp, mk, hlen, mu, kr, lc, nl, e2, e3, rm, e4', e5, decide_eq_false ho, en];rfl
end PH
open PySem PySem.W PySem.Calls PyProof.Rows
set_option maxHeartbeats 0 in
theorem PySem.Challenge.cw_penhome_k62_lists_of_equations_holds : PySem.Challenge.rw_penhome_k62_lists_of_equations.Holds := by
 w_on; o_law
 refine HandSHeadRun.head_any (r := OpenLaw.row PySem.Challenge.rw_penhome_k62_lists_of_equations) (q := view (OpenLaw.row PySem.Challenge.rw_penhome_k62_lists_of_equations).prog [108]) (H := PHZ.hk) (ob := PHZ.ob) (M := 8000) (loose := PHZ.loose) (d := HandSHeadRun.topDef (OpenLaw.row PySem.Challenge.rw_penhome_k62_lists_of_equations).prog 108) (kwd := []) PHZ.ob_eq
  (by kernel_rfl) (fun s => by kernel_rfl) PHZ.run_ (by kernel_rfl) (by kernel_rfl) (by kernel_rfl) (by rfl) (by first | assumption | decide +kernel) (by decide +kernel) ⟨rfl, rfl, rfl, rfl, rfl, by decide +kernel⟩ ?hw ?hc
 case hw => w_witness2
 case hc =>
  refine PH.walk_x (l := PySem.Challenge.rw_penhome_k62_lists_of_equations) (n := 63) (k := 36) (x := "_law_script") rfl (by decide) (by kernel_rfl) ⟨rfl, by decide, by decide⟩ ?F
  intro w mg fa h Y G hmg0;obtain ⟨K, KX, c⟩ := Y;have hmg : mg ("law" : PySem.Str) = some (.ref fa) := by
   have e : (HandSHeadRun.topDef (OpenLaw.row PySem.Challenge.rw_penhome_k62_lists_of_equations).prog 108).name = ("law" : PySem.Str) := by kernel_rfl
   rw [<- e];exact hmg0
  have T := PHZ.txt (w := w) KX G c;have e := hmg.symm.trans T.G_law_k62;cases e;obtain ⟨fd, b, F⟩ := PHZ.law_fn (P := (PySem.Challenge.rw_penhome_k62_lists_of_equations).prog) T;exact ⟨K, fd, PH.spF K PH.m_law_k62, KX, fun s v => b s [v] rfl, fun H a ns hl hO hS => PH.law_start PH.law_true_k62 H a ns hl hO hS, fun base _ _ => F base⟩
