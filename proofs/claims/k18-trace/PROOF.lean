import PyProof.Rows.All
import Wide.All
import OpenK.AllK
import Wide.FinOn
import KE.KStateDown
import Lean
import HandS.ForMost
import HandS.ForExc
import HandS.More
import HandS.Flow
import HandS.IsInst
import HandS.Defaults
import HandS.Head0
import HandS.Head1
import HandS.Head2
import HandS.HeadEnd
import HandS.HeadHook1
import HandS.HeadHook2
import HandS.HeadHook3
import HandS.TupAny
import HandS.Star
import HandS.Wide
import HandS.Zip
import HandS.Rev
import HandS.TryMany
import HandS.Small
import HandS.RaiseMore
import HandS.OwnEq
import HandS.Walk
import HandS.Deep
import HandS.ExcInit
import HandS.ExcField
import HandS.RevRange
import HandS.SortInts
import KE.GoesMore
import HandS.CallSlots
import PyProof.Rows.NestShow
import HandS.Dict
import HandS.Style
import HandS.Text
import HandS.FStr
import HandS.StrMore
import HandS.SetFor
import PyProof.InstNe
import HandS.ReplaceLit
import KE.SortKeyHeap
import HandS.ExcValue
import HandS.SortKw
import HandS.SetKeys
import HandS.WordsDict
import HandS.Conv
import HandS.DictComp
import HandS.Iter
import HandS.TupLen
import HandS.GenList
import HandS.IterNext
import HandS.DictSub
import HandS.GenOver
import PyProof.ReprLen
import PyProof.StrLawsRepr
import PySem.Challenge.RW_penhome_k18_trace
set_option Elab.async false
set_option linter.all false
set_option maxRecDepth 100000
set_option maxHeartbeats 4000000
open PySem.W renaming Frag → aD, fnOf → dJ, keepIn → iB, findIn → jS, nsIn → kI, typeIn → nC, view → nD, subIn → oV, callWith_K → yT, SharedT → C3, exmOne → De, cellsFrom_some → GG, methodCall_KW → IH, callWith_K0 → JY, codeRec_of → Kh, boot_heap → MP, openGood → MT
open And renaming intro → aF
open List renaming getElem?_eq_some_iff → aI, mem_cons_of_mem → aK, length_cons → aL, map_cons → aM, getElem?_append_left → aN, length_map → aP, mem_cons_self → aV, getElem?_set → aW, range → aX, getElem?_append_right → bD, length_nil → bF, getD_eq_getElem?_getD → bG, map_nil → bI, mem_cons → bJ, mem_singleton → bK, length_append → bL, mem_of_getElem? → bN, getElem?_eq_getElem → bO, nil_append → bQ, all_eq_true → bT, set_cons_succ → bY, replicate → bZ, set_cons_zero → cE, cons_append → cH, getElem?_map → cM, map_append → cR, append_nil → cX, getElem?_eq_none → dC, mem_append → dH, set_append_right → dM, append_assoc → dN, mem_range → dR, getElem?_take → eA, set_set → eN, lookup_cons → eY, range' → fD, getElem_mem → fW, getElem?_eq_none_iff → gO, ext_getElem? → gQ, map_congr_left → iE, getElem?_cons_succ → iS, length_take → iU, map_map → jD, dropLast_concat → kO, getElem?_range → lJ, filter_cons_of_pos → nE, filter_cons_of_neg → nF, mem_map → nR, length_drop → pC, mem_append_left → pV, zip_cons_cons → sG, getLast?_cons → sH, drop_eq_getElem_cons → tE, mem_or_eq_of_mem_set → tF, size_toArray → tI, all_cons → uP, not_mem_nil → vC, take_of_length_le → wL, getElem?_set_ne → yP, mem_of_mem_take → yQ, any_cons → Ac, mem_filterMap → BI, pairwise_cons → BJ, drop_length → Dc, find?_eq_some_iff_append → Dg, range_succ → Dx, mem_filter → Dy, map_take → IJ, getElem?_set_self → JZ, drop_eq_nil_of_le → Ja, dropLast_eq_take → Kg, forall_mem_cons → MQ, length → MR, mem_map_of_mem → MU
open Nat renaming le_refl → bX, le_trans → cA, zero_le → jC, zero_add → kZ, le_of_not_lt → vD, le_of_lt → xE, ne_of_lt → C4, ne_of_gt → C5, lt_succ_self → Df, min_eq_left → FM
open Int renaming emod_nonneg → dZ, emod_lt_of_pos → eB, toNat_natCast → gX, mul_zero → rR, mul_comm → C6
open Bool renaming false_ne_true → fZ, and_eq_true → iT, and_true → Ad, false_eq_true → BH, or_false → II
open Or renaming inr → Bg, inl → Dw
namespace PH
open PySem PySem.Spec PyProof.Rows L2
abbrev veL : List Value := [.type "ValueError", .type "Exception", .type "BaseException", .type "object"]
def xcB (K : aD) (x : Str) : Bool := PySem.W.excIn K (He.ga K x) veL "ValueError.__new__" && (iB K (.ref (He.ga K x)) && (decide (oV K (.ref (He.ga K x)) (.type "BaseException") = some true) && decide (nC K (.ref (He.ga K x)) = some (.type "type"))))
def pB : Stmt -> List Stmt
 | .ClassDef _ _ _ b _ _ _ _ _ _ _ => b
 | _ => []
def xmB (K : aD) (cs : List Str) : Bool := cs.all fun c => cs.all fun d => decide (De K (.ref (He.ga K c)) (.ref (He.ga K d)) = some (decide (c = d)))
def limits : List (Str × Nat × Int × Int) := [("go", 1, -9, 9), ("turn", 1, 1, 3), ("mirror", 0, 0, 0), ("scale", 1, -3, 3), ("aim", 2, -9, 9), ("place", 2, -9, 9), ("mark", 0, 0, 0), ("return", 0, 0, 0), ("exchange", 0, 0, 0)]
def HE (K : aD) (z : Str) : Addr := match kI K (He.ga K "LIMITS") z with
 | some (some (.ref a)) => a
 | _ => 0
def IP (K : aD) (a : Addr) (vs : List V) : Bool := match K.lookup a with
 | some ⟨.type c, _, .seq its _, _⟩ => decide (c = "tuple") && (decide (its.size <= sizeLine) && He.relAll vs its.toList)
 | _ => false
def limB (K : aD) : Bool := limits.all fun q => He.eqO (kI K (He.ga K "LIMITS") q.1) (some (some (.ref (HE K q.1)))) && IP K (HE K q.1) [.int (q.2.1 : Nat), .int q.2.2.1, .int q.2.2.2]
def Im : He.Tab := (fun K => He.ga K "LIMITS", limits.map (·.1))
def Tz (K : aD) (C : Addr) : Bool := match K.lookup C with
 | some ⟨.type "type", _, .cls cd, sl⟩ => (match cd.mro, sl.toList with
  | .ref C' :: bm, [_, _, _, _, some (.builtin n), _] => C' == C && n == "ValueError.__new__" && !cd.hasDel && cd.hasDict && PySem.HandSPX.refsVE bm
  | _, _ => false)
 | _ => false
def xaB (K : aD) (x : Str) (fs : List Str) : Bool := Tz K (He.ga K x) && (decide (jS K (.ref (He.ga K x)) "__setattr__" = some (some (.builtin "object.__setattr__"))) && (decide (oV K (.ref (He.ga K x)) (.type "BaseException") = some true) && (decide (nC K (.ref (He.ga K x)) = some (.type "type")) && (iB K (.ref (He.ga K x)) && (decide (jS K (.ref (He.ga K x)) "__init__" = some (some (.ref (He.ma K (He.ga K x) "__init__")))) && (decide (nC K (.ref (He.ma K (He.ga K x) "__init__")) = some (.type "function")) && (xfB K (He.ga K x) && fs.all fun f => decide (jS K (.ref (He.ga K x)) f = some none))))))))
section
variable {X : Cx} {W : WX} {e a : Expr} {es : List Expr} {rest gR : List Stmt} {st : Stmt} {pos p yp : Pos} {x kw : Str} {K : aD} {ma me : FE} {mas : FA} {B : Addr -> Prop} {φ φ' : List Addr} {S S' : aO} {H H' : Hp} {σ : L2.St} {Q : TQ} {m : FS} {n : Dd} {D : Ends} {EX : XK}
def nsB (K : aD) (cs : List Str) : Bool := cs.all fun c => decide (oV K (.ref (He.ga K c)) (.type "StopIteration") = some false)
end
end PH
namespace PH
open PySem PySem.Spec PyProof PyProof.Rows L2
def frR (g : Addr -> Option Obj) (n : Nat) : aD := He.frG g (aX n)
def U0 (n : Nat) (fa : List He.Fa) (fn : List He.DefD) (ts : List He.Tab) (ex : aD -> Bool) (g : Addr -> Option Obj) : He.AlT × Bool := (He.obsT fa fn ts (frR g n), ex (frR g n))
def T6 (n : Nat) (fa : List He.Fa) (fn : List He.DefD) (ts : List He.Tab) (ex : aD -> Bool) : PySem.W.Hook where
 α := He.AlT × Bool
 obs := fun s => U0 n fa fn ts ex s.heap.get?
 val := fun w => (He.valT fn ts w, true)
 says := fun w h => ∃ K : aD, K.In h /\ He.SaysT fa fn ts w K /\ ex K = true
 of := fun _ _ e => ⟨_, He.frG_in, congrArg (fun z : He.AlT × Bool => z.1) e, congrArg (fun z : He.AlT × Bool => z.2) e⟩
 keeps := fun _ _ _ ⟨K, hK, c⟩ k => ⟨K, PySem.W.Frag.In.keeps hK k, c⟩
def obC (c : List He.DefD) (K : aD) : Bool × List He.FnW := (c.all fun d => d.ok K, c.map fun d => He.fnW K d.at_)
theorem EH {σ β γ : Type} {o : Option σ} {l : σ -> β} {b : β} {sn : σ -> γ} {c : γ} {K : σ -> aD} {fa : List He.Fa} {fs : List (List He.DefD)} {ts : List He.Tab} {ex : aD -> Bool} {tv : List (Option (List (Option (Str × Int))))}
  (hA : (o.map fun s => (l s, sn s, fa.all fun f => f.ok (K s), ts.map fun t => He.dicW (K s) (t.1 (K s)), ex (K s))) = some (b, c, true, tv, true))
  (hD : ∀ f ∈ fs, (o.map fun s => obC f (K s)) = some (true, f.map He.DefD.val)) :
  (o.map fun s => (l s, sn s, (He.obsT fa fs.flatten ts (K s), ex (K s)))) = some (b, c, ((true, fs.flatten.map He.DefD.val), tv), true) := by
 cases o with
 | none => cases hA
 | some s =>
  have hA := Option.some.inj hA;have h1 := congrArg (fun z => z.1) hA
  have h2 := congrArg (fun z => z.2.1) hA
  have h3 := congrArg (fun z => z.2.2.1) hA
  have h4 := congrArg (fun z => z.2.2.2.1) hA
  have h5 := congrArg (fun z => z.2.2.2.2) hA
  dsimp only at h1 h2 h3 h4 h5;have hf : ∀ f ∈ fs, (f.all fun d => d.ok (K s)) = true /\ (f.map fun d => He.fnW (K s) d.at_) = f.map He.DefD.val := fun f hf => by
   have z := Option.some.inj (hD f hf);exact ⟨congrArg (fun z => z.1) z, congrArg (fun z => z.2) z⟩
  have hall : (fs.flatten.all fun d => d.ok (K s)) = true := by
   rw [bT];intro d hd;obtain ⟨f, h1, h2⟩ := List.mem_flatten.mp hd;exact bT.mp (hf f h1).1 d h2
  have hmap : (fs.flatten.map fun d => He.fnW (K s) d.at_) = fs.flatten.map He.DefD.val := by
   rw [List.map_flatten, List.map_flatten]
   congr 1
   exact iE fun f h => (hf f h).2
  show some (l s, sn s, ((((fa.all fun f => f.ok (K s)) && (fs.flatten.all fun d => d.ok (K s)), fs.flatten.map fun d => He.fnW (K s) d.at_), ts.map fun t => He.dicW (K s) (t.1 (K s))), ex (K s))) = _
  rw [h1, h2, h3, h4, h5, hall, hmap];rfl
def tQ (n : Str) (s : Stmt) : He.DefD := ⟨(n, none), n, n, defArgs s, defBody s, defScope s, [], []⟩
end PH
namespace PHZ
open PH PySem PySem.Spec PyProof.Rows L2
def top (i : Nat) : Stmt := PySem.Challenge.pw_penhome_k18_trace.main.body.getD i (.Pass ⟨0, 0, 0, 0⟩)
abbrev tK : Stmt := top 11
abbrev CO : Stmt := top 12
abbrev zF : Stmt := top 13
abbrev pL : Stmt := top 14
abbrev xU : Stmt := top 15
abbrev vL : Stmt := top 21
abbrev rT : Stmt := top 22
abbrev mE : Stmt := top 24
abbrev iF : Stmt := top 23
abbrev rV : Stmt := top 25
abbrev rX : Stmt := top 26
abbrev lL : Stmt := (pB (top 28)).getD 0 (.Pass ⟨0, 0, 0, 0⟩)
abbrev qD : Stmt := (pB (top 28)).getD 1 (.Pass ⟨0, 0, 0, 0⟩)
abbrev iZ : Stmt := (pB (top 28)).getD 6 (.Pass ⟨0, 0, 0, 0⟩)
abbrev oX : Stmt := top 29
abbrev fO : Stmt := (pB (top 31)).getD 0 (.Pass ⟨0, 0, 0, 0⟩)
abbrev gZ : Stmt := (pB (top 31)).getD 1 (.Pass ⟨0, 0, 0, 0⟩)
abbrev gC : Stmt := (pB (top 31)).getD 2 (.Pass ⟨0, 0, 0, 0⟩)
abbrev gB : Stmt := (pB (top 31)).getD 3 (.Pass ⟨0, 0, 0, 0⟩)
abbrev fP : Stmt := (pB (top 31)).getD 4 (.Pass ⟨0, 0, 0, 0⟩)
abbrev gD : Stmt := (pB (top 31)).getD 5 (.Pass ⟨0, 0, 0, 0⟩)
abbrev hW : Stmt := (pB (top 31)).getD 6 (.Pass ⟨0, 0, 0, 0⟩)
abbrev qC : Stmt := top 32
abbrev rW : Stmt := top 33
abbrev zH : Stmt := top 36
abbrev CV : Stmt := top 37
abbrev vM : Stmt := top 38
abbrev CT : Stmt := top 39
abbrev Ak : Stmt := top 41
abbrev Am : Stmt := top 40
abbrev xX : Stmt := top 42
abbrev CY : Stmt := top 43
abbrev CW : Stmt := top 44
abbrev xW : Stmt := top 45
abbrev Bo : Stmt := top 46
abbrev CU : Stmt := top 47
abbrev Bp : Stmt := top 48
abbrev sM : Stmt := top 58
abbrev Bm : Stmt := top 49
abbrev zJ : Stmt := top 50
abbrev CS : Stmt := top 51
abbrev tM : Stmt := top 52
abbrev CQ : Stmt := top 53
abbrev zI : Stmt := top 54
abbrev tL : Stmt := top 55
abbrev zG : Stmt := top 56
abbrev qW : Stmt := top 57
abbrev pW : Stmt := top 34
abbrev xV : Stmt := top 59
abbrev pX : Stmt := top 34
abbrev wR : Stmt := top 60
abbrev sL : Stmt := (pB (top 4)).getD 0 (.Pass ⟨0, 0, 0, 0⟩)
abbrev vI : Stmt := (pB (top 7)).getD 0 (.Pass ⟨0, 0, 0, 0⟩)
def xN : He.DefD := tQ "is_integer" tK
def Ew : He.DefD := tQ "is_bit" CO
def Eu : He.DefD := tQ "is_pen" zF
def xO : He.DefD := tQ "is_command" pL
def BP : He.DefD := tQ "executed" xU
def AC : He.DefD := tQ "blocks_of" vL
def wD : He.DefD := tQ "with_blocks" rT
def uX : He.DefD := tQ "copied_block" mE
def pI : He.DefD := tQ "copied_statement" iF
def wF : He.DefD := tQ "well_formed" rV
def wH : He.DefD := tQ "first_fault" rX
def AF : He.DefD := ⟨("Book", some "__init__"), "__init__", "Book.__init__", defArgs lL, defBody lL, defScope lL, [], []⟩
def BW : He.DefD := ⟨("Book", some "__len__"), "__len__", "Book.__len__", defArgs qD, defBody qD, defScope qD, [], []⟩
def wI : He.DefD := ⟨("Book", some "bodies"), "bodies", "Book.bodies", defArgs iZ, defBody iZ, defScope iZ, [], []⟩
def sW : He.DefD := tQ "has_procedure" oX
def rJ : He.DefD := ⟨("Execution", some "__init__"), "__init__", "Execution.__init__", defArgs fO, defBody fO, defScope fO, [], []⟩
def rG : He.DefD := ⟨("Execution", some "take"), "take", "Execution.take", defArgs gZ, defBody gZ, defScope gZ, [], []⟩
def qQ : He.DefD := ⟨("Execution", some "enter"), "enter", "Execution.enter", defArgs gC, defBody gC, defScope gC, [], []⟩
def qP : He.DefD := ⟨("Execution", some "leave"), "leave", "Execution.leave", defArgs gB, defBody gB, defScope gB, [], []⟩
def pJ : He.DefD := ⟨("Execution", some "unwind"), "unwind", "Execution.unwind", defArgs fP, defBody fP, defScope fP, [], []⟩
def qR : He.DefD := ⟨("Execution", some "begin"), "begin", "Execution.begin", defArgs gD, defBody gD, defScope gD, [], []⟩
def rH : He.DefD := ⟨("Execution", some "step"), "step", "Execution.step", defArgs hW, defBody hW, defScope hW, [], []⟩
def uW : He.DefD := tQ "executed_run" qC
def wG : He.DefD := tQ "pens_behind" rW
def F0 : He.DefD := tQ "_law_pool" zH
def F5 : He.DefD := tQ "_law_draw" CV
def AE : He.DefD := tQ "_law_command" vM
def F3 : He.DefD := tQ "_law_pair" CT
def DN : He.DefD := tQ "_law_piece" Ak
def DO : He.DefD := tQ "_law_block" Am
def BV : He.DefD := tQ "_law_around" xX
def F8 : He.DefD := tQ "_law_body" CY
def F7 : He.DefD := tQ "_law_book" CW
def BR : He.DefD := tQ "_law_number" xW
def Hw : He.DefD := tQ "_law_pen" Bo
def F4 : He.DefD := tQ "_law_move" CU
def Hx : He.DefD := tQ "_law_bit" Bp
def Ey : He.DefD := tQ "_law_task" sM
def Hv : He.DefD := tQ "_law_run" Bm
def F9 : He.DefD := tQ "_law_bits" zJ
def F2 : He.DefD := tQ "_law_pens" CS
def BU : He.DefD := tQ "_law_blocks" tM
def Ex : He.DefD := tQ "_law_with" CQ
def F6 : He.DefD := tQ "_law_copy" zI
def BS : He.DefD := tQ "_law_copies" tL
def Ez : He.DefD := tQ "_law_same" zG
def AD : He.DefD := tQ "_law_steered" qW
def DK : He.DefD := ⟨("trace", none), "trace", "trace", defArgs pW, defBody pW, defScope pW, [], [("pen", .glo "HOME")]⟩
def BQ : He.DefD := tQ "_law_traced" xV
def DL : He.DefD := ⟨("trace", none), "trace", "trace", defArgs pX, defBody pX, defScope pX, [], [("pen", .glo "HOME")]⟩
def DM : He.DefD := tQ "law" wR
def DJ : He.DefD := ⟨("NoBook", some "__init__"), "__init__", "NoBook.__init__", defArgs sL, defBody sL, defScope sL, [], []⟩
def Et : He.DefD := ⟨("NoRun", some "__init__"), "__init__", "NoRun.__init__", defArgs vI, defBody vI, defScope vI, [], []⟩
def fa : List He.Fa := ([.free "isinstance", .free "int", .free "bool", .free "tuple", .free "len", .free "all", .free "str", .glo "LIMITS", .free "range", .int "DEEPEST" 3, .free "list", .free "enumerate", .int "MOST_IN_LIST" 8, .int "MOST_IN_PROCEDURE" 12, .int "MOST_PROCEDURES" 3, .glo "NoBook", .cls "Book", .noat "Book" "own", .cls "Execution", .noat "Execution" "own"] : List He.Fa) ++ ([.noat "Execution" "bits", .noat "Execution" "taken", .noat "Execution" "deeds", .noat "Execution" "stack", .noat "Execution" "active", .noat "Execution" "ended", .glo "NoRun", .glo "NoProcedure", .cls "Execution", .mkr "Execution", .glo "Execution", .glo "NoPen", .cls "Book", .mkr "Book", .glo "Book", .free "min", .glo "is_integer", .glo "is_bit", .glo "is_pen", .glo "is_command"] : List He.Fa) ++ ([.glo "executed", .glo "blocks_of", .glo "with_blocks", .glo "copied_block", .glo "copied_statement", .glo "well_formed", .glo "first_fault", .meth "Book" "__init__", .meth "Book" "__len__", .meth "Book" "bodies", .glo "has_procedure", .meth "Execution" "__init__", .meth "Execution" "take", .meth "Execution" "enter", .meth "Execution" "leave", .meth "Execution" "unwind", .meth "Execution" "begin", .meth "Execution" "step", .glo "executed_run", .glo "pens_behind"] : List He.Fa) ++ ([.glo "_law_pool", .glo "_law_draw", .glo "_law_command", .glo "_law_pair", .glo "_law_piece", .glo "_law_block", .glo "_law_around", .glo "_law_body", .glo "_law_book", .glo "_law_number", .glo "_law_pen", .glo "_law_move", .glo "_law_bit", .glo "_law_task", .glo "_law_run", .glo "_law_bits", .glo "_law_pens", .glo "_law_blocks", .glo "_law_with", .glo "_law_copy"] : List He.Fa) ++ ([.glo "_law_copies", .glo "_law_same", .glo "_law_steered", .glo "trace", .glo "_law_traced", .glo "trace", .glo "law"] : List He.Fa)
def fn0 : List He.DefD := [DJ, Et, xN, Ew, Eu, xO, BP, AC, wD, uX, pI, wF, wH, AF, BW, wI, sW, rJ, rG, qQ, qP, pJ, qR, rH, uW, wG, F0, F5, AE, F3, DN, DO, BV, F8, F7, BR, Hw, F4, Hx, Ey, Hv, F9, F2, BU, Ex, F6, BS, Ez, AD, DK, BQ, DL, DM]
def fns : List (List He.DefD) := [fn0]
def fn : List He.DefD := fns.flatten
def ts : List He.Tab := [Im]
def exs (K : aD) : List Bool := [limB K, xaB K "NoBook" ["procedure", "path"], xaB K "NoRun" ["index"], xcB K "NoProcedure", xcB K "NoPen", xmB K ["NoBook", "NoPath", "NoPen", "NoProcedure", "NoRun"], nsB K ["NoBook", "NoPath", "NoPen", "NoProcedure", "NoRun"], He.tupB K "HOME" [.int 0, .int 0, .int 1, .int 0, .int 0, .int 0]]
def ex (K : aD) : Bool := (exs K).all id
def loose : List Str := (["_wall", "HomeError", "NoPen", "NoBook", "NoProcedure", "NoPath", "NoRun", "HOME", "LIMITS", "is_integer", "is_bit", "is_pen", "is_command", "executed", "MOST_PROCEDURES", "MOST_IN_LIST", "MOST_IN_PROCEDURE", "DEEPEST", "blocks_of", "with_blocks", "copied_statement", "copied_block", "well_formed", "first_fault", "statement_at", "Book", "has_procedure", "Execution", "executed_run", "pens_behind"] : List Str) ++ (["trace", "_law_pool", "_law_draw", "_law_command", "_law_pair", "_law_block", "_law_piece", "_law_around", "_law_body", "_law_book", "_law_number", "_law_pen", "_law_move", "_law_bit", "_law_run", "_law_bits", "_law_pens", "_law_blocks", "_law_with", "_law_copy", "_law_copies", "_law_same", "_law_steered", "_law_task", "_law_traced"] : List Str)
abbrev R : PySem.W.OpenRow := PySem.W.OpenLaw.row PySem.Challenge.rw_penhome_k18_trace
abbrev hk : PySem.W.Hook := T6 1200 fa fn ts ex
def ob (s : C3) : He.AlT × Bool := U0 1200 fa fn ts ex (HandSHeadRun.getT s)
abbrev PY (w : World) : Prop := HandSHeadRun.RunEq R (nD R.prog [60]) hk ob 8000 loose w
noncomputable abbrev Rj (w : World) (os : OsState) := HandSHeadRun.endF (HandSHeadRun.stepQ (HandSHeadRun.denQ HandSHeadRun.tabQ) R.prog w) 8000 R.prog w os
abbrev Pp (s : C3) : aD := frR (HandSHeadRun.getT s) 1200
set_option maxHeartbeats 0 in
theorem QG (w : World) : ∀ os : OsState, (Rj (w.withFollow "special-get-raises" false) os).map (fun s => (HandSHeadRun.looksF R.prog (MP (w.withFollow "special-get-raises" false).params) s.abs, HandSHeadRun.seenQ (nD R.prog [60]) loose (PySem.importedModules R.prog.main.body) (fun s => PySem.W.xlAt (nD R.prog [60]) [] s && PySem.W.recOk R.toRowW.records s) s.abs, fa.all fun f => f.ok (Pp s), ts.map fun t => He.dicW (Pp s) (t.1 (Pp s)), ex (Pp s))) = some (true, MT (nD R.prog [60]) loose, true, ts.map (fun t => some (He.keysIn (w.withFollow "special-get-raises" false).params t.2)), true) := by
 intro os
 kernel_rfl
set_option maxHeartbeats 0 in
theorem QH (w : World) : ∀ os : OsState, (Rj (w.withFollow "special-get-raises" false) os).map (fun s => obC fn0 (Pp s)) = some (true, fn0.map He.DefD.val) := by
 intro os
 kernel_rfl
theorem run_f (w : World) : PY (w.withFollow "special-get-raises" false) := fun os => EH (fs := fns) (QG w os) (MQ.mpr ⟨QH w os, fun f hf => nomatch hf⟩)
set_option maxHeartbeats 0 in
theorem QD (w : World) : ∀ os : OsState, (Rj (w.withFollow "special-get-raises" true) os).map (fun s => (HandSHeadRun.looksF R.prog (MP (w.withFollow "special-get-raises" true).params) s.abs, HandSHeadRun.seenQ (nD R.prog [60]) loose (PySem.importedModules R.prog.main.body) (fun s => PySem.W.xlAt (nD R.prog [60]) [] s && PySem.W.recOk R.toRowW.records s) s.abs, fa.all fun f => f.ok (Pp s), ts.map fun t => He.dicW (Pp s) (t.1 (Pp s)), ex (Pp s))) = some (true, MT (nD R.prog [60]) loose, true, ts.map (fun t => some (He.keysIn (w.withFollow "special-get-raises" true).params t.2)), true) := by
 intro os
 kernel_rfl
set_option maxHeartbeats 0 in
theorem QE (w : World) : ∀ os : OsState, (Rj (w.withFollow "special-get-raises" true) os).map (fun s => obC fn0 (Pp s)) = some (true, fn0.map He.DefD.val) := by
 intro os
 kernel_rfl
theorem run_t (w : World) : PY (w.withFollow "special-get-raises" true) := fun os => EH (fs := fns) (QD w os) (MQ.mpr ⟨QE w os, fun f hf => nomatch hf⟩)
theorem run_ (w : World) : PY w := PySem.W.byRow2 "special-get-raises" run_f run_t w
end PHZ
namespace PH
open PySem PySem.Spec PyProof.Rows L2
section
variable {X : Cx}
theorem dG {e : Expr} {t u : TE} (h : PE X e t) (i : ∀ σ H Q, u σ H Q -> t σ H Q) : PE X e u := ⟨fun pins s σ H Q I q => h.run pins s σ H Q I (i σ H Q q)⟩
theorem DX {e : Expr} {t u : TT} (h : PT X e t) (i : ∀ σ H Q, u σ H Q -> t σ H Q) : PT X e u := ⟨fun pins s σ H Q I q => h.run pins s σ H Q I (i σ H Q q)⟩
theorem iR {f : Value -> Value -> Sem Value} {r u : R2} (h : OpR X f r) (i : ∀ x y H Q, u x y H Q -> r x y H Q) : OpR X f u := fun pins s σ H x y v w Q I rx ry q => h pins s σ H x y v w Q I rx ry (i x y H Q q)
theorem nQ {f : Value} {r u : List V -> Hp -> VK -> Prop} (h : CallR X f r) (i : ∀ xs H Q, u xs H Q -> r xs H Q) : CallR X f u := fun pins s σ H xs us Q I rx q => h pins s σ H xs us Q I rx (i xs H Q q)
theorem Kd {r u : R2} (h : IxR X r) (i : ∀ x y H Q, u x y H Q -> r x y H Q) : IxR X u := fun e1 e2 pins s σ H x y v w Q I rx ry q => h e1 e2 pins s σ H x y v w Q I rx ry (i x y H Q q)
def sl : L2.St -> Nat -> Option V
 | [], _ => none
 | x :: _, 0 => x
 | _ :: r, n + 1 => sl r n
theorem SW : ∀ {σ : L2.St} {i : Nat} {v : V}, sl σ i = some v -> σ[i]? = some (some v)
 | [], _, _, h => by cases h
 | x :: _, 0, v, h => by
  have e : x = some v := h;rw [e]; rfl
 | _ :: r, n + 1, v, h => by
  have e := SW (σ := r) (i := n) (v := v) h
  simpa using e
def uI (i : Nat) : TE := fun σ H Q => match sl σ i with
 | some v => Q v H
 | none => False
theorem cv (i : Nat) {x : Str} {pos : Pos} (hN : X.N[i]? = some x := by rfl) (hv : Vis X.env.scope x := by first | exact Dw rfl | exact Bg (Dw rfl) | exact Bg (Bg rfl)) (hd : (x == ("__debug__" : Str)) = false := by decide)
  (hcd : (x == ("__classdict__" : Str)) = false := by decide) : PE X (.Name x pos) (uI i) := dG (pe_var hN hv hd hcd) fun σ H Q h => by
 unfold uI at h;cases e : sl σ i with
 | none => rw [e] at h; exact h.elim
 | some v => rw [e] at h; exact ⟨v, SW e, h⟩
def cI0 (g : Int -> Int -> V) : R2 := fun x y H Q => match x, y with
 | .int i, .int j => Q (g i j) H
 | _, _ => False
def cI (C : Int -> Int -> Prop) (g : Int -> Int -> V) : R2 := fun x y H Q => match x, y with
 | .int i, .int j => C i j /\ Q (g i j) H
 | _, _ => False
theorem yJ {g : Int -> Int -> V} : ∀ x y H Q, cI0 g x y H Q -> rI0 g x y H Q := fun x y H Q h => by
 cases x with
 | int i => cases y with
  | int j => exact ⟨i, j, rfl, rfl, h⟩
  | _ => exact h.elim
 | _ => exact h.elim
theorem KZ {C : Int -> Int -> Prop} {g : Int -> Int -> V} : ∀ x y H Q, cI C g x y H Q -> rI C g x y H Q := fun x y H Q h => by
 cases x with
 | int i => cases y with
  | int j => exact ⟨i, j, rfl, rfl, h.1, h.2⟩
  | _ => exact h.elim
 | _ => exact h.elim
def rAddI : R2 := fun x y H Q => match x, y with
 | .int i, .int j => Q (.int (i + j)) H
 | _, _ => False
def NF : R2 := fun x y H Q => match x, y with
 | .int i, .int j => Q (.int (i - j)) H
 | _, _ => False
def Sf : R2 := fun x y H Q => match x, y with
 | .int i, .int j => IntMulOk i j /\ Q (.int (i * j)) H
 | _, _ => False
def Sh : R2 := fun x y H Q => match x, y with
 | .int i, .int j => (0 < j) /\ Q (.int (i % j)) H
 | _, _ => False
def NH : R2 := fun x y H Q => match x, y with
 | .int i, .int j => (CDiv i j) /\ Q (.int (i / j)) H
 | _, _ => False
def Se : R2 := fun x y H Q => match x, y with
 | .int i, .int j => (CPow i j) /\ Q (.int (i ^ j.toNat)) H
 | _, _ => False
def rLtC : R2 := fun x y H Q => match x, y with
 | .int i, .int j => Q (.bl (decide (i < j))) H
 | _, _ => False
def rLeC : R2 := fun x y H Q => match x, y with
 | .int i, .int j => Q (.bl (decide (i <= j))) H
 | _, _ => False
def rGtC : R2 := fun x y H Q => match x, y with
 | .int i, .int j => Q (.bl (decide (j < i))) H
 | _, _ => False
def rGeC : R2 := fun x y H Q => match x, y with
 | .int i, .int j => Q (.bl (decide (j <= i))) H
 | _, _ => False
def Ry (K : aD) : R2 := fun x y H Q => match x, y with
 | .int i, .int j => Q (.int (i + j)) H
 | .str a, .str b => a.length + b.length <= sizeLine /\ Q (.str (a ++ b)) H
 | .ref _, .ref _ => rCat x y H Q \/ rCatA K x y H Q
 | _, _ => False
theorem bU : OpR X (binaryOp .Add) (Ry X.K) := by
 refine iR (OpR.or (X := X) op_add (OpR.or op_add_str (OpR.or op_cat op_catA))) fun x y H Q h => ?_
 cases x with
 | int i => cases y with
  | int j => exact .inl ⟨i, j, rfl, rfl, h⟩
  | _ => exact h.elim
 | str i => cases y with
  | str j => exact .inr (.inl ⟨i, j, rfl, rfl, h.1, h.2⟩)
  | _ => exact h.elim
 | ref i => cases y with
  | ref j => exact .inr (.inr h)
  | _ => exact h.elim
 | _ => exact h.elim
theorem fV : OpR X (binaryOp .Sub) NF := iR op_sub fun x y H Q h => yJ (g := fun i j => .int (i - j)) x y H Q h
theorem QO : OpR X (binaryOp .Mult) (rI IntMulOk fun i j => .int (i * j)) := opI fun _ _ _ _ _ _ _ hc q => mul_int q hc
theorem iG : OpR X (binaryOp .Mult) Sf := iR QO fun x y H Q h => KZ (C := IntMulOk) (g := fun i j => .int (i * j)) x y H Q h
theorem mulL {i j : Int} (h1 : -(2 ^ 64) < i) (h2 : i < 2 ^ 64) : IntMulOk i j := CMul.ok (.inl ⟨h1, h2⟩)
theorem mulR {i j : Int} (h1 : -(2 ^ 64) < j) (h2 : j < 2 ^ 64) : IntMulOk i j := CMul.ok (.inr ⟨h1, h2⟩)
theorem mF : OpR X (binaryOp .Mod) Sh := iR op_mod fun x y H Q h => KZ (C := fun _ j => 0 < j) (g := fun i j => .int (i % j)) x y H Q h
theorem vO : OpR X (binaryOp .FloorDiv) NH := iR op_fdiv fun x y H Q h => KZ (C := CDiv) (g := fun i j => .int (i / j)) x y H Q h
theorem Ju : OpR X (binaryOp .Pow) Se := iR op_pow fun x y H Q h => KZ (C := CPow) (g := fun i j => .int (i ^ j.toNat)) x y H Q h
theorem nK : OpR X (compareOp .Lt) rLtC := iR op_lt fun x y H Q h => yJ (g := fun i j => .bl (decide (i < j))) x y H Q h
theorem vN : OpR X (compareOp .LtE) rLeC := iR op_le fun x y H Q h => yJ (g := fun i j => .bl (decide (i <= j))) x y H Q h
theorem lC : OpR X (compareOp .Gt) rGtC := iR op_gt fun x y H Q h => yJ (g := fun i j => .bl (decide (j < i))) x y H Q h
theorem NO : OpR X (compareOp .GtE) rGeC := iR op_ge fun x y H Q h => yJ (g := fun i j => .bl (decide (j <= i))) x y H Q h
def cNeg : V -> Hp -> VK -> Prop := fun x H Q => match x with
 | .int i => Q (.int (-i)) H
 | _ => False
theorem Pv : UnR X (unaryOp .USub) cNeg := fun pins s σ H x v Q I rx h => un_neg pins s σ H x v Q I rx (by
 cases x with
 | int i => exact ⟨i, rfl, h⟩
 | _ => exact h.elim)
def cEq (K : aD) : R2 := fun x y H Q => match x, y with
 | .int i, .int j => Q (.bl (decide (i = j))) H
 | .str i, .str j => Q (.bl (decide (i = j))) H
 | _, _ => rEqD K x y H Q
def cNe (K : aD) : R2 := fun x y H Q => match x, y with
 | .int i, .int j => Q (.bl (!decide (i = j))) H
 | .str i, .str j => Q (.bl (!decide (i = j))) H
 | _, _ => rNeD K x y H Q
theorem dI {i j : Int} : decide (V.int i = V.int j) = decide (i = j) := by
 by_cases h : i = j
 ·rw [decide_eq_true h, h, decide_eq_true rfl]
 ·rw [decide_eq_false h, decide_eq_false fun e => h (V.int.inj e)]
theorem dS {i j : Str} : decide (V.str i = V.str j) = decide (i = j) := by
 by_cases h : i = j
 ·rw [decide_eq_true h, h, decide_eq_true rfl]
 ·rw [decide_eq_false h, decide_eq_false fun e => h (V.str.inj e)]
theorem bB (hu : X.A.units + 64 < cLine) : OpR X (compareOp .Eq) (cEq X.K) := by
 refine iR (OpR.or (X := X) op_eq (op_eqD hu)) fun x y H Q h => ?_
 cases x with
 | int i => cases y with
  | int j => exact .inl ⟨rfl, by rw [dI]; exact h⟩
  | _ => exact .inr h
 | str i => cases y with
  | str j => exact .inl ⟨rfl, by rw [dS]; exact h⟩
  | _ => exact .inr h
 | _ => exact .inr h
theorem tN (hu : X.A.units + 64 < cLine) : OpR X (compareOp .NotEq) (cNe X.K) := by
 refine iR (OpR.or (X := X) op_ne (op_neD hu)) fun x y H Q h => ?_
 cases x with
 | int i => cases y with
  | int j => exact .inl ⟨rfl, by rw [dI]; exact h⟩
  | _ => exact .inr h
 | str i => cases y with
  | str j => exact .inl ⟨rfl, by rw [dS]; exact h⟩
  | _ => exact .inr h
 | _ => exact .inr h
variable {a b c : Expr} {ta tb tc : TE} {pos : Pos}
def cT (K : aD) : V -> Hp -> (Bool -> Hp -> Prop) -> Prop := fun x H Q => match x with
 | .bl k => Q k H
 | .non => Q false H
 | .int i => Q (i != 0) H
 | x => ∃ k, TruV K x H k /\ Q k H
def cTest (K : aD) (t : TE) : TT := fun σ H Q => t σ H fun x H' => cT K x H' Q
theorem P8 {K : aD} : ∀ x H Q, cT K x H Q -> ∃ k, TruV K x H k /\ Q k H := fun x H Q h => by
 cases x with
 | bl k => exact ⟨k, rfl, h⟩
 | non => exact ⟨false, rfl, h⟩
 | int i => exact ⟨_, rfl, h⟩
 | _ => exact h
theorem t_val (ha : PE X a ta) (he : ∀ whole, isTrue a X.env whole = (do let v <- whole; standAt a.pos; holding [v] (truthy v)) := by intro _; rfl) : PT X a (cTest X.K ta) := by
 refine ⟨fun pins s σ H Q I h => ?_⟩
 exact isTrue_plain (thn (ha.run pins s σ H _ I h) fun v s1 ⟨x, H1, I1, r1, q1⟩ => tru_ok pins s1 σ H1 x v Q I1 r1 (P8 x H1 Q q1)) (he _)
def cB (t : TE) : TT := fun σ H Q => t σ H fun x H' => match x with
 | .bl k => Q k H'
 | _ => False
theorem SU {op : CmpOp} {r : R2} (ho : OpR X (compareOp op) r) (ha : PE X a ta) (hb : PE X b tb) (hm : behindInMarks op b = false := by rfl) : PT X (.Compare a [op] [b] pos) (cB (tOp r ta tb)) := by
 refine ⟨fun pins s σ H Q I h => ?_⟩
 have h' : ta σ H fun x H1 => tb σ H1 fun y H2 => r x y H2 fun z H3 => (match z with | .bl k => Q k H3 | _ => False) := h
 refine wpAny_isTrue_Compare1 (thn (ha.run pins s σ H _ I h') fun v s1 ⟨x, H1, I1, r1, q1⟩ => thn (hb.run pins s1 σ H1 _ I1 q1) fun u s2 ⟨y, H2, I2, r2, q2⟩ => thn (ho pins s2 σ H2 x y v u _ I2 r1 r2 q2) fun d s3 hz => ?_) hm
 obtain ⟨z, H3, I3, r3, q3⟩ := hz;cases z with
 | bl k => cases r3; exact wpAny_truthy_bool ⟨H3, I3, q3⟩
 | _ => exact q3.elim
theorem e_cmp {op : CmpOp} {r : R2} (ho : OpR X (compareOp op) r) (ha : PE X a ta) (hb : PE X b tb) (hm : behindInMarks op b = false := by rfl) : PE X (.Compare a [op] [b] pos) (tOp r ta tb) := pe_cmpR ho ha hb hm
end
section
variable {X : Cx} {a b c : Expr} {ta tb tc : TE} {pos : Pos}
variable {rest : List Expr}
def cAndV (ta tb : TE) : TE := fun σ H Q => ta σ H fun x H1 => match x with
 | .bl c => if c = true then tb σ H1 Q else Q (.bl false) H1
 | _ => False
def cNotV (K : aD) (ta : TE) : TE := fun σ H Q => ta σ H fun x H1 => cT K x H1 fun k H2 => Q (.bl (!k)) H2
theorem e_and (ha : PE X a ta) (hb : PE X (.BoolOp .And (b :: rest) pos) tb) : PE X (.BoolOp .And (a :: b :: rest) pos) (cAndV ta tb) := by
 refine ⟨fun pins s σ H Q I h => ?_⟩
 refine BoolOp_and (thn (ha.run pins s σ H _ I h) fun v s1 hq => ?_)
 obtain ⟨x, H1, I1, r1, q1⟩ := hq;cases x with
 | bl c =>
  cases r1;refine wpAny_truthy_bool ?_
  cases c with
  | true => exact hb.run pins s1 σ H1 Q I1 q1
  | false => exact ⟨.bl false, H1, I1, rfl, q1⟩
 | _ => exact q1.elim
theorem e_not (ha : PE X a ta) : PE X (.UnaryOp .Not a pos) (cNotV X.K ta) := by
 refine ⟨fun pins s σ H Q I h => ?_⟩
 refine UnaryOp_ (thn (ha.run pins s σ H _ I h) fun v s1 hq => ?_)
 obtain ⟨x, H1, I1, r1, q1⟩ := hq;exact not_of (thn (tru_ok pins s1 σ H1 x v (fun c H2 => Q (.bl (!c)) H2) I1 r1 (P8 x H1 _ q1)) fun c s2 ⟨H2, I2, q2⟩ => ⟨.bl (!c), H2, I2, rfl, q2⟩)
def G5 (r r' : R2) (ta tb tc : TE) : TE := fun σ H Q => ta σ H fun x H1 => tb σ H1 fun y H2 => r x y H2 fun z H3 => match z with
 | .bl k => if k = true then tc σ H3 fun w' H4 => r' y w' H4 Q else Q (.bl false) H3
 | _ => False
theorem Rm {op op' : CmpOp} {r r' : R2} (ho : OpR X (compareOp op) r) (ho' : OpR X (compareOp op') r') (ha : PE X a ta) (hb : PE X b tb) (hc : PE X c tc)
  (hm : lastMarks [op, op'] [b, c] = false := by with_unfolding_all rfl) : PE X (.Compare a [op, op'] [b, c] pos) (G5 r r' ta tb tc) := by
 refine ⟨fun pins s σ H Q I h => ?_⟩
 refine Compare_chain (thn (ha.run pins s σ H _ I h) fun v s1 ⟨x, H1, I1, r1, q1⟩ => chain_link (thn (hb.run pins s1 σ H1 _ I1 q1) fun u s2 ⟨y, H2, I2, r2, q2⟩ =>
  thn (ho pins s2 σ H2 x y v u _ I2 r1 r2 q2) fun d s3 hz => ?_)) hm
 obtain ⟨z, H3, I3, r3, q3⟩ := hz;cases z with
 | bl k =>
  cases r3;refine wpAny_truthy_bool ?_
  cases k with
  | false => exact ite_ff ⟨.bl false, H3, I3, rfl, q3⟩
  | true => exact ite_tt (chain_last (thn (hc.run pins s3 σ H3 _ I3 q3) fun w' s4 ⟨z', H4, I4, r4, q4⟩ => ho' pins s4 σ H4 y z' u w' Q I4 r2 r4 q4))
 | _ => exact q3.elim
theorem Pz {op op' : CmpOp} {r r' : R2} (ho : OpR X (compareOp op) r) (ho' : OpR X (compareOp op') r') (ha : PE X a ta) (hb : PE X b tb) (hc : PE X c tc)
  (hm : lastMarks [op, op'] [b, c] = false := by with_unfolding_all rfl) : PT X (.Compare a [op, op'] [b, c] pos) (cB (G5 r r' ta tb tc)) := by
 refine ⟨fun pins s σ H Q I h => ?_⟩
 refine isTrue_chain (thn (ha.run pins s σ H _ I h) fun v s1 ⟨x, H1, I1, r1, q1⟩ => test_link (thn (hb.run pins s1 σ H1 _ I1 q1) fun u s2 ⟨y, H2, I2, r2, q2⟩ =>
  thn (ho pins s2 σ H2 x y v u _ I2 r1 r2 q2) fun d s3 hz => ?_)) hm
 obtain ⟨z, H3, I3, r3, q3⟩ := hz;cases z with
 | bl k =>
  cases r3;refine wpAny_truthy_bool ?_
  cases k with
  | false => exact ite_ff ⟨H3, I3, q3⟩
  | true =>
   refine ite_tt (test_last (thn (hc.run pins s3 σ H3 _ I3 q3) fun w' s4 ⟨z', H4, I4, r4, q4⟩ => thn (ho' pins s4 σ H4 y z' u w' _ I4 r2 r4 q4) fun d' s5 hz2 => ?_))
   obtain ⟨z2, H5, I5, r5, q5⟩ := hz2;cases z2 with
   | bl k2 => cases r5; exact wpAny_truthy_bool ⟨H5, I5, q5⟩
   | _ => exact q5.elim
 | _ => exact q3.elim
def cIx (K : aD) : R2 := fun x y H Q => match x, y with
 | .ref p, .int i => ∃ xs v, (SqL K H p xs \/ SqT K H p xs) /\ atI xs i = some v /\ Q v H
 | .str z, .int i => z.length <= sizeLine /\ ∃ c, atI z.cps.toList i = some c /\ Q (.str ⟨#[c]⟩) H
 | _, _ => False
theorem ix_C : IxR X (cIx X.K) := Kd ix_seq fun x y H Q h => by
 cases x with
 | ref p => cases y with
  | int i =>
   obtain ⟨xs, v, h1 | h1, h2, q⟩ := h
   ·exact .inl ⟨p, xs, i, v, rfl, rfl, h1, h2, q⟩
   ·exact .inr (.inl ⟨p, xs, i, v, rfl, rfl, h1, h2, q⟩)
  | _ => exact h.elim
 | str z => cases y with
  | int i =>
   obtain ⟨h1, c, h2, q⟩ := h;exact .inr (.inr ⟨z, i, c, rfl, rfl, h1, h2, q⟩)
  | _ => exact h.elim
 | _ => exact h.elim
theorem e_ix (ha : PE X a ta) (hb : PE X b tb) (hs : PlainIx b := by intro _ _; rfl) : PE X (.Subscript a b pos) (tOp (cIx X.K) ta tb) := pe_ix ix_C ha hb hs
def Rw (K : aD) : V -> Hp -> VK -> Prop := fun x H Q => match x with
 | .str z => z.length <= sizeLine /\ Q (.int z.length) H
 | .ref p => ∃ ys, (SqL K H p ys \/ SqT K H p ys) /\ Q (.int ys.length) H
 | _ => False
def c1 (r : V -> Hp -> VK -> Prop) : List V -> Hp -> VK -> Prop := fun xs H Q => match xs with
 | [x] => r x H Q
 | _ => False
theorem e_len {p : Pos} (hm : X.mg "len" = none) (ha : PE X a ta) (hg : Gl X "len" := by rfl) (hs : starEach [a] X.env = [(false, eval a X.env)] := by rfl) : PE X (.Call (.Name "len" p) [a] [] pos) (tCB (c1 (Rw X.K)) (tCons ta tNil)) :=
 pe_callB (nQ (CallR.or call_len_seq call_len_str) fun xs H Q h => by
  match xs, h with
  | [x], h =>
   cases x with
   | str z => exact .inr ⟨z, rfl, h.1, h.2⟩
   | ref p =>
    obtain ⟨ys, h1, q⟩ := h;exact .inl ⟨p, ys, rfl, h1, q⟩
   | _ => exact h.elim) hg hm boot_len (pa_cons ha pa_nil hs) (he := hs)
def cInt : V -> Hp -> VK -> Prop := fun x H Q => match x with
 | .int i => Q (.int i) H
 | .bl k => Q (.int (if k then 1 else 0)) H
 | _ => False
theorem e_int {p : Pos} (hm : X.mg "int" = none) (ha : PE X a ta) (hg : Gl X "int" := by rfl) (hs : starEach [a] X.env = [(false, eval a X.env)] := by rfl) : PE X (.Call (.Name "int" p) [a] [] pos) (tCB (c1 cInt) (tCons ta tNil)) :=
 pe_callTy (nQ call_int1 fun xs H Q h => by
  match xs, h with
  | [x], h =>
   cases x with
   | int i => exact .inl ⟨i, rfl, h⟩
   | bl k => exact .inr ⟨k, rfl, h⟩
   | _ => exact h.elim) hg hm boot_int (pa_cons ha pa_nil hs) (he := hs)
def isTy (T n : String) : Bool := n == T || (n == "bool" && T == "int")
def kinds : List String := ["NoneType", "bool", "int", "str", "list", "tuple", "dict"]
def targets : List String := ["int", "bool", "str", "list", "tuple", "dict"]
theorem Qf (K : aD) : (kinds.all fun n => targets.all fun T => decide (PySem.W.kitOne K (.type n) (.type T) = some (isTy T n))) = true := by kernel_rfl
theorem Iq {K : aD} {n T : String} (hn : n ∈ kinds) (hT : T ∈ targets) : PySem.W.kitOne K (.type n) (.type T) = some (isTy T n) :=
 of_decide_eq_true (bT.mp (bT.mp (Qf K) n hn) T hT)
def DY (K : aD) (H : Hp) (a : Addr) (n : String) : Prop := n ∈ ["list", "tuple", "dict"] /\ TyX K H (.ref a) (.type n)
def PB (K : aD) (T : String) : V -> Hp -> VK -> Prop := fun x H Q => match x with
 | .non => Q (.bl false) H
 | .bl _ => Q (.bl (T == "bool" || T == "int")) H
 | .int _ => Q (.bl (T == "int")) H
 | .str _ => Q (.bl (T == "str")) H
 | .ref a => ∃ n, DY K H a n /\ Q (.bl (n == T)) H
 | _ => False
def cIsiL (K : aD) (T : String) : List V -> Hp -> VK -> Prop := fun xs H Q => match xs with
 | [x, .ty n] => if n = T then PB K T x H Q else False
 | _ => False
theorem MH {T : String} (hT : T ∈ targets) : CallR X (.builtin "isinstance") (cIsiL X.K T) := nQ call_isi fun xs H Q h => by
 match xs, h with
 | [x, .ty n], h =>
  have h0 : if n = T then PB X.K T x H Q else False := h
  by_cases e : n = T
  case neg => rw [if_neg e] at h0; exact h0.elim
  rw [if_pos e] at h0
  replace h := h0
  subst e;have go : ∀ (k : String) (b : Bool), k ∈ kinds -> TyX X.K H x (.type k) -> b = isTy n k -> Q (.bl b) H -> rIsi X.K [x, .ty n] H Q := fun k b hk ty e q => ⟨x, .ty n, .type k, .type n, isTy n k, rfl, .ty n, ty, Iq hk hT, by rw [<- e]; exact q⟩
  have h6 : n = "int" \/ n = "bool" \/ n = "str" \/ n = "list" \/ n = "tuple" \/ n = "dict" := by simpa [targets] using hT
  cases x with
  | non => exact go "NoneType" false (by decide) (.base .non) (by rcases h6 with e | e | e | e | e | e <;> subst e <;> decide) h
  | bl b => exact go "bool" _ (by decide) (.base (.bl b)) (by rcases h6 with e | e | e | e | e | e <;> subst e <;> decide) h
  | int b => exact go "int" _ (by decide) (.base (.int b)) (by rcases h6 with e | e | e | e | e | e <;> subst e <;> decide) h
  | str b => exact go "str" _ (by decide) (.base (.str b)) (by rcases h6 with e | e | e | e | e | e <;> subst e <;> decide) h
  | ref a =>
   obtain ⟨k, ⟨hk, ty⟩, q⟩ := h;have h3 : k = "list" \/ k = "tuple" \/ k = "dict" := by simpa using hk
   exact go k _ (by rcases h3 with e | e | e <;> subst e <;> decide) ty (by rcases h6 with e | e | e | e | e | e <;> rcases h3 with e' | e' | e' <;> subst e <;> subst e' <;> decide) q
  | _ => exact h.elim
def cIsE (K : aD) (T : String) (ta : TE) : TE := fun σ H Q => ta σ H fun x H1 => PB K T x H1 Q
theorem e_isi {p q : Pos} {T : String} {y : Str} (hm : X.mg "isinstance" = none) (hmT : X.mg y = none) (ha : PE X a ta) (hT : T ∈ targets := by decide) (hv : bootBuiltins y = some (.type T) := by decide +kernel)
  (hg : Gl X "isinstance" := by rfl) (hgT : Gl X y := by rfl) (hn : y ≠ "__name__" := by decide) (hd : (y == ("__debug__" : Str)) = false := by decide) (hs : starEach [a, .Name y q] X.env = (false, eval a X.env) :: starEach [.Name y q] X.env := by rfl) :
  PE X (.Call (.Name "isinstance" p) [a, .Name y q] [] pos) (cIsE X.K T ta) :=
 dG (pe_callB (MH hT) hg hm boot_isinstance (pa_cons ha (pa_cons (pe_bltn (v := .ty T) hgT hmT hv rfl hn hd) pa_nil) hs) (he := hs)) fun σ H Q h => by
  show ta σ H fun x H1 => if T = T then PB X.K T x H1 Q else False
  simp only [if_true];exact h
def cAll (K : aD) : V -> Hp -> VK -> Prop := fun x H Q => match x with
 | .ref p => ∃ bs : List Bool, SqL K H p (bs.map V.bl) /\ Q (.bl (bs.all id)) H
 | _ => False
theorem e_all {p : Pos} (hm : X.mg "all" = none) (ha : PE X a ta) (hc : X.calm = true := by rfl) (hg : Gl X "all" := by rfl) (hs : starEach [a] X.env = [(false, eval a X.env)] := by rfl) : PE X (.Call (.Name "all" p) [a] [] pos) (tCB (c1 (cAll X.K)) (tCons ta tNil)) :=
 pe_callB (nQ (cr_all hc) fun xs H Q h => by
  match xs, h with
  | [x], h =>
   cases x with
   | ref p =>
    obtain ⟨bs, h1, q⟩ := h;exact ⟨p, bs, rfl, h1, q⟩
   | _ => exact h.elim) hg hm boot_all (pa_cons ha pa_nil hs) (he := hs)
def TL (K : aD) : V -> Hp -> VK -> Prop := fun x H Q => match x with
 | .ref p => ∃ ys, (SqL K H p ys \/ SqT K H p ys) /\ ∀ l, H l = none -> Q (.ref l) (upd H l (.lst ys))
 | _ => False
theorem VM {p : Pos} (hm : X.mg "list" = none) (ha : PE X a ta) (hg : Gl X "list" := by rfl) (hs : starEach [a] X.env = [(false, eval a X.env)] := by rfl) : PE X (.Call (.Name "list" p) [a] [] pos) (tCB (c1 (TL X.K)) (tCons ta tNil)) :=
 pe_callTy (nQ call_list_of fun xs H Q h => by
  match xs, h with
  | [x], h =>
   cases x with
   | ref p =>
    obtain ⟨bs, h1, q⟩ := h;exact ⟨p, bs, rfl, h1, q⟩
   | _ => exact h.elim) hg hm boot_list (pa_cons ha pa_nil hs) (he := hs)
def P7 (K : aD) : V -> Hp -> VK -> Prop := fun x H Q => match x with
 | .ref p => ∃ ys, SqL K H p ys /\ ∀ l, H l = none -> Q (.ref l) (upd H l (.tup ys))
 | _ => False
theorem Rk {p : Pos} (hm : X.mg "tuple" = none) (ha : PE X a ta) (hg : Gl X "tuple" := by rfl) (hs : starEach [a] X.env = [(false, eval a X.env)] := by rfl) : PE X (.Call (.Name "tuple" p) [a] [] pos) (tCB (c1 (P7 X.K)) (tCons ta tNil)) :=
 pe_callTy (nQ call_tuple_of fun xs H Q h => by
  match xs, h with
  | [x], h =>
   cases x with
   | ref p =>
    obtain ⟨ys, h1, q⟩ := h;exact ⟨p, ys, rfl, .inl ⟨h1, q⟩⟩
   | _ => exact h.elim) hg hm boot_tuple (pa_cons ha pa_nil hs) (he := hs)
def sp2 (p : V -> V -> Hp -> VK -> Prop) : Sp := fun vs H Q _ => match vs with
 | [a, b] => p a b H Q
 | _ => False
end
def Ok (P : Program) (w : World) (K : aD) (mg : Str -> Option Value) (base : Heap) (k : Nat) (x : Str) (ps : List Str) (sp : Sp) : Prop :=
 ∃ fd, FnOk P w K mg base CX0 k (He.ga K x) fd ps sp /\ mg x = some (.ref (He.ga K x)) /\ iB K (.ref (He.ga K x)) = true /\ Binds K fd ps [] /\ ∃ oc od osl, K.lookup (He.ga K x) = some ⟨oc, od, .func fd, osl⟩
section
variable {P : Program} {w : World} {K : aD} {mg : Str -> Option Value} {base : Heap}
abbrev qU (K : aD) (x : Str) (st : Stmt) : Prop := ∃ fd, FunD K x x (defArgs st) (defBody st) (defScope st) [] [] (He.ga K x) fd
end
section
variable {X : Cx} {o i e : Expr} {to ti te : TE} {pos tpos : Pos}
def Ka : V -> V -> Hp -> VK -> Prop := fun x y H Q => match x, y with
 | .ref p, .int i => ∃ xs v, H p = some (.lst xs) /\ 0 <= i /\ xs[i.toNat]? = some v /\ Q v H
 | _, _ => False
theorem Lp : PGet X Ka := by
 intro pins s σ H o i ov iv Q I ro ri h;cases o with
 | ref p => cases i with
  | int k =>
   obtain ⟨xs, v, hp, h0, hx, q⟩ := h;cases ro;obtain ⟨t, rfl⟩ := ri;obtain ⟨its, r, pl, hz⟩ := I.list (.inl (.inl hp));obtain ⟨w, ew, rw'⟩ := r.get hx;have hl := r.length;have hn := line63;have hlt : k.toNat < xs.length := (aI.mp hx).1;exact wpAny_getItem_list pl.isList h0 (by omega) (by simpa using ew) ⟨v, H, I, rw', q⟩
  | _ => exact h.elim
 | _ => exact h.elim
def KY : V -> V -> V -> Hp -> (Hp -> Prop) -> Prop := fun o i v H Q => match o, i with
 | .ref p, .int k => ∃ xs, H p = some (.lst xs) /\ 0 <= k /\ k.toNat < xs.length /\ Q (upd H p (.lst (xs.set k.toNat v)))
 | _, _ => False
theorem EA : PSet X KY := by
 intro pins s σ H o i v ov iv u Q I ro ri rv h;refine set_list pins s σ H o i v ov iv u Q I ro ri rv ?_
 cases o with
 | ref p => cases i with
  | int k =>
   obtain ⟨xs, hp, h0, hk, q⟩ := h;exact ⟨p, xs, k, k.toNat, rfl, rfl, hp, by unfold ixN; rw [if_pos h0, if_pos (by omega)], q⟩
  | _ => exact h.elim
 | _ => exact h.elim
def cIp (r : R2) : TIp := fun x y H Q => r x y H Q
theorem Fp : PIp X .Add (cIp rAddI) := fun pins s σ H x y v u Q I r1 r2 h => ip_add pins s σ H x y v u Q I r1 r2 (yJ (g := fun i j => .int (i + j)) x y H Q h)
theorem Qo : PIp X .Sub (cIp NF) := fun pins s σ H x y v u Q I r1 r2 h => ip_sub pins s σ H x y v u Q I r1 r2 (yJ (g := fun i j => .int (i - j)) x y H Q h)
theorem N9 {op : Operator} {tip : TIp} (ho : PE X o to) (hi : PE X i ti) (he : PE X e te) (hp : PIp X op tip)
  (ha : ∀ ov iv new, augStore i ov iv new = (do holding [new, ov, iv] (setItem ov iv new); release [new, ov, iv] []; pure .next) := by intros; rfl) : PS X (.AugAssign (.Subscript o i tpos) op e pos) (tAugS to ti te Ka tip KY) :=
 ps_augS ho hi Lp he hp EA ha
end
section
variable {X : Cx} {tg e : Expr} {te : TE} {pos p : Pos}
def Si : R2 := fun x y H Q => match y with
 | .non => Q (.bl (decide (x = .non))) H
 | _ => False
def NG : R2 := fun x y H Q => match y with
 | .non => Q (.bl (!decide (x = .non))) H
 | _ => False
theorem Fc : OpR X (compareOp .Is) Si := iR op_isN fun x y H Q h => by
 cases y with
 | non => exact ⟨rfl, h⟩
 | _ => exact h.elim
theorem Gu : OpR X (compareOp .IsNot) NG := iR op_notN fun x y H Q h => by
 cases y with
 | non => exact ⟨rfl, h⟩
 | _ => exact h.elim
def cPart (t : TE) : TO := fun σ H Q => t σ H fun x H1 => match x with
 | .int i => Q (some i) H1
 | _ => False
theorem NK (h : PE X e te) : PO X (some e) (cPart te) := by
 refine ⟨fun pins s σ H Q I hw => ?_⟩
 rw [evalPart_some];refine thn (h.run pins s σ H _ I hw) fun u s1 hq => ?_
 obtain ⟨x, H1, I1, r1, q1⟩ := hq;cases x with
 | int i =>
  obtain ⟨t, rfl⟩ := r1;exact ⟨some i, H1, I1, .int i t, q1⟩
 | _ => exact q1.elim
theorem SI {r u : V -> Option Int -> Option Int -> Hp -> VK -> Prop} (h : SlR X r) (i : ∀ x lo hi H Q, u x lo hi H Q -> r x lo hi H Q) : SlR X u := by
 intro pins s σ H x v vl vu lo hi sl Q I rx hs pl pu q;exact h pins s σ H x v vl vu lo hi sl Q I rx hs pl pu (i x lo hi H Q q)
def cSl (K : aD) : V -> Option Int -> Option Int -> Hp -> VK -> Prop := fun x lo hi H Q => match x with
 | .ref a => (∃ xs, SqL K H a xs /\ ∀ p, H p = none -> Q (.ref p) (upd H p (.lst (cutV xs lo hi)))) \/ (∃ xs, SqT K H a xs /\
  (HT.sIx xs.length 0 lo = 0 /\ HT.sIx xs.length xs.length hi = xs.length -> Q (.ref a) H) /\ (¬ (HT.sIx xs.length 0 lo = 0 /\ HT.sIx xs.length xs.length hi = xs.length) -> ∀ p, H p = none -> Q (.ref p) (upd H p (.tup (cutV xs lo hi)))))
 | .str z => z.length <= sizeLine /\ Q (.str (cutS z lo hi)) H
 | _ => False
theorem sl_C : SlR X (cSl X.K) := SI (SlR.or sl_list (SlR.or sl_tupA sl_str)) fun x lo hi H Q h => by
 cases x with
 | ref a =>
  rcases h with ⟨xs, h1, q⟩ | ⟨xs, h1, q⟩
  ·exact .inl ⟨a, xs, rfl, h1, q⟩
  ·exact .inr (.inl ⟨a, xs, rfl, h1, q⟩)
 | str z => exact .inr (.inr ⟨z, rfl, h⟩)
 | _ => exact h.elim
def iSeq (K : aD) (tl : TE) : TI := fun σ H R => tl σ H fun x H1 => match x with
 | .ref a => ((∃ xs, SqL K H1 a xs) /\ R (Itl K a) H1) \/ ((∃ xs, SqT K H1 a xs) /\ R (Itt K a) H1)
 | _ => False
theorem Tw (hl : PE X e te) : PI X tg e (iSeq X.K te) := by
 refine ⟨fun pins s σ H R I h => ?_⟩
 refine thn (hl.run pins s σ H _ I h) fun v s1 hq => ?_
 obtain ⟨x, H1, I1, r1, q1⟩ := hq;cases x with
 | ref a =>
  rcases q1 with ⟨h1, q⟩ | ⟨h1, q⟩
  ·cases r1
   obtain ⟨xs, hq⟩ := h1;obtain ⟨its, rv, p, hz⟩ := I1.list hq;refine wpAny_pyIter_list p.isList ?_
   refine ⟨s1.heap.objs.size, [s1.heap.objs.size], _, _, H1, rfl, I1.kept (t' := s1.toks) fun b o e => Heap.get?_push_of_some _ e, turn_list a _, ⟨_, Heap.get?_push_size _ rfl, rfl, rfl⟩, fun b hb => ?_, q⟩
   have e : b = s1.heap.objs.size := by simpa using hb
   subst e;exact I1.fpOk (bX _) (I1.hok.fresh (bX _))
  ·cases r1
   obtain ⟨xs, hq⟩ := h1;obtain ⟨its, rv, p, hz⟩ := I1.tuple hq;refine wpAny_pyIter_tuple (show s1.heap.IsTuple a its.toArray from p) ?_
   refine ⟨s1.heap.objs.size, [s1.heap.objs.size], _, _, H1, rfl, I1.kept (t' := s1.toks) fun b o e => Heap.get?_push_of_some _ e, turn_tuple a _, ⟨_, Heap.get?_push_size _ rfl, rfl, rfl⟩, fun b hb => ?_, q⟩
   have e : b = s1.heap.objs.size := by simpa using hb
   subst e;exact I1.fpOk (bX _) (I1.hok.fresh (bX _))
 | _ => exact q1.elim
def Kb : V -> List V -> Hp -> VK -> Prop := fun x vs H Q => match x, vs with
 | .ref l, [y] => ∃ xs, H l = some (.lst xs) /\ xs.length < sizeLine /\ Q .non (upd H l (.lst (xs ++ [y])))
 | _, _ => False
theorem Ih : MtR X "list.append" Kb := fun pins s σ H x xs v us Q I rx r h => mt_append pins s σ H x xs v us Q I rx r (by
 match x, xs, h with
 | .ref l, [y], ⟨xs, h1, h2, q⟩ => exact ⟨l, xs, y, rfl, rfl, h1, h2, q⟩)
def cPop : V -> List V -> Hp -> VK -> Prop := fun x vs H Q => match x, vs with
 | .ref l, [] => ∃ xs y, H l = some (.lst xs) /\ xs[xs.length - 1]? = some y /\ Q y (upd H l (.lst xs.dropLast))
 | _, _ => False
theorem QU : MtR X "list.pop" cPop := fun pins s σ H x xs v us Q I rx r h => mt_pop pins s σ H x xs v us Q I rx r (by
 match x, xs, h with
 | .ref l, [], ⟨xs, y, h1, h2, q⟩ => exact ⟨l, xs, y, rfl, rfl, h1, h2, q⟩)
theorem VO {x : Str} {i : Int} (h : ∃ t, X.mg x = some (.int i t)) (hg : Gl X x := by rfl) (hd : (x == ("__debug__" : Str)) = false := by decide) : PE X (.Name x pos) (tC (.int i)) := by
 obtain ⟨t, h⟩ := h;exact pe_glob hg h ⟨t, rfl⟩ hd
def TN (K : aD) (d : Addr) (neg : Bool) : R2 := fun x y H Q => match x, y with
 | .str z, .ref a => a = d /\ ∃ r, kI K d z = some r /\ Q (.bl (if neg then !r.isSome else r.isSome)) H
 | _, _ => False
theorem Fb {d : Addr} (D : ∃ es n, KDict X.K X.w d es n) : OpR X (compareOp .NotIn) (TN X.K d true) := by
 obtain ⟨es, n, D⟩ := D;refine iR (op_notIn_kd D) fun x y H Q h => ?_
 match x, y, h with
 | .str z, .ref a, ⟨e, r, h1, q⟩ => exact ⟨z, r, rfl, by rw [e], h1, q⟩
def cIxKd (K : aD) (d : Addr) : R2 := fun x y H Q => match x, y with
 | .ref a, .str z => a = d /\ ∃ u v, kI K d z = some (some u) /\ RelV v u /\ Q v H
 | _, _ => False
theorem UT {d : Addr} (D : ∃ es n, KDict X.K X.w d es n) : IxR X (cIxKd X.K d) := by
 obtain ⟨es, n, D⟩ := D;refine Kd ix_kdict fun x y H Q h => ?_
 match x, y, h with
 | .ref a, .str z, ⟨e, u, v, h1, h2, q⟩ => exact ⟨d, z, v, by rw [e], rfl, ⟨es, n, u, D.at_, D.lit, h1, h2⟩, q⟩
end
structure XcF (K : aD) (mg : Str -> Option Value) (x : Str) : Prop where
 exc : PySem.W.excIn K (He.ga K x) veL "ValueError.__new__" = true
 glo : mg x = some (.ref (He.ga K x))
 kp : iB K (.ref (He.ga K x)) = true
 sub : oV K (.ref (He.ga K x)) (.type "BaseException") = some true
 ty : nC K (.ref (He.ga K x)) = some (.type "type")
theorem MX {K : aD} {mg : Str -> Option Value} {x : Str} (h : xcB K x = true) (g : mg x = some (.ref (He.ga K x))) : XcF K mg x := by
 obtain ⟨h1, h2⟩ := He.ba h;obtain ⟨h3, h4⟩ := He.ba h2;obtain ⟨h5, h6⟩ := He.ba h4;exact ⟨h1, g, h3, of_decide_eq_true h5, of_decide_eq_true h6⟩
section
variable {X : Cx} {x : Str} {p pos pos' : Pos} {W : WX} {e : Expr} {es : List Expr} {t : TA} {ps : List Str} {sp : Sp} {k j : Nat} {E : XK}
def Td (cls : Value) (W : WX) : TS := fun _ σ H => W cls none σ H
theorem NL (F : XcF X.K X.mg x) (hg : Gl X x) (hdb : (x == ("__debug__" : Str)) = false) : PMk X (.Call (.Name x p) [] [] pos) (fun _ H Q => Q (.ref (He.ga X.K x)) none H) := by
 intro pins s σ H Q I q;refine wpAny_Call_Name_kw (ld_glob I hg F.glo ?_ hdb)
 refine JY I.kIn F.kp ?_
 show wpAny _ _ (call (.ref (He.ga X.K x)) []) _ _ _
 obtain ⟨_, _, _, _, _, _, _, _, _, _, _, _, _, _, _, _, _, c1, c2, c3, T⟩ := exc_obj I.kIn F.exc;exact wpAny_call_exc_subT PySem.F.excBase_ValueError T c1 c2 c3 (fun _ _ m => mk_of I m (raises_own F.sub F.ty) q (I.hok.gone m.new)) (jC _)
theorem QN (F : XcF X.K X.mg x) (tk : Takes X W) (hc : X.calm = true := by rfl) (hg : Gl X x := by rfl) (hdb : (x == ("__debug__" : Str)) = false := by decide) : PS X (.Raise (some (.Call (.Name x p) [] [] pos)) none pos') (Td (.ref (He.ga X.K x)) W) :=
 ps_raise hc tk (NL F hg hdb)
end
def tA (P : Program) (w : World) (K : aD) (mg : Str -> Option Value) (base : Heap) (k : Nat) (x : Str) (ps : List Str) (sp : Sp) : Prop :=
 ∃ fd, FnOk P w K mg base (L2.CX P w) k (He.ga K x) fd ps sp /\ mg x = some (.ref (He.ga K x)) /\ iB K (.ref (He.ga K x)) = true /\ Binds K fd ps []
section
variable {P : Program} {w : World} {K : aD} {mg : Str -> Option Value} {base : Heap}
theorem NS {x : Str} {st : Stmt} {N ps : List Str} {k : Nat} {sp : Sp} (F : qU K x st) (g : mg x = some (.ref (He.ga K x))) (S : FnScope N ps (defScope st)) (len : ∀ vs H Q E, sp vs H Q E -> vs.length = ps.length)
  (bnd : ∀ (kV doc pm : Value) (an : Option Addr) (cdv ct : Value) (us : List Value), us.length = ps.length -> bindArgs (dJ x x (defArgs st) (defBody st) (defScope st) .none kV doc pm an cdv ct) ⟨us, []⟩ = pure (ps.zip us))
  (hbody : ∀ (cdv : Value) (A : Around) (outer : List Env) (s : Shared) (H : Hp) (vs : List V) (Q : VK) (E : XK), Room k (A.deeper (envOfC x (defScope st) s.heap.objs.size (He.ga K x) cdv)) -> sp vs H Q E ->
   ∃ t, PSs (cxOf (L2.CX P w) P w K mg base N x (defScope st) (He.ga K x) cdv A outer s H E) (defBody st) t /\ t { nx := fun _ H' => Q .non H', rt := Q } (start N vs) H) : tA P w K mg base (k + 1) x ps sp := by
 obtain ⟨fd, F⟩ := F;refine ⟨fd, ?_, g, F.kp, F.bindsN bnd⟩
 obtain ⟨oc, od, dV, kV, doc, pm, an, cdv, ct, osl, e, lk, hc⟩ := F.ex;subst e;exact fn_of lk hc.1 S len fun A outer s H vs Q E hr hsp => hbody cdv A outer s H vs Q E hr hsp
end
def wNo : WX := fun _ _ _ _ => False
def TM (K : aD) (T U : String) : V -> Hp -> (Bool -> Prop) -> Prop := fun x H Q => match x with
 | .non => Q false
 | .bl _ => Q (isTy T "bool" || isTy U "bool")
 | .int _ => Q (isTy T "int" || isTy U "int")
 | .str _ => Q (isTy T "str" || isTy U "str")
 | .ref a => ∃ n, DY K H a n /\ Q (isTy T n || isTy U n)
 | _ => False
def P9 (K : aD) (T U : String) : List V -> Hp -> VK -> Prop := fun xs H Q => match xs with
 | [x, .ref tp] => H tp = some (.tup [.ty T, .ty U]) /\ TM K T U x H fun b => Q (.bl b) H
 | _ => False
def cIsE2 (K : aD) (T U : String) (ta : TE) : TE := tCB (P9 K T U) (tCons ta (tCons (tTup (tCons (tC (.ty T)) (tCons (tC (.ty U)) tNil))) tNil))
section
variable {X : Cx} {a : Expr} {ta : TE} {pos p : Pos}
theorem Qg {K : aD} {n T U : String} (hn : n ∈ kinds) (hT : T ∈ targets) (hU : U ∈ targets) : PySem.W.kitAny K (.type n) [.type T, .type U] = some (isTy T n || isTy U n) := by
 have h1 := Iq (K := K) hn hT;have h2 := Iq (K := K) hn hU;cases e1 : isTy T n with
 | true =>
  rw [e1] at h1;exact kitAny_cons h1 (fun z => by cases z) fun _ => rfl
 | false =>
  rw [e1] at h1;refine kitAny_cons h1 (fun _ => ?_) (fun z => by cases z)
  cases e2 : isTy U n with
  | true =>
   rw [e2] at h2;exact kitAny_cons h2 (fun z => by cases z) fun _ => rfl
  | false =>
   rw [e2] at h2;exact kitAny_cons h2 (fun _ => rfl) (fun z => by cases z)
theorem MI {T U : String} (hT : T ∈ targets) (hU : U ∈ targets) : CallR X (.builtin "isinstance") (P9 X.K T U) := nQ call_isiT fun xs H Q h => by
 match xs, h with
 | [x, .ref tp], ⟨ht, h⟩ =>
  have go : ∀ (k : String) (b : Bool), k ∈ kinds -> TyX X.K H x (.type k) -> b = (isTy T k || isTy U k) -> Q (.bl b) H -> rIsiT X.K [x, .ref tp] H Q := fun k b hk ty e q => ⟨x, tp, _, .type k, [.type T, .type U], _, rfl, ht, .cons (.ty T) (.cons (.ty U) .nil), ty, Qg hk hT hU, by rw [<- e]; exact q⟩
  cases x with
  | non =>
   refine go "NoneType" false (by decide) (.base .non) ?_ h
   have : ∀ T ∈ targets, isTy T "NoneType" = false := by decide
   rw [this T hT, this U hU];rfl
  | bl b => exact go "bool" _ (by decide) (.base (.bl b)) rfl h
  | int b => exact go "int" _ (by decide) (.base (.int b)) rfl h
  | str b => exact go "str" _ (by decide) (.base (.str b)) rfl h
  | ref a =>
   obtain ⟨k, ⟨hk, ty⟩, q⟩ := h;have h3 : k = "list" \/ k = "tuple" \/ k = "dict" := by simpa using hk
   exact go k _ (by rcases h3 with e | e | e <;> subst e <;> decide) ty rfl q
  | _ => exact h.elim
theorem VN {q1 q2 tpos : Pos} {j : Nat} {T U : String} {y z : Str} (hm : X.mg "isinstance" = none) (hmT : X.mg y = none) (hmU : X.mg z = none) (ha : PE X a ta) (hT : T ∈ targets := by decide) (hU : U ∈ targets := by decide)
  (hv : bootBuiltins y = some (.type T) := by decide +kernel) (hw : bootBuiltins z = some (.type U) := by decide +kernel) (hg : Gl X "isinstance" := by rfl) (hgT : Gl X y := by rfl) (hgU : Gl X z := by rfl) (hn : y ≠ "__name__" := by decide) (hd : (y == ("__debug__" : Str)) = false := by decide) (hn2 : z ≠ "__name__" := by decide) (hd2 : (z == ("__debug__" : Str)) = false := by decide)
  (hs : starEach [a, .Tuple [.Name y q1, .Name z q2] j tpos] X.env = (false, eval a X.env) :: starEach [.Tuple [.Name y q1, .Name z q2] j tpos] X.env := by rfl) :
  PE X (.Call (.Name "isinstance" p) [a, .Tuple [.Name y q1, .Name z q2] j tpos] [] pos) (cIsE2 X.K T U ta) :=
 pe_callB (MI hT hU) hg hm boot_isinstance (pa_cons ha (pa_cons (pe_tup (pa_cons (pe_bltn (v := .ty T) hgT hmT hv rfl hn hd) (pa_cons (pe_bltn (v := .ty U) hgU hmU hw rfl hn2 hd2) pa_nil))) pa_nil) hs) (he := hs)
end
structure OkMX (P : Program) (w : World) (K : aD) (mg : Str -> Option Value) (base : Heap) (k : Nat) (C m : Str) (ps : List Str) (sp : Sp) : Prop where
 ex : ∃ fd, FnOk P w K mg base (L2.CX P w) k (He.ma K (He.ga K C) m) fd ps sp /\ Binds K fd ps []
 mt : Meth K (He.ga K C) m (He.ma K (He.ga K C) m)
section
variable {X : Cx} {o e : Expr} {es : List Expr} {t : TA} {ta : TE} {apos pos p : Pos} {C m x : Str} {ps : List Str} {sp : Sp} {k j : Nat} {E : XK} {W : WX}
def cMeth (C : Addr) (m : Str) (sp : Sp) (E : XK) (ta : TE) (t : TA) : TE := fun σ H Q => ta σ H fun x H1 => match x with
 | .ref a => ∃ dx fs, H1 a = some (.ins C dx fs) /\ fs.lookup m = none /\ t σ H1 fun vs H2 => sp (.ref a :: vs) H2 Q E
 | _ => False
def cFld (C : Addr) (f : Str) (ta : TE) : TE := fun σ H Q => ta σ H fun x H1 => match x with
 | .ref a => ∃ dx fs v, H1 a = some (.ins C dx fs) /\ fs.lookup f = some v /\ Q v H1
 | _ => False
theorem e_fld {C : Addr} {f : Str} (c : Cls X.K C) (n : NoAttr X.K C f) (he : PE X e ta) (hb : attributeBase e f X.env (eval e X.env) = eval e X.env := by rfl) : PE X (.Attribute e f pos) (cFld C f ta) := by
 refine ⟨fun pins s σ H Q I h => ?_⟩
 refine attr_of hb (thn (he.run pins s σ H _ I h) fun u s1 hh => ?_)
 obtain ⟨x, H1, I1, rx, hq⟩ := hh;cases x with
 | ref a =>
  obtain ⟨dx, fs, v, ea, l, q⟩ := hq;obtain rfl : u = Value.ref a := rx;exact getattr_ok I1 ea c n l fun _ _ I2 ru => ⟨v, H1, I2, ru, q⟩
 | _ => exact hq.elim
def cSetF (C : Addr) (f : Str) (ta tv : TE) : TS := fun D σ H => tv σ H fun y H1 => ta σ H1 fun x H2 => match x with
 | .ref a => ∃ dx fs, H2 a = some (.ins C dx fs) /\ fs.length < 1000 /\ D.nx σ (upd H2 a (.ins C dx (putF f y fs)))
 | _ => False
theorem To {C : Addr} {f : Str} {value : Expr} {tv : TE} {pos' : Pos} (c : Cls X.K C) (n : NoAttr X.K C f) (ha : PE X o ta) (hv : PE X value tv) (hs : swapsWith value (some (.Attribute o f pos')) pos.line X.env = pure false := by rfl) : PS X (.Assign [.Attribute o f pos'] value pos) (cSetF C f ta tv) := by
 refine ⟨fun pins s σ H D I h => ?_⟩
 refine plainObj_wpAny_Assign_Attribute (thn (hv.run pins s σ H _ I h) fun u s1 hh => ?_) hs
 obtain ⟨y, H1, I1, ry, q⟩ := hh;refine thn (ha.run pins s1 σ H1 _ I1 q) fun ov s2 hh => ?_
 obtain ⟨x, H2, I2, rx, hq⟩ := hh;cases x with
 | ref a =>
  obtain ⟨dx, fs, ea, l, q2⟩ := hq;obtain rfl : ov = Value.ref a := rx;exact setattr_ok I2 ea c n l ry fun _ I3 => ⟨σ, _, I3, q2⟩
 | _ => exact hq.elim
structure ClF (K : aD) (mg : Str -> Option Value) (C : Str) : Prop where
 cls : Cls K (He.ga K C)
 mak : Mk K (He.ga K C) (He.ma K (He.ga K C) "__init__")
 glo : mg C = some (.ref (He.ga K C))
def rLenO (C : Addr) (sp : Sp) (E : XK) : V -> Hp -> VK -> Prop := fun x H Q => match x with
 | .ref a => ∃ dx fs, H a = some (.ins C dx fs) /\ sp [.ref a] H (fun v H' => match v with | .int n => (0 <= n /\ n < 2 ^ 62) /\ Q (.int n) H' | _ => False) E
 | _ => False
end
abbrev IM (K : aD) (C m q : Str) (st : Stmt) : Prop := ∃ fd, FunD K m q (defArgs st) (defBody st) (defScope st) [] [] (He.ma K (He.ga K C) m) fd
section
variable {P : Program} {w : World} {K : aD} {mg : Str -> Option Value} {base : Heap}
theorem QR {C m q : Str} {st : Stmt} {N ps : List Str} {k : Nat} {sp : Sp} (F : IM K C m q st) (g : Meth K (He.ga K C) m (He.ma K (He.ga K C) m)) (S : FnScope N ps (defScope st)) (len : ∀ vs H Q E, sp vs H Q E -> vs.length = ps.length)
  (bnd : ∀ (kV doc pm : Value) (an : Option Addr) (cdv ct : Value) (us : List Value), us.length = ps.length -> bindArgs (dJ m q (defArgs st) (defBody st) (defScope st) .none kV doc pm an cdv ct) ⟨us, []⟩ = pure (ps.zip us))
  (hbody : ∀ (cdv : Value) (A : Around) (outer : List Env) (s : Shared) (H : Hp) (vs : List V) (Q : VK) (E : XK), Room k (A.deeper (envOfC q (defScope st) s.heap.objs.size (He.ma K (He.ga K C) m) cdv)) -> sp vs H Q E ->
   ∃ t, PSs (cxOf (L2.CX P w) P w K mg base N q (defScope st) (He.ma K (He.ga K C) m) cdv A outer s H E) (defBody st) t /\ t { nx := fun _ H' => Q .non H', rt := Q } (start N vs) H) : OkMX P w K mg base (k + 1) C m ps sp := by
 obtain ⟨fd, F⟩ := F;exact ⟨⟨fd, FunD.ok F S len fun cdv A outer s H vs Q E hr hsp => hbody cdv A outer s H vs Q E hr hsp, F.bindsN bnd⟩, g⟩
end
inductive D where
 | non | bl (b : Bool) | int (i : Int) | str (x : Str) | lst (xs : List D) | tup (xs : List D) | ins (C : Str) (ns : List Str) (xs : List D) | dct | opq (k : Option (Int × Int))
inductive Vl where
 | dat (d : D) | cel (n : Nat) | cels (ns : List Nat) | scr (ns : List Int) | tc (xs : List (D ⊕ Nat))
inductive Cell where
 | dead | lst (xs : List D) | ins (C : Str) (fs : List (Str × Vl)) | dct (fs : List (Str × Vl)) | lv (xs : List Vl) | dki (ks : List Int) (xs : List Vl) | dkt (ks : List (Int × Int)) (xs : List Vl)
abbrev aO := List Cell
abbrev Ev := List (Option Vl)
structure Er where
 cls : Str
 ns : List Str := []
 xs : List D := []
inductive Res (α : Type) where
 | ok (a : α) (S : aO) | err (e : Er) (S : aO) | stuck
def Res.bind {α β : Type} (r : Res α) (k : α -> aO -> Res β) : Res β := match r with
 | .ok a S => k a S
 | .err e S => .err e S
 | .stuck => .stuck
def nA (φ : List Addr) (S : aO) (a : Addr) : Prop := ∃ (n : Nat) (c : Cell), S[n]? = some c /\ c ≠ .dead /\ φ[n]? = some a
def lI (B : Addr -> Prop) (φ : List Addr) (S : aO) (a : Addr) : Prop := B a \/ nA φ S a
mutual
/-- the tree d is at v -/
def Rep (K : aD) (Bk : Addr -> Prop) (H : Hp) : D -> V -> Prop
 | .non, v => v = .non
 | .bl b, v => v = .bl b
 | .int i, v => v = .int i
 | .str x, v => v = .str x
 | .lst ds, v => ∃ a vs, v = .ref a /\ ¬ Bk a /\ H a = some (.lst vs) /\ RepL K Bk H ds vs
 | .tup ds, v => ∃ a vs, v = .ref a /\ SqT K H a vs /\ RepL K Bk H ds vs
 | .ins C ns ds, v => ∃ a dx vs, v = .ref a /\ ¬ Bk a /\ H a = some (.ins (He.ga K C) dx (ns.zip vs)) /\ RepL K Bk H ds vs
 | .dct, v => ∃ a, v = .ref a /\ ¬ Bk a /\ H a = some (.dK [])
 | .opq none, v => ∃ a, v = .ref a
 | .opq (some k), v => ∃ a, v = .ref a /\ ¬ Bk a /\ H a = some (.tup [.int k.1, .int k.2])
def RepL (K : aD) (Bk : Addr -> Prop) (H : Hp) : List D -> List V -> Prop
 | [], vs => vs = []
 | d :: ds, vs => ∃ v ws, vs = v :: ws /\ Rep K Bk H d v /\ RepL K Bk H ds ws
end
structure Kp (Bk : Addr -> Prop) (H : Hp) (Bk' : Addr -> Prop) (H' : Hp) : Prop where
 old : ∀ b o, H b = some o -> ¬ Bk b -> H' b = some o /\ ¬ Bk' b
 tup : ∀ b u, Rd H b (.tup u) -> Rd H' b (.tup u)
theorem SqT.kp {K : aD} {H H' : Hp} {a : Addr} {vs : List V} (t : ∀ b u, Rd H b (.tup u) -> Rd H' b (.tup u)) (h : SqT K H a vs) : SqT K H' a vs := by
 rcases h with h | h
 ·exact .inl (t _ _ h)
 ·exact .inr h
mutual
theorem Rep.kp {K : aD} {Bk Bk' : Addr -> Prop} {H H' : Hp} (k' : Kp Bk H Bk' H') : ∀ (d : D) (v : V), Rep K Bk H d v -> Rep K Bk' H' d v
 | .non, v, h => h
 | .bl b, v, h => h
 | .int i, v, h => h
 | .str x, v, h => h
 | .lst ds, v, ⟨a, vs, e, nb, h, r⟩ => ⟨a, vs, e, (k'.old _ _ h nb).2, (k'.old _ _ h nb).1, RepL.kp k' ds vs r⟩
 | .tup ds, v, ⟨a, vs, e, h, r⟩ => ⟨a, vs, e, SqT.kp k'.tup h, RepL.kp k' ds vs r⟩
 | .ins C ns ds, v, ⟨a, dx, vs, e, nb, h, r⟩ => ⟨a, dx, vs, e, (k'.old _ _ h nb).2, (k'.old _ _ h nb).1, RepL.kp k' ds vs r⟩
 | .dct, v, ⟨a, e, nb, h⟩ => ⟨a, e, (k'.old _ _ h nb).2, (k'.old _ _ h nb).1⟩
 | .opq none, v, h => h
 | .opq (some k), v, ⟨a, e, nb, h⟩ => ⟨a, e, (k'.old _ _ h nb).2, (k'.old _ _ h nb).1⟩
theorem RepL.kp {K : aD} {Bk Bk' : Addr -> Prop} {H H' : Hp} (k : Kp Bk H Bk' H') : ∀ (ds : List D) (vs : List V), RepL K Bk H ds vs -> RepL K Bk' H' ds vs
 | [], vs, h => h
 | d :: ds, vs, ⟨v, ws, e, h1, h2⟩ => ⟨v, ws, e, Rep.kp k d v h1, RepL.kp k ds ws h2⟩
end
def ScrAt (K : aD) (H : Hp) (a : Addr) (vs : List V) : Prop := (∃ o, H a = some (.frz o (.lst vs))) \/ SqL K (fun _ => none) a vs
theorem ScrAt.sq {K : aD} {H : Hp} {a : Addr} {vs : List V} (h : ScrAt K H a vs) : SqL K H a vs := by
 rcases h with ⟨o, h⟩ | (h | ⟨o, h⟩) | h
 ·exact .inl (.inr ⟨o, h⟩)
 ·cases h
 ·cases h
 ·exact .inr h
theorem ScrAt.keep {K : aD} {H H' : Hp} {a : Addr} {vs : List V} (h : ScrAt K H a vs) (k : ∀ o u, H a = some (.frz o u) -> H' a = some (.frz o u)) : ScrAt K H' a vs := by
 rcases h with ⟨o, h⟩ | h
 ·exact .inl ⟨o, k _ _ h⟩
 ·exact .inr h
def RepI (K : aD) (Bk : Addr -> Prop) (φ : List Addr) (H : Hp) : D ⊕ Nat -> V -> Prop
 | .inl d, v => Rep K Bk H d v
 | .inr n, v => ∃ a, v = .ref a /\ φ[n]? = some a
def RepIs (K : aD) (Bk : Addr -> Prop) (φ : List Addr) (H : Hp) : List (D ⊕ Nat) -> List V -> Prop
 | [], vs => vs = []
 | x :: xs, vs => ∃ v ws, vs = v :: ws /\ RepI K Bk φ H x v /\ RepIs K Bk φ H xs ws
theorem RepI.kp {K : aD} {Bk Bk' : Addr -> Prop} {φ φ' : List Addr} {H H' : Hp} (k : Kp Bk H Bk' H') (hφ : ∀ (n : Nat) (a : Addr), φ[n]? = some a -> φ'[n]? = some a) : ∀ {x : D ⊕ Nat} {v : V}, RepI K Bk φ H x v -> RepI K Bk' φ' H' x v
 | .inl d, v, h => Rep.kp k d v h
 | .inr n, v, ⟨a, h1, h2⟩ => ⟨a, h1, hφ _ _ h2⟩
theorem RepIs.kp {K : aD} {Bk Bk' : Addr -> Prop} {φ φ' : List Addr} {H H' : Hp} (k : Kp Bk H Bk' H') (hφ : ∀ (n : Nat) (a : Addr), φ[n]? = some a -> φ'[n]? = some a) : ∀ {xs : List (D ⊕ Nat)} {vs : List V}, RepIs K Bk φ H xs vs -> RepIs K Bk' φ' H' xs vs
 | [], vs, h => h
 | x :: xs, vs, ⟨v, ws, e, h1, h2⟩ => ⟨v, ws, e, h1.kp k hφ, RepIs.kp k hφ h2⟩
def RepV (K : aD) (B : Addr -> Prop) (φ : List Addr) (S : aO) (H : Hp) : Vl -> V -> Prop
 | .dat d, v => Rep K (lI B φ S) H d v
 | .cel n, v => ∃ a, v = .ref a /\ φ[n]? = some a
 | .cels ns, v => ∃ (a : Addr) (as : List Addr), v = .ref a /\ ¬ lI B φ S a /\ H a = some (.lst (as.map V.ref)) /\ ns.map (fun n => φ[n]?) = as.map some
 | .scr ns, v => ∃ a, v = .ref a /\ ScrAt K H a (ns.map V.int)
 | .tc xs, v => ∃ a vs, v = .ref a /\ SqT K H a vs /\ RepIs K (lI B φ S) φ H xs vs
def RepVs (K : aD) (B : Addr -> Prop) (φ : List Addr) (S : aO) (H : Hp) : List Vl -> List V -> Prop
 | [], vs => vs = []
 | d :: ds, vs => ∃ v ws, vs = v :: ws /\ RepV K B φ S H d v /\ RepVs K B φ S H ds ws
def RepF (K : aD) (B : Addr -> Prop) (φ : List Addr) (S : aO) (H : Hp) : List (Str × Vl) -> List (Str × V) -> Prop
 | [], vs => vs = []
 | d :: ds, vs => ∃ v ws, vs = (d.1, v) :: ws /\ RepV K B φ S H d.2 v /\ RepF K B φ S H ds ws
def iV (fs : List (Str × V)) : List (Key × V) := fs.map fun p => (Sum.inr p.1, p.2)
def kvI (ks : List Int) (vs : List V) : List (Key × V) := (ks.map Sum.inl).zip vs
def kvT (ks : List (Int × Int)) (vs : List V) : List (List Key × V) := (ks.map fun p => [Sum.inl p.1, Sum.inl p.2]).zip vs
def GD (K : aD) (B : Addr -> Prop) (φ : List Addr) (S : aO) (H : Hp) : Cell -> Addr -> Prop
 | .dead, _ => True
 | .lst ds, a => ∃ vs, H a = some (.lst vs) /\ RepL K (lI B φ S) H ds vs
 | .ins C fs, a => ∃ dx vfs, H a = some (.ins (He.ga K C) dx vfs) /\ RepF K B φ S H fs vfs
 | .dct fs, a => ∃ vfs, H a = some (.dK (iV vfs)) /\ RepF K B φ S H fs vfs
 | .lv xs, a => ∃ vs, H a = some (.lst vs) /\ RepVs K B φ S H xs vs
 | .dki ks xs, a => ∃ vs, H a = some (.dK (kvI ks vs)) /\ RepVs K B φ S H xs vs
 | .dkt ks xs, a => ∃ vs, H a = some (.dT (kvT ks vs)) /\ RepVs K B φ S H xs vs
structure GInv (K : aD) (B : Addr -> Prop) (φ : List Addr) (S : aO) (H : Hp) : Prop where
 len : φ.length = S.length
 ok : ∀ (n : Nat) (c : Cell) (a : Addr), S[n]? = some c -> φ[n]? = some a -> GD K B φ S H c a
 inj : ∀ (n m : Nat) (c c' : Cell) (a : Addr), S[n]? = some c -> c ≠ .dead -> S[m]? = some c' -> c' ≠ .dead -> φ[n]? = some a -> φ[m]? = some a -> n = m
 blk : ∀ a, nA φ S a -> ¬ B a
 btr : ∀ a, B a -> ∃ o, H a = some o
structure Ext (φ : List Addr) (S : aO) (H : Hp) (φ' : List Addr) (S' : aO) (H' : Hp) : Prop where
 old : ∀ b o, H b = some o -> ¬ nA φ S b -> H' b = some o /\ ¬ nA φ' S' b
 ids : ∀ (n : Nat) (a : Addr), φ[n]? = some a -> φ'[n]? = some a
section
variable {K : aD} {B : Addr -> Prop} {φ φ' φ₂ : List Addr} {S S' S₂ : aO} {H H' H₂ : Hp}
theorem Ext.refl : Ext φ S H φ S H := ⟨fun _ _ h n => ⟨h, n⟩, fun _ _ h => h⟩
theorem Ext.trans (a : Ext φ S H φ' S' H') (b : Ext φ' S' H' φ₂ S₂ H₂) : Ext φ S H φ₂ S₂ H₂ :=
 ⟨fun c o h n => b.old c o (a.old c o h n).1 (a.old c o h n).2, fun n x h => b.ids n x (a.ids n x h)⟩
theorem GInv.at_ (I : GInv K B φ S H) {a : Addr} (h : nA φ S a) : (∃ vs, H a = some (.lst vs)) \/ (∃ C dx fs, H a = some (.ins C dx fs)) \/ (∃ kvs, H a = some (.dK kvs)) \/ ∃ kvs, H a = some (.dT kvs) := by
 obtain ⟨n, c, h1, h2, h3⟩ := h;have q := I.ok n c a h1 h3;cases c with
 | dead => exact absurd rfl h2
 | lst ds => obtain ⟨vs, e, _⟩ := q; exact .inl ⟨vs, e⟩
 | ins C fs => obtain ⟨dx, vs, e, _⟩ := q; exact .inr (.inl ⟨_, dx, vs, e⟩)
 | dct fs => obtain ⟨vs, e, _⟩ := q; exact .inr (.inr (.inl ⟨_, e⟩))
 | lv xs => obtain ⟨vs, e, _⟩ := q; exact .inl ⟨vs, e⟩
 | dki ks xs => obtain ⟨vs, e, _⟩ := q; exact .inr (.inr (.inl ⟨_, e⟩))
 | dkt ks xs => obtain ⟨vs, e, _⟩ := q; exact .inr (.inr (.inr ⟨_, e⟩))
theorem GInv.some_ (I : GInv K B φ S H) {a : Addr} (h : nA φ S a) : H a ≠ none := by
 rcases I.at_ h with ⟨_, e⟩ | ⟨_, _, _, e⟩ | ⟨_, e⟩ | ⟨_, e⟩ <;> rw [e] <;> simp
theorem GInv.fresh (I : GInv K B φ S H) {a : Addr} (h : H a = none) : ¬ nA φ S a := fun q => I.some_ q h
theorem GInv.nblk (I : GInv K B φ S H) {a : Addr} (h : H a = none) : ¬ lI B φ S a := fun q => by
 rcases q with q | q
 ·obtain ⟨u, e⟩ := I.btr a q; rw [h] at e; cases e
 ·exact I.fresh h q
theorem GInv.ntup (I : GInv K B φ S H) {a : Addr} {xs : List V} (h : H a = some (.tup xs)) : ¬ nA φ S a := fun q => by
 rcases I.at_ q with ⟨_, e⟩ | ⟨_, _, _, e⟩ | ⟨_, e⟩ | ⟨_, e⟩ <;> rw [h] at e <;> cases e
theorem GInv.nfrz (I : GInv K B φ S H) {a : Addr} {o : Obj} {u : HO} (h : H a = some (.frz o u)) : ¬ nA φ S a := fun q => by
 rcases I.at_ q with ⟨_, e⟩ | ⟨_, _, _, e⟩ | ⟨_, e⟩ | ⟨_, e⟩ <;> rw [h] at e <;> cases e
theorem Ext.kp (e : Ext φ S H φ' S' H') (I : GInv K B φ S H) : Kp (lI B φ S) H (lI B φ' S') H' where
 old := fun b o h n => by
  obtain ⟨h1, h2⟩ := e.old b o h (fun q => n (.inr q))
  exact ⟨h1, fun q => by
   rcases q with q | q
   ·exact n (.inl q)
   ·exact h2 q⟩
 tup := fun b u h => by
  rcases h with h | ⟨o, h⟩
  ·exact .inl (e.old _ _ h (I.ntup h)).1
  ·exact .inr ⟨o, (e.old _ _ h (I.nfrz h)).1⟩
theorem zO (e : ∀ (n : Nat) (a : Addr), φ[n]? = some a -> φ'[n]? = some a) : ∀ (ns : List Nat) (as : List Addr), ns.map (fun n => φ[n]?) = as.map some -> ns.map (fun n => φ'[n]?) = as.map some
 | [], as, h => h
 | n :: ns, [], h => by simp at h
 | n :: ns, a :: as, h => by
  simp only [aM, List.cons.injEq] at h ⊢;exact ⟨e _ _ h.1, zO e ns as h.2⟩
theorem RepV.ext (e : Ext φ S H φ' S' H') (I : GInv K B φ S H) : ∀ {d : Vl} {v : V}, RepV K B φ S H d v -> RepV K B φ' S' H' d v
 | .dat d, v, h => Rep.kp (e.kp I) d v h
 | .cel n, v, ⟨a, h1, h2⟩ => ⟨a, h1, e.ids _ _ h2⟩
 | .cels ns, v, ⟨a, as, h1, h2, h3, h4⟩ => ⟨a, as, h1, ((e.kp I).old _ _ h3 h2).2, ((e.kp I).old _ _ h3 h2).1, zO e.ids ns as h4⟩
 | .scr ns, v, ⟨a, h1, h2⟩ => ⟨a, h1, h2.keep fun o u h => (e.old _ _ h (I.nfrz h)).1⟩
 | .tc xs, v, ⟨a, vs, h1, h2, h3⟩ => ⟨a, vs, h1, SqT.kp (e.kp I).tup h2, h3.kp (e.kp I) e.ids⟩
theorem RepVs.ext (e : Ext φ S H φ' S' H') (I : GInv K B φ S H) : ∀ {ds : List Vl} {vs : List V}, RepVs K B φ S H ds vs -> RepVs K B φ' S' H' ds vs
 | [], vs, h => h
 | d :: ds, vs, ⟨v, ws, e1, h1, h2⟩ => ⟨v, ws, e1, h1.ext e I, RepVs.ext e I h2⟩
theorem RepF.ext (e : Ext φ S H φ' S' H') (I : GInv K B φ S H) : ∀ {ds : List (Str × Vl)} {vs : List (Str × V)}, RepF K B φ S H ds vs -> RepF K B φ' S' H' ds vs
 | [], vs, h => h
 | d :: ds, vs, ⟨v, ws, e1, h1, h2⟩ => ⟨v, ws, e1, h1.ext e I, RepF.ext e I h2⟩
theorem Ext.repL (e : Ext φ S H φ' S' H') (I : GInv K B φ S H) {ds : List D} {vs : List V} (h : RepL K (lI B φ S) H ds vs) : RepL K (lI B φ' S') H' ds vs := RepL.kp (e.kp I) ds vs h
theorem dQ {B' : Addr -> Prop} (hV : ∀ {d : Vl} {v : V}, RepV K B φ S H d v -> RepV K B' φ' S' H' d v) : ∀ {ds : List Vl} {vs : List V}, RepVs K B φ S H ds vs -> RepVs K B' φ' S' H' ds vs
 | [], vs, h => h
 | d :: ds, vs, ⟨v, ws, e1, h1, h2⟩ => ⟨v, ws, e1, hV h1, dQ hV h2⟩
def RepE (K : aD) (B : Addr -> Prop) (φ : List Addr) (S : aO) (H : Hp) (ρ : Ev) (σ : L2.St) : Prop :=
 ρ.length = σ.length /\ ∀ (i : Nat) (d : Vl), ρ[i]? = some (some d) -> ∃ v, σ[i]? = some (some v) /\ RepV K B φ S H d v
theorem RepE.ext {ρ : Ev} {σ : L2.St} (e : Ext φ S H φ' S' H') (I : GInv K B φ S H) (h : RepE K B φ S H ρ σ) : RepE K B φ' S' H' ρ σ :=
 ⟨h.1, fun i d q => by
  obtain ⟨v, h1, h2⟩ := h.2 i d q;exact ⟨v, h1, h2.ext e I⟩⟩
theorem RepE.set {ρ : Ev} {σ : L2.St} {d : Vl} {v : V} (h : RepE K B φ S H ρ σ) (r : RepV K B φ S H d v) (i : Nat) : RepE K B φ S H (ρ.set i (some d)) (σ.set i (some v)) := by
 refine ⟨by simp [h.1], fun j d' q => ?_⟩
 rw [aW] at q ⊢
 by_cases e : i = j
 ·subst e
  rw [if_pos rfl] at q ⊢
  by_cases hl : i < ρ.length
  ·rw [if_pos hl] at q
   cases q;rw [if_pos (by rw [<- h.1]; exact hl)]
   exact ⟨v, rfl, r⟩
  ·rw [if_neg hl] at q; cases q
 ·rw [if_neg e] at q ⊢
  exact h.2 j d' q
theorem RepE.forget {ρ : Ev} {σ : L2.St} (h : RepE K B φ S H ρ σ) (i : Nat) : RepE K B φ S H (ρ.set i none) σ := by
 refine ⟨by simp [h.1], fun j d' q => ?_⟩
 rw [aW] at q
 by_cases e : i = j
 ·subst e
  rw [if_pos rfl] at q
  by_cases hl : i < ρ.length
  ·rw [if_pos hl] at q; cases q
  ·rw [if_neg hl] at q; cases q
 ·rw [if_neg e] at q
  exact h.2 j d' q
theorem lR {x : Cell} {p a : Addr} (hl : φ.length = S.length) : nA (φ ++ [p]) (S ++ [x]) a ↔ nA φ S a \/ (x ≠ .dead /\ a = p) := by
 constructor
 ·rintro ⟨n, c, h1, h2, h3⟩
  by_cases hn : n < S.length
  ·rw [aN hn] at h1
   rw [aN (by omega)] at h3
   exact .inl ⟨n, c, h1, h2, h3⟩
  ·have e : n = S.length := by
    have := (aI.mp h1).1;simp at this;omega
   subst e;rw [bD (bX _)] at h1;rw [<- hl, bD (bX _)] at h3;simp at h1 h3;subst h1;exact .inr ⟨h2, h3.symm⟩
 ·rintro (⟨n, c, h1, h2, h3⟩ | ⟨h, rfl⟩)
  ·exact ⟨n, c, by rw [aN (aI.mp h1).1]; exact h1, h2, by rw [aN (aI.mp h3).1]; exact h3⟩
  ·exact ⟨S.length, x, by simp, h, by rw [<- hl]; simp⟩
theorem Ext.new {p : Addr} {o : HO} (I : GInv K B φ S H) (hp : H p = none) : Ext φ S H φ S (upd H p o) :=
 ⟨fun b u h n => ⟨by rw [upd_ne (ne_of_none h hp)]; exact h, n⟩, fun _ _ h => h⟩
theorem GInv.mono {o : Ext φ S H φ S H'} (I : GInv K B φ S H) (h : ∀ (n : Nat) (c : Cell) (a : Addr), S[n]? = some c -> c ≠ .dead -> φ[n]? = some a -> H' a = H a) : GInv K B φ S H' where
 len := I.len
 ok := fun n c a h1 h2 => by
  have q := I.ok n c a h1 h2;cases c with
  | dead => trivial
  | lst ds => obtain ⟨vs, e, r⟩ := q; exact ⟨vs, by rw [h n _ a h1 (by simp) h2]; exact e, o.repL I r⟩
  | ins C fs => obtain ⟨dx, vs, e, r⟩ := q; exact ⟨dx, vs, by rw [h n _ a h1 (by simp) h2]; exact e, r.ext o I⟩
  | dct fs => obtain ⟨vs, e, r⟩ := q; exact ⟨vs, by rw [h n _ a h1 (by simp) h2]; exact e, r.ext o I⟩
  | lv xs => obtain ⟨vs, e, r⟩ := q; exact ⟨vs, by rw [h n _ a h1 (by simp) h2]; exact e, r.ext o I⟩
  | dki ks xs => obtain ⟨vs, e, r⟩ := q; exact ⟨vs, by rw [h n _ a h1 (by simp) h2]; exact e, r.ext o I⟩
  | dkt ks xs => obtain ⟨vs, e, r⟩ := q; exact ⟨vs, by rw [h n _ a h1 (by simp) h2]; exact e, r.ext o I⟩
 inj := I.inj
 blk := I.blk
 btr := fun a h => by
  obtain ⟨u, e⟩ := I.btr a h;exact ⟨u, (o.old a u e fun q => I.blk a q h).1⟩
theorem GInv.new {p : Addr} {o : HO} (I : GInv K B φ S H) (hp : H p = none) : GInv K B φ S (upd H p o) :=
 GInv.mono (o := Ext.new I hp) I fun n c a h1 h2 h3 => by
  rw [upd_ne];intro e;subst e;exact I.fresh hp ⟨n, c, h1, h2, h3⟩
theorem Ext.newC {p : Addr} {o : HO} {x : Cell} (I : GInv K B φ S H) (hp : H p = none) : Ext φ S H (φ ++ [p]) (S ++ [x]) (upd H p o) where
 old := fun b u h n => by
  have hb : b ≠ p := ne_of_none h hp;exact ⟨by rw [upd_ne hb]; exact h, fun q => by
   rcases (lR I.len).mp q with q | ⟨_, q⟩
   ·exact n q
   ·exact hb q⟩
 ids := fun n a h => by rw [aN (aI.mp h).1]; exact h
theorem GInv.newC {p : Addr} {o : HO} {x : Cell} (I : GInv K B φ S H) (hp : H p = none) (hx : x ≠ .dead -> GD K B (φ ++ [p]) (S ++ [x]) (upd H p o) x p) : GInv K B (φ ++ [p]) (S ++ [x]) (upd H p o) where
 len := by simp [I.len]
 ok := fun n c a h1 h2 => by
  by_cases hn : n < S.length
  ·rw [aN hn] at h1
   rw [aN (by rw [I.len]; exact hn)] at h2
   have q := I.ok n c a h1 h2;have ex := Ext.newC (o := o) (x := x) I hp;have ha : c ≠ .dead -> upd H p o a = H a := fun hc => by
    rw [upd_ne];intro e;subst e;exact I.fresh hp ⟨n, c, h1, hc, h2⟩
   cases c with
   | dead => trivial
   | lst ds => obtain ⟨vs, e, r⟩ := q; exact ⟨vs, by rw [ha (by simp)]; exact e, ex.repL I r⟩
   | ins C fs => obtain ⟨dx, vs, e, r⟩ := q; exact ⟨dx, vs, by rw [ha (by simp)]; exact e, r.ext ex I⟩
   | dct fs => obtain ⟨vs, e, r⟩ := q; exact ⟨vs, by rw [ha (by simp)]; exact e, r.ext ex I⟩
   | lv xs => obtain ⟨vs, e, r⟩ := q; exact ⟨vs, by rw [ha (by simp)]; exact e, r.ext ex I⟩
   | dki ks xs => obtain ⟨vs, e, r⟩ := q; exact ⟨vs, by rw [ha (by simp)]; exact e, r.ext ex I⟩
   | dkt ks xs => obtain ⟨vs, e, r⟩ := q; exact ⟨vs, by rw [ha (by simp)]; exact e, r.ext ex I⟩
  ·have e : n = S.length := by
    have := (aI.mp h1).1;simp at this;omega
   subst e;rw [bD (bX _)] at h1;rw [<- I.len, bD (bX _)] at h2;simp at h1 h2;subst h1 h2;cases x with
   | dead => trivial
   | _ => exact hx (by simp)
 inj := fun n m c c' a h1 h2 h3 h4 h5 h6 => by
  have key : ∀ (n : Nat) (c : Cell), (S ++ [x])[n]? = some c -> (n < S.length /\ S[n]? = some c) \/ n = S.length := fun n c h => by
   by_cases hn : n < S.length
   ·rw [aN hn] at h; exact .inl ⟨hn, h⟩
   ·have := (aI.mp h).1
    simp at this;exact .inr (by omega)
  have kφ : ∀ n : Nat, n < S.length -> (φ ++ [p])[n]? = φ[n]? := fun n hn => aN (by rw [I.len]; exact hn)
  have kp : (φ ++ [p])[S.length]? = some p := by rw [<- I.len]; simp
  rcases key n c h1 with ⟨hn, e1⟩ | e1 <;> rcases key m c' h3 with ⟨hm, e2⟩ | e2
  ·rw [kφ n hn] at h5
   rw [kφ m hm] at h6;exact I.inj n m c c' a e1 h2 e2 h4 h5 h6
  ·subst e2
   rw [kp] at h6;cases h6;rw [kφ n hn] at h5;exact absurd ⟨n, c, e1, h2, h5⟩ (I.fresh hp)
  ·subst e1
   rw [kp] at h5;cases h5;rw [kφ m hm] at h6;exact absurd ⟨m, c', e2, h4, h6⟩ (I.fresh hp)
  ·omega
 blk := fun a h => by
  rcases (lR I.len).mp h with h | ⟨_, h⟩
  ·exact I.blk a h
  ·rw [h]; intro q; obtain ⟨u, e⟩ := I.btr p q; rw [hp] at e; cases e
 btr := fun a h => by
  obtain ⟨u, e⟩ := I.btr a h;exact ⟨u, by rw [upd_ne (ne_of_none e hp)]; exact e⟩
theorem FK {n : Nat} {c x : Cell} {a : Addr} (h : S[n]? = some c) (hc : c ≠ .dead) (hx : x ≠ .dead) : nA φ (S.set n x) a ↔ nA φ S a := by
 constructor
 ·rintro ⟨m, c', h1, h2, h3⟩
  rw [aW] at h1
  by_cases e : n = m
  ·subst e
   exact ⟨n, c, h, hc, h3⟩
  ·rw [if_neg e] at h1
   exact ⟨m, c', h1, h2, h3⟩
 ·rintro ⟨m, c', h1, h2, h3⟩
  by_cases e : n = m
  ·subst e
   exact ⟨n, x, by rw [aW, if_pos rfl, if_pos (aI.mp h).1], hx, h3⟩
  ·exact ⟨m, c', by rw [aW, if_neg e]; exact h1, h2, h3⟩
theorem DV {n : Nat} {a : Addr} (h : nA φ (S.set n .dead) a) : nA φ S a := by
 obtain ⟨m, c', h1, h2, h3⟩ := h;rw [aW] at h1
 by_cases e : n = m
 ·rw [if_pos e] at h1
  by_cases hl : n < S.length
  ·rw [if_pos hl] at h1; cases h1; exact absurd rfl h2
  ·rw [if_neg hl] at h1; cases h1
 ·rw [if_neg e] at h1
  exact ⟨m, c', h1, h2, h3⟩
theorem Ext.put {n : Nat} {c x : Cell} {a : Addr} {o : HO} (hn : S[n]? = some c) (hc : c ≠ .dead) (ha : φ[n]? = some a) (hx : x ≠ .dead) : Ext φ S H φ (S.set n x) (upd H a o) where
 old := fun b u h nb => by
  have hb : b ≠ a := fun e => by subst e; exact nb ⟨n, c, hn, hc, ha⟩
  exact ⟨by rw [upd_ne hb]; exact h, fun q => nb ((FK hn hc hx).mp q)⟩
 ids := fun _ _ h => h
theorem GInv.put {n : Nat} {c x : Cell} {a : Addr} {o : HO} (I : GInv K B φ S H) (hn : S[n]? = some c) (hc : c ≠ .dead) (ha : φ[n]? = some a) (hx : x ≠ .dead) (ok : GD K B φ (S.set n x) (upd H a o) x a) : GInv K B φ (S.set n x) (upd H a o) where
 len := by simp [I.len]
 ok := fun m c' b h1 h2 => by
  by_cases e : n = m
  ·subst e
   rw [aW, if_pos rfl, if_pos (aI.mp hn).1] at h1;cases h1;rw [ha] at h2;cases h2;exact ok
  ·rw [aW, if_neg e] at h1
   have q := I.ok m c' b h1 h2;have ex := Ext.put (H := H) (o := o) hn hc ha hx;have hb : c' ≠ .dead -> upd H a o b = H b := fun hc' => upd_ne fun e2 => by
    subst e2;exact e (I.inj n m c c' b hn hc h1 hc' ha h2)
   cases c' with
   | dead => trivial
   | lst ds => obtain ⟨vs, e, r⟩ := q; exact ⟨vs, by rw [hb (by simp)]; exact e, ex.repL I r⟩
   | ins C fs => obtain ⟨dx, vs, e, r⟩ := q; exact ⟨dx, vs, by rw [hb (by simp)]; exact e, r.ext ex I⟩
   | dct fs => obtain ⟨vs, e, r⟩ := q; exact ⟨vs, by rw [hb (by simp)]; exact e, r.ext ex I⟩
   | lv xs => obtain ⟨vs, e, r⟩ := q; exact ⟨vs, by rw [hb (by simp)]; exact e, r.ext ex I⟩
   | dki ks xs => obtain ⟨vs, e, r⟩ := q; exact ⟨vs, by rw [hb (by simp)]; exact e, r.ext ex I⟩
   | dkt ks xs => obtain ⟨vs, e, r⟩ := q; exact ⟨vs, by rw [hb (by simp)]; exact e, r.ext ex I⟩
 inj := fun i j d d' b h1 h2 h3 h4 h5 h6 => by
  have key : ∀ (i : Nat) (d : Cell), (S.set n x)[i]? = some d -> d ≠ .dead -> ∃ d0, S[i]? = some d0 /\ d0 ≠ .dead := fun i d h hd => by
   by_cases e : n = i
   ·subst e; exact ⟨c, hn, hc⟩
   ·rw [aW, if_neg e] at h; exact ⟨d, h, hd⟩
  obtain ⟨d0, e1, e2⟩ := key i d h1 h2;obtain ⟨d1, e3, e4⟩ := key j d' h3 h4;exact I.inj i j d0 d1 b e1 e2 e3 e4 h5 h6
 blk := fun b h => I.blk b ((FK hn hc hx).mp h)
 btr := fun b h => by
  obtain ⟨u, e⟩ := I.btr b h;exact ⟨u, by rw [upd_ne]; exact e; intro q; subst q; exact I.blk b ⟨n, c, hn, hc, ha⟩ h⟩
theorem Ext.kill {n : Nat} : Ext φ S H φ (S.set n .dead) H := ⟨fun b o h nb => ⟨h, fun q => nb (DV q)⟩, fun _ _ h => h⟩
theorem GInv.kill {n : Nat} (I : GInv K B φ S H) : GInv K B φ (S.set n .dead) H where
 len := by simp [I.len]
 ok := fun m c' b h1 h2 => by
  by_cases e : n = m
  ·rw [aW, if_pos e] at h1
   by_cases hl : n < S.length
   ·rw [if_pos hl] at h1; cases h1; trivial
   ·rw [if_neg hl] at h1; cases h1
  ·rw [aW, if_neg e] at h1
   have q := I.ok m c' b h1 h2;have ex := Ext.kill (φ := φ) (S := S) (H := H) (n := n);cases c' with
   | dead => trivial
   | lst ds => obtain ⟨vs, e, r⟩ := q; exact ⟨vs, e, ex.repL I r⟩
   | ins C fs => obtain ⟨dx, vs, e, r⟩ := q; exact ⟨dx, vs, e, r.ext ex I⟩
   | dct fs => obtain ⟨vs, e, r⟩ := q; exact ⟨vs, e, r.ext ex I⟩
   | lv xs => obtain ⟨vs, e, r⟩ := q; exact ⟨vs, e, r.ext ex I⟩
   | dki ks xs => obtain ⟨vs, e, r⟩ := q; exact ⟨vs, e, r.ext ex I⟩
   | dkt ks xs => obtain ⟨vs, e, r⟩ := q; exact ⟨vs, e, r.ext ex I⟩
 inj := fun i j d d' b h1 h2 h3 h4 h5 h6 => by
  have key : ∀ (i : Nat) (d : Cell), (S.set n .dead)[i]? = some d -> d ≠ .dead -> S[i]? = some d := fun i d h hd => by
   rw [aW] at h
   by_cases e : n = i
   ·rw [if_pos e] at h
    by_cases hl : n < S.length
    ·rw [if_pos hl] at h; cases h; exact absurd rfl hd
    ·rw [if_neg hl] at h; cases h
   ·rw [if_neg e] at h; exact h
  exact I.inj i j d d' b (key i d h1 h2) h2 (key j d' h3 h4) h4 h5 h6
 blk := fun b h => I.blk b (DV h)
 btr := I.btr
theorem GInv.killed {n : Nat} {c : Cell} {a : Addr} (I : GInv K B φ S H) (hn : S[n]? = some c) (hc : c ≠ .dead) (ha : φ[n]? = some a) : ¬ lI B φ (S.set n .dead) a := fun q => by
 rcases q with q | ⟨m, c', h1, h2, h3⟩
 ·exact I.blk a ⟨n, c, hn, hc, ha⟩ q
 ·rw [aW] at h1
  by_cases e : n = m
  ·rw [if_pos e] at h1
   by_cases hl : n < S.length
   ·rw [if_pos hl] at h1; cases h1; exact h2 rfl
   ·rw [if_neg hl] at h1; cases h1
  ·rw [if_neg e] at h1
   exact e (I.inj n m c c' a hn hc h1 h2 ha h3)
end
abbrev FE := Ev -> aO -> Res Vl
abbrev FT := Ev -> aO -> Res Bool
abbrev FA := Ev -> aO -> Res (List Vl)
abbrev FO := Ev -> aO -> Res (Option Int)
abbrev Rl (α β : Type) := (Addr -> Prop) -> List Addr -> aO -> Hp -> α -> β -> Prop
def RepX (K : aD) (B : Addr -> Prop) (φ : List Addr) (S : aO) (H : Hp) (e : Er) (c : Value) (x : Option Addr) : Prop :=
 c = .ref (He.ga K e.cls) /\ ((e.ns = [] /\ x = none) \/ ∃ d vs, x = some d /\ H d = some (.xd (e.ns.zip vs)) /\ RepL K (lI B φ S) H e.xs vs)
section
variable {α β α' β' : Type}
def Fin (K : aD) (W : WX) (σ : L2.St) (R : Rl α β) (B : Addr -> Prop) (φ : List Addr) (S : aO) (H : Hp) (r : Res α) (Q : β -> Hp -> Prop) : Prop := match r with
 | .ok d S' => ∀ φ' v H', GInv K B φ' S' H' -> Ext φ S H φ' S' H' -> R B φ' S' H' d v -> Q v H'
 | .err e S' => ∀ φ' c x H', GInv K B φ' S' H' -> Ext φ S H φ' S' H' -> RepX K B φ' S' H' e c x -> W c x σ H'
 | .stuck => False
def rd (K : aD) (W : WX) (R : Rl α β) (m : Ev -> aO -> Res α) : L2.St -> Hp -> (β -> Hp -> Prop) -> Prop := fun σ H Q =>
 ∃ B φ S ρ, GInv K B φ S H /\ RepE K B φ S H ρ σ /\ Fin K W σ R B φ S H (m ρ S) Q
end
def RB : Rl Bool Bool := fun _ _ _ _ b c => c = b
def RO : Rl (Option Int) (Option Int) := fun _ _ _ _ b c => c = b
abbrev cZ (K : aD) (W : WX) (m : FE) : TE := rd K W (RepV K) m
abbrev yS (K : aD) (W : WX) (m : FT) : TT := rd K W RB m
abbrev GF (K : aD) (W : WX) (m : FA) : TA := rd K W (RepVs K) m
abbrev rdO (K : aD) (W : WX) (m : FO) : TO := rd K W RO m
section
variable {α β α' β' : Type} {K : aD} {W : WX} {σ : L2.St} {R : Rl α β} {R' : Rl α' β'} {B : Addr -> Prop} {φ φ' : List Addr} {S S' : aO} {H H' : Hp}
theorem Fin.ext {r : Res α} {Q : β -> Hp -> Prop} (f : Fin K W σ R B φ S H r Q) (e : Ext φ S H φ' S' H') : Fin K W σ R B φ' S' H' r Q := by
 cases r with
 | ok d S1 => exact fun φ1 v H1 I1 X r => f φ1 v H1 I1 (e.trans X) r
 | err x S1 => exact fun φ1 c x H1 I1 X r => f φ1 c x H1 I1 (e.trans X) r
 | stuck => exact f
theorem cU {m : Ev -> aO -> Res α} {k : α -> Ev -> aO -> Res α'} {Q : β' -> Hp -> Prop} {Q1 : β -> Hp -> Prop} (h : rd K W R' (fun ρ S => (m ρ S).bind fun a S' => k a ρ S') σ H Q)
  (hk : ∀ B φ S ρ d v H1, GInv K B φ S H1 -> RepE K B φ S H1 ρ σ -> R B φ S H1 d v -> Fin K W σ R' B φ S H1 (k d ρ S) Q -> Q1 v H1) : rd K W R m σ H Q1 := by
 obtain ⟨B, φ, S, ρ, I, E, f⟩ := h;refine ⟨B, φ, S, ρ, I, E, ?_⟩
 dsimp only at f;cases e : m ρ S with
 | stuck => rw [e] at f; exact f
 | err x S' => rw [e] at f; exact f
 | ok d S' =>
  rw [e] at f;exact fun φ' v H' I' X r => hk B φ' S' ρ d v H' I' (E.ext X I) r (Fin.ext f X)
theorem kU {ρ : Ev} {m : Ev -> aO -> Res α} {k : α -> aO -> Res α'} {Q : β' -> Hp -> Prop} {Q1 : β -> Hp -> Prop} (I : GInv K B φ S H) (E : RepE K B φ S H ρ σ) (f : Fin K W σ R' B φ S H ((m ρ S).bind k) Q)
  (hk : ∀ φ' S' d v H1, GInv K B φ' S' H1 -> Ext φ S H φ' S' H1 -> RepE K B φ' S' H1 ρ σ -> R B φ' S' H1 d v -> Fin K W σ R' B φ' S' H1 (k d S') Q -> Q1 v H1) : rd K W R m σ H Q1 := by
 refine ⟨B, φ, S, ρ, I, E, ?_⟩
 cases e : m ρ S with
 | stuck => rw [e] at f; exact f
 | err x S' => rw [e] at f; exact f
 | ok d S' =>
  rw [e] at f;exact fun φ' v H' I' X r => hk φ' S' d v H' I' X (E.ext X I) r (Fin.ext f X)
theorem Fin.now {d : α} {v : β} {Q : β -> Hp -> Prop} (f : Fin K W σ R B φ S H (.ok d S) Q) (I : GInv K B φ S H) (r : R B φ S H d v) : Q v H := f φ v H I Ext.refl r
end
def newL (c : Bool) (ds : List D) (S : aO) : Res Vl := if c then .ok (.cel S.length) (S ++ [.lst ds]) else .ok (.dat (.lst ds)) S
section
variable {K : aD} {W : WX} {σ : L2.St} {B : Addr -> Prop} {φ φ' : List Addr} {S S' : aO} {H H' : Hp} {Q : VK}
theorem oN {l : List Addr} {p : Addr} : (l ++ [p])[l.length]? = some p := by simp
theorem Fin.newT {ds : List D} {vs : List V} {p : Addr} (f : Fin K W σ (RepV K) B φ S H (.ok (.dat (.tup ds)) S) Q) (I : GInv K B φ S H) (r : RepL K (lI B φ S) H ds vs) (hp : H p = none) : Q (.ref p) (upd H p (.tup vs)) :=
 f φ _ _ (I.new hp) (Ext.new I hp) ⟨p, vs, rfl, .inl (.inl upd_same), (Ext.new I hp).repL I r⟩
theorem Fin.newL {c : Bool} {ds : List D} {vs : List V} {p : Addr} (f : Fin K W σ (RepV K) B φ S H (newL c ds S) Q) (I : GInv K B φ S H) (r : RepL K (lI B φ S) H ds vs) (hp : H p = none) : Q (.ref p) (upd H p (.lst vs)) := by
 unfold PH.newL at f;cases c with
 | false =>
  refine f φ _ _ (I.new hp) (Ext.new I hp) ⟨p, vs, rfl, I.nblk hp, upd_same, (Ext.new I hp).repL I r⟩
 | true =>
  have X := Ext.newC (o := .lst vs) (x := .lst ds) I hp;refine f (φ ++ [p]) _ _ (I.newC hp fun _ => ⟨vs, upd_same, X.repL I r⟩) X ⟨p, rfl, ?_⟩
  rw [<- I.len];exact oN
end
instance instIntMulOk (a b : Int) : Decidable (IntMulOk a b) := by unfold IntMulOk; infer_instance
instance instCDiv (a b : Int) : Decidable (CDiv a b) := by unfold CDiv; infer_instance
instance instCPow (a b : Int) : Decidable (CPow a b) := by unfold CPow; infer_instance
def lk : Ev -> Nat -> Option Vl
 | [], _ => none
 | x :: _, 0 => x
 | _ :: r, n + 1 => lk r n
theorem Nd : ∀ {ρ : Ev} {i : Nat} {d : Vl}, lk ρ i = some d -> ρ[i]? = some (some d)
 | [], _, _, h => by cases h
 | x :: _, 0, d, h => by
  have e : x = some d := h;rw [e]; rfl
 | _ :: r, n + 1, d, h => by
  have e := Nd (ρ := r) (i := n) (d := d) h
  simpa using e
def aC (i : Nat) : FE := fun ρ S => match lk ρ i with
 | some d => .ok d S
 | none => .stuck
def mC (d : D) : FE := fun _ S => .ok (.dat d) S
def aR (f : Vl -> Vl -> aO -> Res Vl) (a b : FE) : FE := fun ρ S => (a ρ S).bind fun x S1 => (b ρ S1).bind fun y S2 => f x y S2
def m1 (f : Vl -> aO -> Res Vl) (a : FE) : FE := fun ρ S => (a ρ S).bind fun x S1 => f x S1
def fF (K : aD) (r : R2) (f : Vl -> Vl -> aO -> Res Vl) : Prop := ∀ {W : WX} {σ : L2.St} {B : Addr -> Prop} {φ : List Addr} {S : aO} {H : Hp} {x y : V} {d e : Vl} {Q : VK}, GInv K B φ S H -> RepV K B φ S H d x -> RepV K B φ S H e y -> Fin K W σ (RepV K) B φ S H (f d e S) Q -> r x y H Q
def G9 (K : aD) (r : V -> Hp -> VK -> Prop) (f : Vl -> aO -> Res Vl) : Prop := ∀ {W : WX} {σ : L2.St} {B : Addr -> Prop} {φ : List Addr} {S : aO} {H : Hp} {x : V} {d : Vl} {Q : VK}, GInv K B φ S H -> RepV K B φ S H d x -> Fin K W σ (RepV K) B φ S H (f d S) Q -> r x H Q
section
variable {X : Cx} {W : WX} {e a b c : Expr} {pos p : Pos} {x : Str}
theorem fv (i : Nat) (hN : X.N[i]? = some x := by rfl) (hv : Vis X.env.scope x := by first | exact Dw rfl | exact Bg (Dw rfl) | exact Bg (Bg rfl)) (hd : (x == ("__debug__" : Str)) = false := by decide)
  (hcd : (x == ("__classdict__" : Str)) = false := by decide) : PE X (.Name x pos) (cZ X.K W (aC i)) := dG (pe_var hN hv hd hcd) fun σ H Q h => by
 obtain ⟨B, φ, S, ρ, I, E, f⟩ := h;unfold aC at f;cases q : lk ρ i with
 | none => rw [q] at f; exact f.elim
 | some d =>
  rw [q] at f;obtain ⟨v, h1, h2⟩ := E.2 i d (Nd q);exact ⟨v, h1, f.now I h2⟩
theorem On {v : V} {d : D} (h : PE X e (tC v)) (r : ∀ Bk H, Rep X.K Bk H d v) : PE X e (cZ X.K W (mC d)) := dG h fun σ H Q h => by
 obtain ⟨B, φ, S, ρ, I, E, f⟩ := h;exact Fin.now (v := v) f I (r _ _)
theorem CG {K : aD} {r : R2} {f : Vl -> Vl -> aO -> Res Vl} {ma mb : FE} {σ : L2.St} {H : Hp} {Q : VK} (s : fF K r f) (h : cZ K W (aR f ma mb) σ H Q) : tOp r (cZ K W ma) (cZ K W mb) σ H Q :=
 cU (k := fun x ρ S => (mb ρ S).bind fun y S2 => f x y S2) h fun B φ S ρ d v H1 I E r1 f' => kU I E f' fun φ' S' e w H2 I2 X2 E2 r2 f2 => s I2 (r1.ext X2 I) r2 f2
theorem cP {op : Operator} {r : R2} {f : Vl -> Vl -> aO -> Res Vl} {ma mb : FE} (o : OpR X (binaryOp op) r) (s : fF X.K r f) (ha : PE X a (cZ X.K W ma)) (hb : PE X b (cZ X.K W mb)) : PE X (.BinOp a op b pos) (cZ X.K W (aR f ma mb)) :=
 dG (pe_op o ha hb) fun σ H Q h => CG s h
theorem rF {op : CmpOp} {r : R2} {f : Vl -> Vl -> aO -> Res Vl} {ma mb : FE} (o : OpR X (compareOp op) r) (s : fF X.K r f) (ha : PE X a (cZ X.K W ma)) (hb : PE X b (cZ X.K W mb)) (hm : behindInMarks op b = false := by rfl) : PE X (.Compare a [op] [b] pos) (cZ X.K W (aR f ma mb)) :=
 dG (e_cmp o ha hb hm) fun σ H Q h => CG s h
theorem N2 {K : aD} {r : V -> Hp -> VK -> Prop} {f : Vl -> aO -> Res Vl} {ma : FE} {σ : L2.St} {H : Hp} {Q : VK} (s : G9 K r f) (h : cZ K W (m1 f ma) σ H Q) : cZ K W ma σ H fun x H1 => r x H1 Q :=
 cU (k := fun x ρ S => f x S) h fun B φ S ρ d v H1 I E r1 f' => s I r1 f'
def qT : Vl -> Vl -> aO -> Res Vl
 | .dat (.int i), .dat (.int j), S => .ok (.dat (.int (i - j))) S
 | _, _, _ => .stuck
def oQ : Vl -> Vl -> aO -> Res Vl
 | .dat (.int i), .dat (.int j), S => if IntMulOk i j then .ok (.dat (.int (i * j))) S else .stuck
 | _, _, _ => .stuck
def xJ : Vl -> Vl -> aO -> Res Vl
 | .dat (.int i), .dat (.int j), S => if 0 < j then .ok (.dat (.int (i % j))) S else .stuck
 | _, _, _ => .stuck
def uV : Vl -> Vl -> aO -> Res Vl
 | .dat (.int i), .dat (.int j), S => if CDiv i j then .ok (.dat (.int (i / j))) S else .stuck
 | _, _, _ => .stuck
def M8 : Vl -> Vl -> aO -> Res Vl
 | .dat (.int i), .dat (.int j), S => if CPow i j then .ok (.dat (.int (i ^ j.toNat))) S else .stuck
 | _, _, _ => .stuck
def Hl : Vl -> Vl -> aO -> Res Vl
 | .dat (.int i), .dat (.int j), S => .ok (.dat (.bl (decide (i < j)))) S
 | _, _, _ => .stuck
def MS : Vl -> Vl -> aO -> Res Vl
 | .dat (.int i), .dat (.int j), S => .ok (.dat (.bl (decide (i <= j)))) S
 | _, _, _ => .stuck
def Dq : Vl -> Vl -> aO -> Res Vl
 | .dat (.int i), .dat (.int j), S => .ok (.dat (.bl (decide (j < i)))) S
 | _, _, _ => .stuck
def fGe : Vl -> Vl -> aO -> Res Vl
 | .dat (.int i), .dat (.int j), S => .ok (.dat (.bl (decide (j <= i)))) S
 | _, _, _ => .stuck
variable {K : aD}
theorem nG : fF K NF qT := fun {W σ B φ S H x y d e Q} I r1 r2 f => by
 unfold qT at f;split at f
 ·cases r1; cases r2; exact Fin.now f I rfl
 ·exact f.elim
theorem qB : fF K Sf oQ := fun {W σ B φ S H x y d e Q} I r1 r2 f => by
 unfold oQ at f;split at f
 ·cases r1; cases r2
  split at f
  ·rename_i h; exact ⟨h, Fin.now f I rfl⟩
  ·exact f.elim
 ·exact f.elim
theorem vK : fF K Sh xJ := fun {W σ B φ S H x y d e Q} I r1 r2 f => by
 unfold xJ at f;split at f
 ·cases r1; cases r2
  split at f
  ·rename_i h; exact ⟨h, Fin.now f I rfl⟩
  ·exact f.elim
 ·exact f.elim
theorem CP : fF K NH uV := fun {W σ B φ S H x y d e Q} I r1 r2 f => by
 unfold uV at f;split at f
 ·cases r1; cases r2
  split at f
  ·rename_i h; exact ⟨h, Fin.now f I rfl⟩
  ·exact f.elim
 ·exact f.elim
theorem SX : fF K Se M8 := fun {W σ B φ S H x y d e Q} I r1 r2 f => by
 unfold M8 at f;split at f
 ·cases r1; cases r2
  split at f
  ·rename_i h; exact ⟨h, Fin.now f I rfl⟩
  ·exact f.elim
 ·exact f.elim
theorem Aj : fF K rLtC Hl := fun {W σ B φ S H x y d e Q} I r1 r2 f => by
 unfold Hl at f;split at f
 ·cases r1; cases r2; exact Fin.now f I rfl
 ·exact f.elim
theorem Gj : fF K rLeC MS := fun {W σ B φ S H x y d e Q} I r1 r2 f => by
 unfold MS at f;split at f
 ·cases r1; cases r2; exact Fin.now f I rfl
 ·exact f.elim
theorem xT : fF K rGtC Dq := fun {W σ B φ S H x y d e Q} I r1 r2 f => by
 unfold Dq at f;split at f
 ·cases r1; cases r2; exact Fin.now f I rfl
 ·exact f.elim
theorem s_ge : fF K rGeC fGe := fun {W σ B φ S H x y d e Q} I r1 r2 f => by
 unfold fGe at f;split at f
 ·cases r1; cases r2; exact Fin.now f I rfl
 ·exact f.elim
def sV : Vl -> aO -> Res Vl
 | .dat (.int i), S => .ok (.dat (.int (-i))) S
 | _, _ => .stuck
theorem oP {ma : FE} (ha : PE X a (cZ X.K W ma)) : PE X (.UnaryOp .USub a pos) (cZ X.K W (m1 sV ma)) :=
 dG (pe_un Pv ha) fun σ H Q h => N2 (r := cNeg) (fun {W σ B φ S H x d Q} I r f => by
  unfold sV at f;split at f
  ·cases r; exact Fin.now f I rfl
  ·exact f.elim) h
theorem RepL.len {Bk : Addr -> Prop} {H : Hp} : ∀ {ds : List D} {vs : List V}, RepL K Bk H ds vs -> vs.length = ds.length
 | [], vs, h => by cases h; rfl
 | d :: ds, vs, ⟨v, ws, e, _, h2⟩ => by subst e; simp [RepL.len h2]
theorem RepL.get {Bk : Addr -> Prop} {H : Hp} : ∀ {ds : List D} {vs : List V} {i : Nat} {d : D}, RepL K Bk H ds vs -> ds[i]? = some d -> ∃ v, vs[i]? = some v /\ Rep K Bk H d v
 | [], vs, i, d, h, q => by simp at q
 | d :: ds, vs, 0, d', ⟨v, ws, e, h1, h2⟩, q => by simp at q; subst q e; exact ⟨v, rfl, h1⟩
 | d :: ds, vs, i + 1, d', ⟨v, ws, e, h1, h2⟩, q => by
  subst e;obtain ⟨v', h3, h4⟩ := RepL.get (i := i) (d := d') h2 (by simpa using q)
  exact ⟨v', by simpa using h3, h4⟩
theorem RepL.append {Bk : Addr -> Prop} {H : Hp} : ∀ {ds es : List D} {vs ws : List V}, RepL K Bk H ds vs -> RepL K Bk H es ws -> RepL K Bk H (ds ++ es) (vs ++ ws)
 | [], es, vs, ws, h, h' => by cases h; exact h'
 | d :: ds, es, vs, ws, ⟨v, us, e, h1, h2⟩, h' => by subst e; exact ⟨v, us ++ ws, rfl, h1, RepL.append h2 h'⟩
theorem RepL.take {Bk : Addr -> Prop} {H : Hp} : ∀ {ds : List D} {vs : List V} (n : Nat), RepL K Bk H ds vs -> RepL K Bk H (ds.take n) (vs.take n)
 | ds, vs, 0, h => by simp [RepL]
 | [], vs, n + 1, h => by cases h; rfl
 | d :: ds, vs, n + 1, ⟨v, us, e, h1, h2⟩ => by subst e; exact ⟨v, us.take n, rfl, h1, RepL.take n h2⟩
theorem RepL.drop {Bk : Addr -> Prop} {H : Hp} : ∀ {ds : List D} {vs : List V} (n : Nat), RepL K Bk H ds vs -> RepL K Bk H (ds.drop n) (vs.drop n)
 | ds, vs, 0, h => h
 | [], vs, n + 1, h => by cases h; rfl
 | d :: ds, vs, n + 1, ⟨v, us, e, h1, h2⟩ => by subst e; exact RepL.drop n h2
theorem RepL.set {Bk : Addr -> Prop} {H : Hp} {d : D} {v : V} (r : Rep K Bk H d v) : ∀ {ds : List D} {vs : List V} (n : Nat), RepL K Bk H ds vs -> RepL K Bk H (ds.set n d) (vs.set n v)
 | [], vs, n, h => by cases h; rfl
 | _ :: ds, vs, 0, ⟨_, us, e, h1, h2⟩ => by subst e; exact ⟨v, us, rfl, r, h2⟩
 | d' :: ds, vs, n + 1, ⟨v', us, e, h1, h2⟩ => by subst e; exact ⟨v', us.set n v, rfl, h1, RepL.set r n h2⟩
theorem RepL.snoc {Bk : Addr -> Prop} {H : Hp} {ds : List D} {vs : List V} {d : D} {v : V} (h : RepL K Bk H ds vs) (r : Rep K Bk H d v) : RepL K Bk H (ds ++ [d]) (vs ++ [v]) := h.append ⟨v, [], rfl, r, rfl⟩
theorem RepL.atI {Bk : Addr -> Prop} {H : Hp} {ds : List D} {vs : List V} {i : Int} {d : D} (h : RepL K Bk H ds vs) (q : L2.atI ds i = some d) : ∃ v, L2.atI vs i = some v /\ Rep K Bk H d v := by
 unfold L2.atI at q ⊢;rw [h.len];cases e : ixN ds.length i with
 | none => rw [e] at q; cases q
 | some j =>
  rw [e] at q;exact h.get (i := j) q
theorem RepVs.len {B : Addr -> Prop} {φ : List Addr} {S : aO} {H : Hp} : ∀ {ds : List Vl} {vs : List V}, RepVs K B φ S H ds vs -> vs.length = ds.length
 | [], vs, h => by cases h; rfl
 | d :: ds, vs, ⟨v, ws, e, _, h2⟩ => by subst e; simp [RepVs.len h2]
def yN : List Vl -> Option (List D)
 | [] => some []
 | .dat d :: r => match yN r with
  | some ds => some (d :: ds)
  | none => none
 | _ :: _ => none
theorem AY {B : Addr -> Prop} {φ : List Addr} {S : aO} {H : Hp} : ∀ {xs : List Vl} {vs : List V} {ds : List D}, yN xs = some ds -> RepVs K B φ S H xs vs -> RepL K (lI B φ S) H ds vs
 | [], vs, ds, h, r => by cases h; exact r
 | .dat d :: xs, vs, ds, h, ⟨v, ws, e, h1, h2⟩ => by
  unfold yN at h;cases q : yN xs with
  | none => rw [q] at h; cases h
  | some es => rw [q] at h; cases h; exact ⟨v, ws, e, h1, AY q h2⟩
 | .cel _ :: xs, vs, ds, h, _ => by cases h
 | .cels _ :: xs, vs, ds, h, _ => by cases h
 | .scr _ :: xs, vs, ds, h, _ => by cases h
 | .tc _ :: xs, vs, ds, h, _ => by cases h
def oW (S : aO) : Vl -> Option (List D)
 | .dat (.lst xs) => some xs
 | .cel n => match S[n]? with
  | some (.lst xs) => some xs
  | _ => none
 | _ => none
theorem lZ {B : Addr -> Prop} {φ : List Addr} {S : aO} {H : Hp} {d : Vl} {v : V} {xs : List D} (I : GInv K B φ S H) (h : oW S d = some xs) (r : RepV K B φ S H d v) : ∃ a vs, v = .ref a /\ H a = some (.lst vs) /\ RepL K (lI B φ S) H xs vs := by
 unfold oW at h;split at h
 ·cases h
  obtain ⟨a, vs, e, _, h1, h2⟩ := r;exact ⟨a, vs, e, h1, h2⟩
 ·rename_i n
  obtain ⟨a, e, h1⟩ := r;split at h
  ·rename_i ys q
   cases h;obtain ⟨vs, h2, h3⟩ := I.ok n _ a q h1;exact ⟨a, vs, e, h2, h3⟩
  ·cases h
 ·cases h
end
section
variable {X : Cx} {W : WX} {e a b c : Expr} {es rest : List Expr} {pos p : Pos} {x : Str} {K : aD} {ma mb mc : FE} {mt mu : FT} {mas : FA} {B : Addr -> Prop} {φ : List Addr} {S : aO} {H : Hp} {σ : L2.St} {Q : VK}
def dD (cl : Bool) (x y : Vl) (S : aO) : Res Vl := match x, y with
 | .dat (.int i), .dat (.int j) => .ok (.dat (.int (i + j))) S
 | .dat (.str a), .dat (.str b) => if a.length + b.length <= sizeLine then .ok (.dat (.str (a ++ b))) S else .stuck
 | .dat (.tup xs), .dat (.tup ys) => if xs.length + ys.length <= sizeLine then .ok (.dat (.tup (xs ++ ys))) S else .stuck
 | x, y => match oW S x, oW S y with
  | some xs, some ys => if xs.length + ys.length <= sizeLine then newL cl (xs ++ ys) S else .stuck
  | _, _ => .stuck
theorem dE {cl : Bool} : fF K (Ry K) (dD cl) := fun {W σ B φ S H x y d e Q} I r1 r2 f => by
 unfold dD at f;split at f
 ·cases r1; cases r2; exact Fin.now f I rfl
 ·cases r1; cases r2
  split at f
  ·rename_i h; exact ⟨h, Fin.now f I rfl⟩
  ·exact f.elim
 ·rename_i xs ys
  obtain ⟨a, vs, rfl, h1, l1⟩ := r1;obtain ⟨b, ws, rfl, h2, l2⟩ := r2;split at f
  ·rename_i h
   refine Bg ⟨a, b, vs, ws, rfl, rfl, h1, h2, by rw [l1.len, l2.len]; exact h, fun e => ?_, fun e1 e2 => ?_, fun _ _ p hp => Fin.newT f I (l1.append l2) hp⟩
   ·have l := l1.append l2
    rw [e, bQ] at l;exact Fin.now f I ⟨b, ws, rfl, h2, l⟩
   ·have l := l1.append l2
    rw [e2, cX] at l;exact Fin.now f I ⟨a, vs, rfl, h1, l⟩
  ·exact f.elim
 ·split at f
  ·rename_i xs ys q1 q2
   obtain ⟨a, vs, rfl, h1, l1⟩ := lZ I q1 r1;obtain ⟨b, ws, rfl, h2, l2⟩ := lZ I q2 r2;split at f
   ·rename_i h
    exact Dw ⟨a, b, vs, ws, rfl, rfl, h1, h2, by rw [l1.len, l2.len]; exact h, fun p hp => Fin.newL f I (l1.append l2) hp⟩
   ·exact f.elim
  ·exact f.elim
def bW (x y : Vl) (S : aO) : Res Vl := match x, y with
 | .dat (.tup xs), .dat (.int i) => match atI xs i with
  | some d => .ok (.dat d) S
  | none => .stuck
 | .dat (.str z), .dat (.int i) => if z.length <= sizeLine then (match atI z.cps.toList i with
  | some c => .ok (.dat (.str ⟨#[c]⟩)) S
  | none => .stuck) else .stuck
 | .cels ns, .dat (.int i) => match atI ns i with
  | some n => .ok (.cel n) S
  | none => .stuck
 | x, .dat (.int i) => match oW S x with
  | some xs => (match atI xs i with
   | some d => .ok (.dat d) S
   | none => .stuck)
  | none => .stuck
 | _, _ => .stuck
theorem G7 {α β : Type} {f : α -> β} {xs : List α} {i : Int} : atI (xs.map f) i = (atI xs i).map f := by
 unfold atI;rw [aP];cases ixN xs.length i with
 | none => rfl
 | some j => simp
theorem s_ix : fF K (cIx K) bW := fun {W σ B φ S H x y d e Q} I r1 r2 f => by
 unfold bW at f;split at f
 ·cases r2
  obtain ⟨a, vs, rfl, h1, l1⟩ := r1;split at f
  ·rename_i q
   obtain ⟨v, h2, h3⟩ := l1.atI q;exact ⟨vs, v, .inr h1, h2, Fin.now f I h3⟩
  ·exact f.elim
 ·cases r1; cases r2
  split at f
  ·rename_i h
   split at f
   ·rename_i c q
    exact ⟨h, c, q, Fin.now f I rfl⟩
   ·exact f.elim
  ·exact f.elim
 ·rename_i ns i
  cases r2;obtain ⟨a, as, rfl, h1, h2, h3⟩ := r1;split at f
  ·rename_i n q
   have q2 : atI (ns.map fun n => φ[n]?) i = some φ[n]? := by rw [G7, q]; rfl
   rw [h3, G7] at q2;cases q3 : atI as i with
   | none => rw [q3] at q2; cases q2
   | some b =>
    rw [q3] at q2;refine ⟨as.map V.ref, .ref b, .inl (SqL.of h2), by rw [G7, q3]; rfl, Fin.now f I ⟨b, rfl, ?_⟩⟩
    simpa using q2.symm
  ·exact f.elim
 ·cases r2
  split at f
  ·rename_i xs q1
   obtain ⟨a, vs, rfl, h1, l1⟩ := lZ I q1 r1;split at f
   ·rename_i q
    obtain ⟨v, h2, h3⟩ := l1.atI q;exact ⟨vs, v, .inl (SqL.of h1), h2, Fin.now f I h3⟩
   ·exact f.elim
  ·exact f.elim
 ·exact f.elim
theorem bH (ha : PE X a (cZ X.K W ma)) (hb : PE X b (cZ X.K W mb)) (hs : PlainIx b := by intro _ _; rfl) : PE X (.Subscript a b pos) (cZ X.K W (aR bW ma mb)) := dG (e_ix ha hb hs) fun σ H Q h => CG s_ix h
mutual
def D.py : D -> Option PyData
 | .non => some .none
 | .bl b => some (.bool b)
 | .int i => some (.int i)
 | .str x => some (.str x)
 | .lst xs => match D.pys xs with
  | some ys => some (.list ys)
  | none => none
 | .tup xs => match D.pys xs with
  | some ys => some (.tuple ys)
  | none => none
 | .ins _ _ _ => none
 | .dct => none
 | .opq _ => none
def D.pys : List D -> Option (List PyData)
 | [] => some []
 | d :: ds => match D.py d, D.pys ds with
  | some x, some xs => some (x :: xs)
  | _, _ => none
end
mutual
theorem Rep.dp {Bk : Addr -> Prop} {H : Hp} : ∀ (d : D) (v : V) (p : PyData), d.py = some p -> Rep K Bk H d v -> Dp K H v p
 | .non, v, p, h, r => by cases h; cases r; exact .non
 | .bl b, v, p, h, r => by cases h; cases r; exact .bl b
 | .int b, v, p, h, r => by cases h; cases r; exact .int b
 | .str b, v, p, h, r => by cases h; cases r; exact .str b
 | .lst xs, v, p, h, ⟨a, vs, e, _, h1, h2⟩ => by
  subst e;unfold D.py at h;cases q : D.pys xs with
  | none => rw [q] at h; cases h
  | some ys => rw [q] at h; cases h; exact .lst (SqL.of h1) (RepL.dp xs vs ys q h2)
 | .tup xs, v, p, h, ⟨a, vs, e, h1, h2⟩ => by
  subst e;unfold D.py at h;cases q : D.pys xs with
  | none => rw [q] at h; cases h
  | some ys => rw [q] at h; cases h; exact .tup h1 (RepL.dp xs vs ys q h2)
 | .ins _ _ _, v, p, h, r => by cases h
 | .dct, v, p, h, r => by cases h
 | .opq _, v, p, h, r => by cases h
theorem RepL.dp {Bk : Addr -> Prop} {H : Hp} : ∀ (ds : List D) (vs : List V) (ps : List PyData), D.pys ds = some ps -> RepL K Bk H ds vs -> DpAll K H vs ps
 | [], vs, ps, h, r => by cases h; cases r; exact .nil
 | d :: ds, vs, ps, h, ⟨v, ws, e, h1, h2⟩ => by
  subst e;unfold D.pys at h;cases q1 : D.py d with
  | none => rw [q1] at h; cases h
  | some x =>
   cases q2 : D.pys ds with
   | none => rw [q1, q2] at h; cases h
   | some xs => rw [q1, q2] at h; cases h; exact .cons (Rep.dp d v x q1 h1) (RepL.dp ds ws xs q2 h2)
end
def Js (S : aO) : Vl -> Option PyData
 | .dat d => d.py
 | .cel n => match S[n]? with
  | some (.lst xs) => D.py (.lst xs)
  | _ => none
 | _ => none
def LU (S : aO) : List Vl -> Option (List PyData)
 | [] => some []
 | x :: r => match Js S x, LU S r with
  | some p, some ps => some (p :: ps)
  | _, _ => none
def uZ (S : aO) : Vl -> Option PyData
 | .dat d => d.py
 | .cel n => match S[n]? with
  | some (.lst xs) => D.py (.lst xs)
  | some (.lv xs) => (match LU S xs with
   | some ps => some (.list ps)
   | none => none)
  | _ => none
 | _ => none
theorem NI {d : Vl} {v : V} {p : PyData} (I : GInv K B φ S H) (h : Js S d = some p) (r : RepV K B φ S H d v) : Dp K H v p := by
 unfold Js at h;split at h
 ·exact Rep.dp _ _ _ h r
 ·rename_i n
  obtain ⟨a, rfl, h1⟩ := r;split at h
  ·rename_i xs q
   obtain ⟨vs, h2, h3⟩ := I.ok n _ a q h1;unfold D.py at h;cases q : D.pys xs with
   | none => rw [q] at h; cases h
   | some ys => rw [q] at h; cases h; exact .lst (SqL.of h2) (RepL.dp xs vs ys q h3)
  ·cases h
 ·cases h
theorem Jr (I : GInv K B φ S H) : ∀ {xs : List Vl} {vs : List V} {ps : List PyData}, LU S xs = some ps -> RepVs K B φ S H xs vs -> DpAll K H vs ps
 | [], vs, ps, h, r => by cases h; cases r; exact .nil
 | x :: xs, vs, ps, h, ⟨v, ws, e, h1, h2⟩ => by
  subst e;unfold LU at h;cases q1 : Js S x with
  | none => rw [q1] at h; cases h
  | some p =>
   cases q2 : LU S xs with
   | none => rw [q1, q2] at h; cases h
   | some qs => rw [q1, q2] at h; cases h; exact .cons (NI I q1 h1) (Jr I q2 h2)
theorem pM {d : Vl} {v : V} {p : PyData} (I : GInv K B φ S H) (h : uZ S d = some p) (r : RepV K B φ S H d v) : Dp K H v p := by
 unfold uZ at h;split at h
 ·exact Rep.dp _ _ _ h r
 ·rename_i n
  obtain ⟨a, rfl, h1⟩ := r;split at h
  ·rename_i xs q
   obtain ⟨vs, h2, h3⟩ := I.ok n _ a q h1;unfold D.py at h;cases q : D.pys xs with
   | none => rw [q] at h; cases h
   | some ys => rw [q] at h; cases h; exact .lst (SqL.of h2) (RepL.dp xs vs ys q h3)
  ·rename_i xs q
   obtain ⟨vs, h2, h3⟩ := I.ok n _ a q h1;cases q : LU S xs with
   | none => rw [q] at h; cases h
   | some ys => rw [q] at h; cases h; exact .lst (SqL.of h2) (Jr I q h3)
  ·cases h
 ·cases h
def shp (p q : PyData) : Bool := SeqAt.shaped p && SeqAt.shaped q
def eV (x y : Vl) (S : aO) : Res Vl := match x, y with
 | .dat (.int i), .dat (.int j) => .ok (.dat (.bl (decide (i = j)))) S
 | .dat (.str i), .dat (.str j) => .ok (.dat (.bl (decide (i = j)))) S
 | x, y => match uZ S x, uZ S y with
  | some p, some q => if shp p q = true then .ok (.dat (.bl (PyData.eqv p q))) S else .stuck
  | _, _ => .stuck
def IK (x y : Vl) (S : aO) : Res Vl := match x, y with
 | .dat (.int i), .dat (.int j) => .ok (.dat (.bl (!decide (i = j)))) S
 | .dat (.str i), .dat (.str j) => .ok (.dat (.bl (!decide (i = j)))) S
 | x, y => match uZ S x, uZ S y with
  | some p, some q => if shp p q = true then .ok (.dat (.bl (!PyData.eqv p q))) S else .stuck
  | _, _ => .stuck
theorem Rx {x y : V} (h : rEqD K x y H Q) : cEq K x y H Q := by
 unfold cEq;split
 ·obtain ⟨d, e, h1, h2, _, _, q⟩ := h
  cases h1; cases h2;exact q
 ·obtain ⟨d, e, h1, h2, _, _, q⟩ := h
  cases h1; cases h2;exact q
 ·exact h
theorem Rv {x y : V} (h : rNeD K x y H Q) : cNe K x y H Q := by
 unfold cNe;split
 ·obtain ⟨d, e, h1, h2, _, _, q⟩ := h
  cases h1; cases h2;exact q
 ·obtain ⟨d, e, h1, h2, _, _, q⟩ := h
  cases h1; cases h2;exact q
 ·exact h
theorem s_eq : fF K (cEq K) eV := fun {W σ B φ S H x y d e Q} I r1 r2 f => by
 unfold eV at f;split at f
 ·cases r1; cases r2; exact Fin.now f I rfl
 ·cases r1; cases r2; exact Fin.now f I rfl
 ·split at f
  ·rename_i p q h1 h2
   split at f
   ·rename_i h
    obtain ⟨h3, h4⟩ := He.ba h;exact Rx ⟨p, q, pM I h1 r1, pM I h2 r2, h3, h4, Fin.now f I rfl⟩
   ·exact f.elim
  ·exact f.elim
theorem FX : fF K (cNe K) IK := fun {W σ B φ S H x y d e Q} I r1 r2 f => by
 unfold IK at f;split at f
 ·cases r1; cases r2; exact Fin.now f I rfl
 ·cases r1; cases r2; exact Fin.now f I rfl
 ·split at f
  ·rename_i p q h1 h2
   split at f
   ·rename_i h
    obtain ⟨h3, h4⟩ := He.ba h;exact Rv ⟨p, q, pM I h1 r1, pM I h2 r2, h3, h4, Fin.now f I rfl⟩
   ·exact f.elim
  ·exact f.elim
def fIn (neg : Bool) (x y : Vl) (S : aO) : Res Vl := match uZ S x, uZ S y with
 | some p, some (.list qs) => if shp p (.list qs) = true then .ok (.dat (.bl (if neg then !(qs.any fun z => PyData.eqv z p) else (qs.any fun z => PyData.eqv z p)))) S else .stuck
 | _, _ => .stuck
theorem s_in : fF K (rInD K) (fIn false) := fun {W σ B φ S H x y d e Q} I r1 r2 f => by
 unfold fIn at f;split at f
 ·rename_i p qs h1 h2
  split at f
  ·rename_i h
   obtain ⟨h3, h4⟩ := He.ba h;exact ⟨p, qs, pM I h1 r1, pM I h2 r2, h3, h4, Fin.now f I rfl⟩
  ·exact f.elim
 ·exact f.elim
def isNon : Vl -> Bool
 | .dat .non => true
 | _ => false
def Do (neg : Bool) (x y : Vl) (S : aO) : Res Vl := match y with
 | .dat .non => .ok (.dat (.bl (if neg then !(isNon x) else isNon x))) S
 | _ => .stuck
theorem HU {d : Vl} {v : V} (r : RepV K B φ S H d v) : decide (v = .non) = isNon d := by
 cases d with
 | dat d =>
  cases d with
  | non => cases r; rfl
  | bl b => cases r; rfl
  | int b => cases r; rfl
  | str b => cases r; rfl
  | lst xs => obtain ⟨a, vs, rfl, _⟩ := r; rfl
  | tup xs => obtain ⟨a, vs, rfl, _⟩ := r; rfl
  | ins C ns xs => obtain ⟨a, dx, vs, rfl, _⟩ := r; rfl
  | dct => obtain ⟨a, rfl, _⟩ := r; rfl
  | opq k => cases k with
   | none => obtain ⟨a, rfl⟩ := r; rfl
   | some k => obtain ⟨a, rfl, _⟩ := r; rfl
 | cel n => obtain ⟨a, rfl, _⟩ := r; rfl
 | cels ns => obtain ⟨a, as, rfl, _⟩ := r; rfl
 | scr ns => obtain ⟨a, rfl, _⟩ := r; rfl
 | tc xs => obtain ⟨a, vs, rfl, _⟩ := r; rfl
theorem N7 : fF K Si (Do false) := fun {W σ B φ S H x y d e Q} I r1 r2 f => by
 unfold Do at f;split at f
 ·cases r2
  show Q (.bl (decide (x = .non))) H
  rw [HU r1];exact Fin.now f I rfl
 ·exact f.elim
theorem N5 : fF K NG (Do true) := fun {W σ B φ S H x y d e Q} I r1 r2 f => by
 unfold Do at f;split at f
 ·cases r2
  show Q (.bl (!decide (x = .non))) H
  rw [HU r1];exact Fin.now f I rfl
 ·exact f.elim
def unB : Vl -> aO -> Res Bool
 | .dat (.bl b), S => .ok b S
 | _, _ => .stuck
def mB (a : FE) : FT := fun ρ S => (a ρ S).bind unB
theorem N1 {Q : Bool -> Hp -> Prop} (h : yS K W (mB ma) σ H Q) : cZ K W ma σ H fun x H' => (match x with | .bl k => Q k H' | _ => False) :=
 cU (k := fun x _ S => unB x S) h fun B φ S ρ d v H1 I E r f => by
  unfold unB at f;split at f
  ·cases r; exact Fin.now f I rfl
  ·exact f.elim
theorem aT {op : CmpOp} {r : R2} {f : Vl -> Vl -> aO -> Res Vl} (o : OpR X (compareOp op) r) (s : fF X.K r f) (ha : PE X a (cZ X.K W ma)) (hb : PE X b (cZ X.K W mb)) (hm : behindInMarks op b = false := by rfl) : PT X (.Compare a [op] [b] pos) (yS X.K W (mB (aR f ma mb))) :=
 DX (SU o ha hb hm) fun σ H Q h => CG s (N1 h)
def CB (x : Vl) (S : aO) : Res Bool := match x with
 | .dat .non => .ok false S
 | .dat (.bl b) => .ok b S
 | .dat (.int i) => .ok (i != 0) S
 | .dat (.str y) => if y.length <= sizeLine then .ok ((y.length : Int) != 0) S else .stuck
 | .dat (.tup xs) => .ok (!xs.isEmpty) S
 | x => match oW S x with
  | some xs => .ok (!xs.isEmpty) S
  | none => .stuck
theorem RepL.emp {Bk : Addr -> Prop} {ds : List D} {vs : List V} (h : RepL K Bk H ds vs) : (!ds.isEmpty) = !vs.isEmpty := by
 have := h.len;cases ds <;> cases vs <;> simp at this ⊢
theorem FN {d : Vl} {v : V} {Q : Bool -> Hp -> Prop} (I : GInv K B φ S H) (r : RepV K B φ S H d v) (f : Fin K W σ RB B φ S H (CB d S) Q) : cT K v H Q := by
 unfold CB at f;split at f
 ·cases r; exact Fin.now f I rfl
 ·cases r; exact Fin.now f I rfl
 ·cases r; exact Fin.now f I rfl
 ·cases r
  split at f
  ·rename_i h; exact ⟨_, ⟨h, rfl⟩, Fin.now f I rfl⟩
  ·exact f.elim
 ·obtain ⟨a, vs, rfl, h1, l1⟩ := r
  exact ⟨_, .inr (.inl ⟨vs, h1, l1.emp⟩), Fin.now f I rfl⟩
 ·split at f
  ·rename_i xs q1
   obtain ⟨a, vs, rfl, h1, l1⟩ := lZ I q1 r;exact ⟨_, .inl ⟨vs, SqL.of h1, l1.emp⟩, Fin.now f I rfl⟩
  ·exact f.elim
def fM (a : FE) : FT := fun ρ S => (a ρ S).bind CB
theorem eU (ha : PE X a (cZ X.K W ma)) (he : ∀ whole, isTrue a X.env whole = (do let v <- whole; standAt a.pos; holding [v] (truthy v)) := by intro _; rfl) : PT X a (yS X.K W (fM ma)) :=
 DX (t_val ha he) fun σ H Q h => cU (k := fun x _ S => CB x S) h fun B φ S ρ d v H1 I E r f => FN I r f
def Ba (a b : FT) : FT := fun ρ S => (a ρ S).bind fun c S1 => if c = true then b ρ S1 else .ok false S1
def Bu (a b : FT) : FT := fun ρ S => (a ρ S).bind fun c S1 => if c = true then .ok true S1 else b ρ S1
def nN (a : FT) : FT := fun ρ S => (a ρ S).bind fun c S1 => .ok (!c) S1
theorem PZ {e : Expr} {t u : TT} (h : PW X e t) (i : ∀ σ H Q, u σ H Q -> t σ H Q) : PW X e u := ⟨fun whole pins s σ H Q I q => h.run whole pins s σ H Q I (i σ H Q q)⟩
theorem Q9 {Q : Bool -> Hp -> Prop} (h : yS K W (Ba mt mu) σ H Q) : tAnd (yS K W mt) (yS K W mu) σ H Q :=
 cU (k := fun c ρ S => if c = true then mu ρ S else .ok false S) h fun B φ S ρ d v H1 I E r f => by
  have r : v = d := r;subst r;cases v with
  | true => exact ⟨B, φ, S, ρ, I, E, f⟩
  | false => exact Fin.now f I rfl
theorem Tj {Q : Bool -> Hp -> Prop} (h : yS K W (Bu mt mu) σ H Q) : tOr (yS K W mt) (yS K W mu) σ H Q :=
 cU (k := fun c ρ S => if c = true then .ok true S else mu ρ S) h fun B φ S ρ d v H1 I E r f => by
  have r : v = d := r;subst r;cases v with
  | false => exact ⟨B, φ, S, ρ, I, E, f⟩
  | true => exact Fin.now f I rfl
theorem uE (ha : PT X a (yS X.K W mt)) (hb : PW X (.BoolOp .And (b :: rest) pos) (yS X.K W mu)) : PW X (.BoolOp .And (a :: b :: rest) pos) (yS X.K W (Ba mt mu)) := PZ (pw_and ha hb) fun σ H Q h => Q9 h
theorem mU (ha : PT X a (yS X.K W mt)) (hb : PW X (.BoolOp .Or (b :: rest) pos) (yS X.K W mu)) : PW X (.BoolOp .Or (a :: b :: rest) pos) (yS X.K W (Bu mt mu)) := PZ (pw_or ha hb) fun σ H Q h => Tj h
theorem gM (ha : PT X a (yS X.K W mt)) : PT X (.UnaryOp .Not a pos) (yS X.K W (nN mt)) := DX (pt_not ha) fun σ H Q h =>
 cU (k := fun c _ S => .ok (!c) S) h fun B φ S ρ d v H1 I E r f => by cases r; exact Fin.now f I rfl
def oK (a b : FE) : FE := fun ρ S => (a ρ S).bind fun x S1 => match x with
 | .dat (.bl c) => if c = true then b ρ S1 else .ok (.dat (.bl false)) S1
 | _ => .stuck
def mOrV (a b : FE) : FE := fun ρ S => (a ρ S).bind fun x S1 => match x with
 | .dat (.bl c) => if c = true then .ok (.dat (.bl true)) S1 else b ρ S1
 | _ => .stuck
def NY (a : FE) : FE := fun ρ S => (a ρ S).bind fun x S1 => (CB x S1).bind fun k S2 => .ok (.dat (.bl (!k))) S2
theorem mW (ha : PE X a (cZ X.K W ma)) (hb : PE X (.BoolOp .And (b :: rest) pos) (cZ X.K W mb)) : PE X (.BoolOp .And (a :: b :: rest) pos) (cZ X.K W (oK ma mb)) := dG (e_and ha hb) fun σ H Q h =>
 cU (k := fun x ρ S1 => match x with | .dat (.bl c) => if c = true then mb ρ S1 else .ok (.dat (.bl false)) S1 | _ => .stuck) h fun B φ S ρ d v H1 I E r f => by
  split at f
  ·rename_i c
   cases r;cases c with
   | true => exact ⟨B, φ, S, ρ, I, E, f⟩
   | false => exact Fin.now f I rfl
  ·exact f.elim
def U7 (a b : FE) : FE := fun ρ S => (a ρ S).bind fun x S1 => (CB x S1).bind fun k S2 => if k = true then .ok x S2 else b ρ S2
theorem GV {x : Vl} {k : Bool} {S' : aO} (h : CB x S = .ok k S') : S' = S := by
 unfold CB at h;split at h
 ·cases h; rfl
 ·cases h; rfl
 ·cases h; rfl
 ·split at h <;> cases h; rfl
 ·cases h; rfl
 ·split at h <;> cases h; rfl
theorem tru_V {d : Vl} {v : V} {k : Bool} (I : GInv K B φ S H) (r : RepV K B φ S H d v) (h : CB d S = .ok k S) : TruV K v H k := by
 obtain ⟨k', h1, h2⟩ := P8 v H (fun b _ => b = k) (FN (W := wNo) (σ := []) I r (by
  rw [h];exact fun φ' v' H' _ _ r => r))
 rw [<- h2]; exact h1
theorem VF (ha : PE X a (cZ X.K W ma)) (hb : PE X (.BoolOp .Or (b :: rest) pos) (cZ X.K W mb)) : PE X (.BoolOp .Or (a :: b :: rest) pos) (cZ X.K W (U7 ma mb)) := dG (pe_orT ha hb) fun σ H Q h =>
 cU (k := fun x ρ S1 => (CB x S1).bind fun k S2 => if k = true then .ok x S2 else mb ρ S2) h fun B φ S ρ d v H1 I E r f => by
  cases q : CB d S with
  | stuck => rw [q] at f; exact f.elim
  | err e S' =>
   exfalso
   unfold CB at q;split at q <;> first | cases q | (split at q <;> cases q)
  | ok k S' =>
   have e := GV q;subst e;rw [q] at f;refine ⟨k, tru_V I r q, ?_⟩
   cases k with
   | true => exact Fin.now f I r
   | false => exact ⟨B, φ, S', ρ, I, E, f⟩
theorem VG (ha : PE X a (cZ X.K W ma)) : PE X (.UnaryOp .Not a pos) (cZ X.K W (NY ma)) := dG (e_not ha) fun σ H Q h =>
 cU (k := fun x _ S1 => (CB x S1).bind fun k S2 => Res.ok (Vl.dat (D.bl (!k))) S2) h fun B φ S ρ d v H1 I E r f => by
  cases q : CB d S with
  | stuck => rw [q] at f; exact f.elim
  | err e S' =>
   exfalso
   unfold CB at q;split at q <;> first | cases q | (split at q <;> cases q)
  | ok k S' =>
   have e := GV q;subst e;rw [q] at f;refine FN (W := W) (σ := σ) I r ?_
   rw [q];intro φ' v' H' I' X' r';cases r';exact Fin.now (Fin.ext f X') I' rfl
def rZ (f g : Vl -> Vl -> aO -> Res Vl) (a b c : FE) : FE := fun ρ S => (a ρ S).bind fun x S1 => (b ρ S1).bind fun y S2 => (f x y S2).bind fun z S3 => match z with
 | .dat (.bl k) => if k = true then (c ρ S3).bind fun w S4 => g y w S4 else .ok (.dat (.bl false)) S3
 | _ => .stuck
theorem E8 {r r' : R2} {f g : Vl -> Vl -> aO -> Res Vl} (s : fF K r f) (s' : fF K r' g) (h : cZ K W (rZ f g ma mb mc) σ H Q) : G5 r r' (cZ K W ma) (cZ K W mb) (cZ K W mc) σ H Q := by
 refine cU (k := fun x ρ S1 => (mb ρ S1).bind fun y S2 => (f x y S2).bind fun z S3 => match z with | .dat (.bl k) => if k = true then (mc ρ S3).bind fun w S4 => g y w S4 else .ok (.dat (.bl false)) S3 | _ => .stuck) h fun B φ S ρ d v H1 I E r1 f' => kU I E f' fun φ' S' e w H2 I2 X2 E2 r2 f2 => ?_
 have r1' := r1.ext X2 I;refine s (W := W) (σ := σ) I2 r1' r2 ?_
 cases q : f d e S' with
 | stuck => rw [q] at f2; exact f2
 | err x S3 => rw [q] at f2; exact f2
 | ok z S3 =>
  rw [q] at f2;intro φ3 v3 H3 I3 X3 r3;have f3 := Fin.ext f2 X3;dsimp only [Res.bind] at f3;split at f3
  ·rename_i k
   cases r3;cases k with
   | false => exact Fin.now f3 I3 rfl
   | true => exact kU I3 (E2.ext X3 I2) f3 fun φ4 S4 d4 v4 H4 I4 X4 E4 r4 f4 => s' I4 ((r2.ext X3 I2).ext X4 I3) r4 f4
  ·exact f3.elim
theorem Fz {op op' : CmpOp} {r r' : R2} {f g : Vl -> Vl -> aO -> Res Vl} (ho : OpR X (compareOp op) r) (s : fF X.K r f) (ho' : OpR X (compareOp op') r') (s' : fF X.K r' g) (ha : PE X a (cZ X.K W ma)) (hb : PE X b (cZ X.K W mb)) (hc : PE X c (cZ X.K W mc))
  (hm : lastMarks [op, op'] [b, c] = false := by with_unfolding_all rfl) : PE X (.Compare a [op, op'] [b, c] pos) (cZ X.K W (rZ f g ma mb mc)) := dG (Rm ho ho' ha hb hc hm) fun σ H Q h => E8 s s' h
theorem Hf {op op' : CmpOp} {r r' : R2} {f g : Vl -> Vl -> aO -> Res Vl} (ho : OpR X (compareOp op) r) (s : fF X.K r f) (ho' : OpR X (compareOp op') r') (s' : fF X.K r' g) (ha : PE X a (cZ X.K W ma)) (hb : PE X b (cZ X.K W mb)) (hc : PE X c (cZ X.K W mc))
  (hm : lastMarks [op, op'] [b, c] = false := by with_unfolding_all rfl) : PT X (.Compare a [op, op'] [b, c] pos) (yS X.K W (mB (rZ f g ma mb mc))) := DX (Pz ho ho' ha hb hc hm) fun σ H Q h => E8 s s' (N1 h)
def mIf (t : FT) (a b : FE) : FE := fun ρ S => (t ρ S).bind fun c S1 => if c = true then a ρ S1 else b ρ S1
def aJ : FA := fun _ S => .ok [] S
def aB (a : FE) (r : FA) : FA := fun ρ S => (a ρ S).bind fun x S1 => (r ρ S1).bind fun xs S2 => .ok (x :: xs) S2
theorem Pb {t u : TA} (h : PA X es t) (i : ∀ σ H Q, u σ H Q -> t σ H Q) : PA X es u := ⟨fun pos pins s σ H Q I q => h.run pos pins s σ H Q I (i σ H Q q)⟩
theorem aG : PA X [] (GF X.K W aJ) := Pb pa_nil fun σ H Q h => by
 obtain ⟨B, φ, S, ρ, I, E, f⟩ := h;exact Fin.now (v := []) f I rfl
theorem aA (ha : PE X a (cZ X.K W ma)) (hr : PA X es (GF X.K W mas)) (hs : starEach (a :: es) X.env = (false, eval a X.env) :: starEach es X.env := by rfl) : PA X (a :: es) (GF X.K W (aB ma mas)) := Pb (pa_cons ha hr hs) fun σ H Q h =>
 cU (k := fun x ρ S1 => (mas ρ S1).bind fun xs S2 => .ok (x :: xs) S2) h fun B φ S ρ d v H1 I E r f => kU I E f fun φ' S' ds vs H2 I2 X2 E2 r2 f2 => Fin.now f2 I2 ⟨v, vs, rfl, r.ext X2 I, r2⟩
def cS (cl : Bool) (r : FA) : FE := fun ρ S => (r ρ S).bind fun xs S1 => match yN xs with
 | some ds => if ds.length <= sizeLine then newL cl ds S1 else .stuck
 | none => .stuck
def cC (r : FA) : FE := fun ρ S => (r ρ S).bind fun xs S1 => match yN xs with
 | some ds => if ds.length <= sizeLine then .ok (.dat (.tup ds)) S1 else .stuck
 | none => .stuck
theorem cJ {cl : Bool} (h : PA X es (GF X.K W mas)) : PE X (.List es pos) (cZ X.K W (cS cl mas)) := dG (pe_lst h) fun σ H Q h =>
 cU (k := fun xs ρ S1 => match yN xs with | some ds => if ds.length <= sizeLine then newL cl ds S1 else .stuck | none => .stuck) h fun B φ S ρ d v H1 I E r f => by
  split at f
  ·rename_i ds q
   have l := AY q r;split at f
   ·rename_i hl
    exact ⟨by rw [l.len]; exact hl, fun p hp => Fin.newL f I l hp⟩
   ·exact f.elim
  ·exact f.elim
theorem bM (h : PA X es (GF X.K W mas)) : PE X (.Tuple es x1 pos) (cZ X.K W (cC mas)) := dG (pe_tup h) fun σ H Q h =>
 cU (k := fun xs ρ S1 => match yN xs with | some ds => if ds.length <= sizeLine then Res.ok (Vl.dat (D.tup ds)) S1 else .stuck | none => .stuck) h fun B φ S ρ d v H1 I E r f => by
  split at f
  ·rename_i ds q
   have l := AY q r;split at f
   ·rename_i hl
    exact ⟨by rw [l.len]; exact hl, fun p hp => Fin.newT f I l hp⟩
   ·exact f.elim
  ·exact f.elim
end
section
variable {X : Cx} {W : WX} {e a b c : Expr} {es rest : List Expr} {pos p q p2 : Pos} {x y z : Str} {K : aD} {ma mb mc : FE} {mt mu : FT} {mas : FA} {B : Addr -> Prop} {φ : List Addr} {S : aO} {H : Hp} {σ : L2.St} {Q : VK}
theorem Af {r : V -> Hp -> VK -> Prop} {f : Vl -> aO -> Res Vl} (s : G9 K r f) (h : cZ K W (m1 f ma) σ H Q) : tCB (c1 r) (tCons (cZ K W ma) tNil) σ H Q := N2 s h
def fR (x : Vl) (S : aO) : Res Vl := match x with
 | .dat (.tup xs) => .ok (.dat (.int xs.length)) S
 | .dat (.str z) => if z.length <= sizeLine then .ok (.dat (.int z.length)) S else .stuck
 | .cels ns => .ok (.dat (.int ns.length)) S
 | x => match oW S x with
  | some xs => .ok (.dat (.int xs.length)) S
  | none => .stuck
theorem s_len : G9 K (Rw K) fR := fun {W σ B φ S H x d Q} I r f => by
 unfold fR at f;split at f
 ·obtain ⟨a, vs, rfl, h1, l1⟩ := r
  refine ⟨vs, .inr h1, ?_⟩
  rw [l1.len];exact Fin.now f I rfl
 ·cases r
  split at f
  ·rename_i h; exact ⟨h, Fin.now f I rfl⟩
  ·exact f.elim
 ·rename_i ns
  obtain ⟨a, as, rfl, h1, h2, h3⟩ := r;refine ⟨as.map V.ref, .inl (SqL.of h2), ?_⟩
  have e : as.length = ns.length := by
   have := congrArg MR h3
   simpa using this.symm
  rw [aP, e];exact Fin.now f I rfl
 ·split at f
  ·rename_i xs q1
   obtain ⟨a, vs, rfl, h1, l1⟩ := lZ I q1 r;refine ⟨vs, .inl (SqL.of h1), ?_⟩
   rw [l1.len];exact Fin.now f I rfl
  ·exact f.elim
theorem fQ (hm : X.mg "len" = none) (ha : PE X a (cZ X.K W ma)) (hg : Gl X "len" := by rfl) (hs : starEach [a] X.env = [(false, eval a X.env)] := by rfl) : PE X (.Call (.Name "len" p) [a] [] pos) (cZ X.K W (m1 fR ma)) := dG (e_len hm ha hg hs) fun σ H Q h => Af s_len h
def pS (x : Vl) (S : aO) : Res Vl := match x with
 | .dat (.int i) => .ok (.dat (.int i)) S
 | .dat (.bl k) => .ok (.dat (.int (if k then 1 else 0))) S
 | _ => .stuck
theorem s_int : G9 K cInt pS := fun {W σ B φ S H x d Q} I r f => by
 unfold pS at f;split at f
 ·cases r; exact Fin.now f I rfl
 ·cases r; exact Fin.now f I rfl
 ·exact f.elim
theorem oZ (hm : X.mg "int" = none) (ha : PE X a (cZ X.K W ma)) (hg : Gl X "int" := by rfl) (hs : starEach [a] X.env = [(false, eval a X.env)] := by rfl) : PE X (.Call (.Name "int" p) [a] [] pos) (cZ X.K W (m1 pS ma)) := dG (e_int hm ha hg hs) fun σ H Q h => Af s_int h
def DU : List D -> Option (List Bool)
 | [] => some []
 | .bl b :: r => match DU r with
  | some bs => some (b :: bs)
  | none => none
 | _ :: _ => none
theorem IB {Bk : Addr -> Prop} : ∀ {ds : List D} {bs : List Bool} {vs : List V}, DU ds = some bs -> RepL K Bk H ds vs -> vs = bs.map V.bl
 | [], bs, vs, h, r => by cases h; exact r
 | d :: ds, bs, vs, h, ⟨v, ws, e, h1, h2⟩ => by
  subst e;cases d with
  | bl b =>
   unfold DU at h;cases q : DU ds with
   | none => rw [q] at h; cases h
   | some es => rw [q] at h; cases h; cases h1; rw [IB q h2]; rfl
  | _ => cases h
def VU : List D -> Option (List Int)
 | [] => some []
 | .int b :: r => match VU r with
  | some bs => some (b :: bs)
  | none => none
 | _ :: _ => none
def DD (x : Vl) (S : aO) : Res Vl := match oW S x with
 | some xs => (match DU xs with
  | some bs => .ok (.dat (.bl (bs.all id))) S
  | none => .stuck)
 | none => .stuck
theorem s_all : G9 K (cAll K) DD := fun {W σ B φ S H x d Q} I r f => by
 unfold DD at f;split at f
 ·rename_i xs q1
  obtain ⟨a, vs, rfl, h1, l1⟩ := lZ I q1 r;split at f
  ·rename_i bs q2
   rw [IB q2 l1] at h1;exact ⟨bs, SqL.of h1, Fin.now f I rfl⟩
  ·exact f.elim
 ·exact f.elim
theorem Ou (hm : X.mg "all" = none) (ha : PE X a (cZ X.K W ma)) (hc : X.calm = true := by rfl) (hg : Gl X "all" := by rfl) (hs : starEach [a] X.env = [(false, eval a X.env)] := by rfl) : PE X (.Call (.Name "all" p) [a] [] pos) (cZ X.K W (m1 DD ma)) := dG (e_all hm ha hc hg hs) fun σ H Q h => Af s_all h
def oR (cl : Bool) (x : Vl) (S : aO) : Res Vl := match x with
 | .dat (.tup xs) => newL cl xs S
 | x => match oW S x with
  | some xs => newL cl xs S
  | none => .stuck
theorem Tq {cl : Bool} : G9 K (TL K) (oR cl) := fun {W σ B φ S H x d Q} I r f => by
 unfold oR at f;split at f
 ·obtain ⟨a, vs, rfl, h1, l1⟩ := r
  exact ⟨vs, .inr h1, fun l hl => Fin.newL f I l1 hl⟩
 ·split at f
  ·rename_i xs q1
   obtain ⟨a, vs, rfl, h1, l1⟩ := lZ I q1 r;exact ⟨vs, .inl (SqL.of h1), fun l hl => Fin.newL f I l1 hl⟩
  ·exact f.elim
theorem yF {cl : Bool} (hm : X.mg "list" = none) (ha : PE X a (cZ X.K W ma)) (hg : Gl X "list" := by rfl) (hs : starEach [a] X.env = [(false, eval a X.env)] := by rfl) : PE X (.Call (.Name "list" p) [a] [] pos) (cZ X.K W (m1 (oR cl) ma)) := dG (VM hm ha hg hs) fun σ H Q h => Af Tq h
def fTuple (x : Vl) (S : aO) : Res Vl := match oW S x with
 | some xs => .ok (.dat (.tup xs)) S
 | none => .stuck
theorem QC : G9 K (P7 K) fTuple := fun {W σ B φ S H x d Q} I r f => by
 unfold fTuple at f;split at f
 ·rename_i xs q1
  obtain ⟨a, vs, rfl, h1, l1⟩ := lZ I q1 r;exact ⟨vs, SqL.of h1, fun l hl => Fin.newT f I l1 hl⟩
 ·exact f.elim
theorem Rb (hm : X.mg "tuple" = none) (ha : PE X a (cZ X.K W ma)) (hg : Gl X "tuple" := by rfl) (hs : starEach [a] X.env = [(false, eval a X.env)] := by rfl) : PE X (.Call (.Name "tuple" p) [a] [] pos) (cZ X.K W (m1 fTuple ma)) := dG (Rk hm ha hg hs) fun σ H Q h => Af QC h
def fAbs (x : Vl) (S : aO) : Res Vl := match x with
 | .dat (.int i) => .ok (.dat (.int (if i < 0 then -i else i))) S
 | _ => .stuck
theorem HM {a : Addr} {xs : List V} (h : SqT K H a xs) : DY K H a "tuple" := by
 refine ⟨by decide, ?_⟩
 rcases h with (h | ⟨o, h⟩) | ⟨o, its, n, h, hc, _⟩
 ·exact .base (.tup h)
 ·exact .fTuple h
 ·exact .kTuple h hc
theorem vW {a : Addr} {xs : List V} (h : SqL K H a xs) : DY K H a "list" := by
 refine ⟨by decide, ?_⟩
 rcases h with (h | ⟨o, h⟩) | ⟨o, its, n, h, hc, _⟩
 ·exact .base (.lst h)
 ·exact .base (.frz h)
 ·exact .kList h hc
def kindOf (S : aO) : Vl -> Option String
 | .dat .non => some "NoneType"
 | .dat (.bl _) => some "bool"
 | .dat (.int _) => some "int"
 | .dat (.str _) => some "str"
 | .dat (.lst _) => some "list"
 | .dat (.tup _) => some "tuple"
 | .dat .dct => some "dict"
 | .dat (.opq _) => none
 | .dat (.ins _ _ _) => none
 | .cels _ => some "list"
 | .scr _ => some "list"
 | .tc _ => some "tuple"
 | .cel n => match S[n]? with
  | some (.lst _) => some "list"
  | some (.dct _) => some "dict"
  | some (.lv _) => some "list"
  | _ => none
def fIsi (T : String) (x : Vl) (S : aO) : Res Vl := match kindOf S x with
 | some n => .ok (.dat (.bl (isTy T n))) S
 | none => .stuck
theorem Au {d : Vl} {v : V} {n : String} (I : GInv K B φ S H) (r : RepV K B φ S H d v) (h : kindOf S d = some n) : (v = .non /\ n = "NoneType") \/ (∃ b, v = .bl b /\ n = "bool") \/ (∃ b, v = .int b /\ n = "int") \/ (∃ b, v = .str b /\ n = "str") \/ ∃ a, v = .ref a /\ DY K H a n := by
 cases d with
 | dat d =>
  cases d with
  | non => cases h; cases r; exact .inl ⟨rfl, rfl⟩
  | bl b => cases h; cases r; exact .inr (.inl ⟨b, rfl, rfl⟩)
  | int b => cases h; cases r; exact .inr (.inr (.inl ⟨b, rfl, rfl⟩))
  | str b => cases h; cases r; exact .inr (.inr (.inr (.inl ⟨b, rfl, rfl⟩)))
  | lst xs => cases h; obtain ⟨a, vs, rfl, _, h1, _⟩ := r; exact .inr (.inr (.inr (.inr ⟨a, rfl, vW (SqL.of h1)⟩)))
  | tup xs => cases h; obtain ⟨a, vs, rfl, h1, _⟩ := r; exact .inr (.inr (.inr (.inr ⟨a, rfl, HM h1⟩)))
  | ins C ns xs => cases h
  | opq _ => cases h
  | dct => cases h; obtain ⟨a, rfl, _, h1⟩ := r; exact .inr (.inr (.inr (.inr ⟨a, rfl, by decide, .base (.dK h1)⟩)))
 | cels ns => cases h; obtain ⟨a, as, rfl, _, h1, _⟩ := r; exact .inr (.inr (.inr (.inr ⟨a, rfl, vW (SqL.of h1)⟩)))
 | scr ns => cases h; obtain ⟨a, rfl, h1⟩ := r; exact .inr (.inr (.inr (.inr ⟨a, rfl, vW h1.sq⟩)))
 | tc xs => cases h; obtain ⟨a, vs, rfl, h1, _⟩ := r; exact .inr (.inr (.inr (.inr ⟨a, rfl, HM h1⟩)))
 | cel n =>
  obtain ⟨a, rfl, h1⟩ := r;have h : (match S[n]? with | some (.lst _) => some "list" | some (.dct _) => some "dict" | some (.lv _) => some "list" | _ => none) = some _ := h
  split at h
  ·rename_i q
   cases h;obtain ⟨vs, h2, _⟩ := I.ok n _ a q h1;exact .inr (.inr (.inr (.inr ⟨a, rfl, vW (SqL.of h2)⟩)))
  ·rename_i q
   cases h;obtain ⟨vs, h2, _⟩ := I.ok n _ a q h1;exact .inr (.inr (.inr (.inr ⟨a, rfl, by decide, .base (.dK h2)⟩)))
  ·rename_i q
   cases h;obtain ⟨vs, h2, _⟩ := I.ok n _ a q h1;exact .inr (.inr (.inr (.inr ⟨a, rfl, vW (SqL.of h2)⟩)))
  ·cases h
theorem s_isi {T : String} (hT : T ∈ targets) : G9 K (PB K T) (fIsi T) := fun {W σ B φ S H x d Q} I r f => by
 unfold fIsi at f;have h6 : T = "int" \/ T = "bool" \/ T = "str" \/ T = "list" \/ T = "tuple" \/ T = "dict" := by simpa [targets] using hT
 split at f
 ·rename_i n h
  have q : ∀ b, b = isTy T n -> Q (.bl b) H := fun b e => by rw [e]; exact Fin.now f I rfl
  rcases Au I r h with ⟨rfl, rfl⟩ | ⟨b, rfl, rfl⟩ | ⟨b, rfl, rfl⟩ | ⟨b, rfl, rfl⟩ | ⟨a, rfl, hk⟩
  ·exact q false (by rcases h6 with e | e | e | e | e | e <;> subst e <;> decide)
  ·exact q _ (by rcases h6 with e | e | e | e | e | e <;> subst e <;> decide)
  ·exact q _ (by rcases h6 with e | e | e | e | e | e <;> subst e <;> decide)
  ·exact q _ (by rcases h6 with e | e | e | e | e | e <;> subst e <;> decide)
  ·have h3 : n = "list" \/ n = "tuple" \/ n = "dict" := by simpa using hk.1
   exact ⟨n, hk, q _ (by rcases h6 with e | e | e | e | e | e <;> rcases h3 with e' | e' | e' <;> subst e <;> subst e' <;> decide)⟩
 ·exact f.elim
theorem iC {T : String} (hm : X.mg "isinstance" = none) (hmT : X.mg y = none) (ha : PE X a (cZ X.K W ma)) (hT : T ∈ targets := by decide) (hv : bootBuiltins y = some (.type T) := by decide +kernel)
  (hg : Gl X "isinstance" := by rfl) (hgT : Gl X y := by rfl) (hn : y ≠ "__name__" := by decide) (hd : (y == ("__debug__" : Str)) = false := by decide) (hs : starEach [a, .Name y q] X.env = (false, eval a X.env) :: starEach [.Name y q] X.env := by rfl) :
  PE X (.Call (.Name "isinstance" p) [a, .Name y q] [] pos) (cZ X.K W (m1 (fIsi T) ma)) := dG (e_isi hm hmT ha hT hv hg hgT hn hd hs) fun σ H Q h => N2 (s_isi hT) h
def fIsi2 (T U : String) (x : Vl) (S : aO) : Res Vl := match kindOf S x with
 | some n => .ok (.dat (.bl (isTy T n || isTy U n))) S
 | none => .stuck
theorem Tr {T U : String} (hT : T ∈ targets) (hU : U ∈ targets) {x : V} {d : Vl} (I : GInv K B φ S H) (r : RepV K B φ S H d x) (f : Fin K W σ (RepV K) B φ S H (fIsi2 T U d S) Q) {tp : Addr} {H' : Hp} (ntp : H tp = none) (hH : H' = upd H tp (.tup [.ty T, .ty U])) : TM K T U x H' fun b => Q (.bl b) H' := by
 unfold fIsi2 at f;split at f
 ·rename_i n h
  have X1 := Ext.new (o := .tup [.ty T, .ty U]) I ntp;have I1 := I.new (o := .tup [.ty T, .ty U]) ntp;have hq : Q (.bl (isTy T n || isTy U n)) H' := by subst hH; exact f φ _ _ I1 X1 rfl
  have r' : RepV K B φ S H' d x := by subst hH; exact r.ext X1 I
  rcases Au I r h with ⟨rfl, rfl⟩ | ⟨b, rfl, rfl⟩ | ⟨b, rfl, rfl⟩ | ⟨b, rfl, rfl⟩ | ⟨a, rfl, hk⟩
  ·have : ∀ T ∈ targets, isTy T "NoneType" = false := by decide
   rw [this T hT, this U hU] at hq;exact hq
  ·exact hq
  ·exact hq
  ·exact hq
  ·have I1' : GInv K B φ S H' := by subst hH; exact I1
   rcases Au I1' r' h with ⟨z, _⟩ | ⟨b, z, _⟩ | ⟨b, z, _⟩ | ⟨b, z, _⟩ | ⟨a', z, hk'⟩ <;> cases z
   exact ⟨n, hk', hq⟩
 ·exact f.elim
theorem Ot {q1 q2 tpos : Pos} {j : Nat} {T U : String} (hm : X.mg "isinstance" = none) (hmT : X.mg y = none) (hmU : X.mg z = none) (ha : PE X a (cZ X.K W ma)) (hT : T ∈ targets := by decide) (hU : U ∈ targets := by decide)
  (hv : bootBuiltins y = some (.type T) := by decide +kernel) (hw : bootBuiltins z = some (.type U) := by decide +kernel) (hg : Gl X "isinstance" := by rfl) (hgT : Gl X y := by rfl) (hgU : Gl X z := by rfl) (hn : y ≠ "__name__" := by decide) (hd : (y == ("__debug__" : Str)) = false := by decide) (hn2 : z ≠ "__name__" := by decide) (hd2 : (z == ("__debug__" : Str)) = false := by decide)
  (hs : starEach [a, .Tuple [.Name y q1, .Name z q2] j tpos] X.env = (false, eval a X.env) :: starEach [.Tuple [.Name y q1, .Name z q2] j tpos] X.env := by rfl) :
  PE X (.Call (.Name "isinstance" p) [a, .Tuple [.Name y q1, .Name z q2] j tpos] [] pos) (cZ X.K W (m1 (fIsi2 T U) ma)) :=
 dG (VN hm hmT hmU ha hT hU hv hw hg hgT hgU hn hd hn2 hd2 hs) fun σ H Q h => cU (k := fun x _ S => fIsi2 T U x S) h fun B φ S ρ d v H1 I E r f => by
  show _ /\ _
  exact ⟨(by show 2 <= sizeLine; decide), fun tp htp => ⟨upd_same, Tr hT hU I r f htp rfl⟩⟩
def cutD (xs : List D) (lo hi : Option Int) : List D := (xs.drop (HT.sIx xs.length 0 lo)).take (HT.sIx xs.length xs.length hi - HT.sIx xs.length 0 lo)
theorem RepL.cut {Bk : Addr -> Prop} {ds : List D} {vs : List V} {lo hi : Option Int} (h : RepL K Bk H ds vs) : RepL K Bk H (cutD ds lo hi) (cutV vs lo hi) := by
 unfold cutD cutV;rw [h.len];exact (h.drop _).take _
def TC (cl : Bool) (x : Vl) (lo hi : Option Int) (S : aO) : Res Vl := match x with
 | .dat (.tup xs) => .ok (.dat (.tup (cutD xs lo hi))) S
 | .dat (.str z) => if z.length <= sizeLine then .ok (.dat (.str (cutS z lo hi))) S else .stuck
 | .scr ns => newL cl (cutD (ns.map D.int) lo hi) S
 | x => match oW S x with
  | some xs => newL cl (cutD xs lo hi) S
  | none => .stuck
def pN : FO := fun _ S => .ok none S
def fX (a : FE) : FO := fun ρ S => (a ρ S).bind fun x S1 => match x with
 | .dat (.int i) => .ok (some i) S1
 | _ => .stuck
theorem Pa {e : Option Expr} {t u : TO} (h : PO X e t) (i : ∀ σ H Q, u σ H Q -> t σ H Q) : PO X e u := ⟨fun pins s σ H Q I q => h.run pins s σ H Q I (i σ H Q q)⟩
theorem gW : PO X none (rdO X.K W pN) := Pa po_none fun σ H Q h => by
 obtain ⟨B, φ, S, ρ, I, E, f⟩ := h;exact Fin.now (v := none) f I rfl
theorem gV (ha : PE X a (cZ X.K W ma)) : PO X (some a) (rdO X.K W (fX ma)) := Pa (NK ha) fun σ H Q h =>
 cU (k := fun x _ S1 => match x with | .dat (.int i) => .ok (some i) S1 | _ => .stuck) h fun B φ S ρ d v H1 I E r f => by
  split at f
  ·cases r; exact Fin.now f I rfl
  ·exact f.elim
theorem EJ {Bk : Addr -> Prop} : ∀ ns : List Int, RepL K Bk H (ns.map D.int) (ns.map V.int)
 | [] => rfl
 | n :: ns => ⟨_, _, rfl, rfl, EJ ns⟩
theorem MD {xs : List D} {lo hi : Option Int} (h : HT.sIx xs.length 0 lo = 0 /\ HT.sIx xs.length xs.length hi = xs.length) : cutD xs lo hi = xs := by
 unfold cutD;rw [h.1, h.2];simp
def Aq (cl : Bool) (a : FE) (l h : FO) : FE := fun ρ S => (a ρ S).bind fun x S1 => (l ρ S1).bind fun lo S2 => (h ρ S2).bind fun hi S3 => TC cl x lo hi S3
theorem xI {cl : Bool} {lo hi : Option Expr} {ml mh : FO} (ha : PE X a (cZ X.K W ma)) (hl : PO X lo (rdO X.K W ml)) (hh : PO X hi (rdO X.K W mh)) : PE X (.Subscript a (.Slice lo hi none p2) pos) (cZ X.K W (Aq cl ma ml mh)) := dG (pe_slice sl_C ha hl hh) fun σ H Q h =>
 cU (k := fun x ρ S1 => (ml ρ S1).bind fun lo S2 => (mh ρ S2).bind fun hi S3 => TC cl x lo hi S3) h fun B φ S ρ d v H1 I E r f => kU I E f fun φ1 S1 d1 v1 H2 I1 X1 E1 r1 f1 => kU I1 E1 f1 fun φ2 S2 d2 v2 H3 I2 X2 E2 r2 f2 => by
  cases r1;cases r2
  replace r := (r.ext X1 I).ext X2 I1
  unfold TC at f2;split at f2
  ·rename_i xs
   obtain ⟨a, vs, rfl, h1, l1⟩ := r;refine Bg ⟨vs, h1, fun hw => ?_, fun hw p hp => Fin.newT f2 I2 l1.cut hp⟩
   rw [l1.len] at hw;have e := MD (xs := xs) hw;rw [e] at f2;exact Fin.now f2 I2 ⟨a, vs, rfl, h1, l1⟩
  ·cases r
   split at f2
   ·rename_i hz; exact ⟨hz, Fin.now f2 I2 rfl⟩
   ·exact f2.elim
  ·obtain ⟨a, rfl, h1⟩ := r
   exact Dw ⟨_, h1.sq, fun p hp => Fin.newL f2 I2 (EJ _).cut hp⟩
  ·split at f2
   ·rename_i xs q1
    obtain ⟨a, vs, rfl, h1, l1⟩ := lZ I2 q1 r;exact Dw ⟨vs, SqL.of h1, fun p hp => Fin.newL f2 I2 l1.cut hp⟩
   ·exact f2.elim
def yA (a : FE) : FE := fun ρ S => (a ρ S).bind fun x S1 => match x with
 | .cel n => (match S1[n]? with
  | some (.lst ds) => .ok (.dat (.lst ds)) (S1.set n .dead)
  | _ => .stuck)
 | _ => .stuck
theorem sU (ha : PE X a (cZ X.K W ma)) : PE X a (cZ X.K W (yA ma)) := dG ha fun σ H Q h =>
 cU (k := fun x _ S1 => match x with | .cel n => (match S1[n]? with | some (Cell.lst ds) => Res.ok (Vl.dat (D.lst ds)) (S1.set n Cell.dead) | _ => Res.stuck) | _ => Res.stuck) h fun B φ S ρ d v H1 I E r f => by
  split at f
  ·rename_i n
   obtain ⟨a, rfl, h1⟩ := r;split at f
   ·rename_i ds q
    obtain ⟨vs, h2, l⟩ := I.ok n _ a q h1;have X1 := Ext.kill (φ := φ) (S := S) (H := H1) (n := n);exact f φ _ H1 I.kill X1 ⟨a, vs, rfl, I.killed q (by simp) h1, h2, X1.repL I l⟩
   ·exact f.elim
  ·exact f.elim
def Sn (a : FE) (r : FA) : FA := fun ρ S => (a ρ S).bind fun x S1 => match (match x with | .dat (.tup xs) => some xs | x => oW S1 x) with
 | some xs => (r ρ S1).bind fun ys S2 => .ok (xs.map Vl.dat ++ ys) S2
 | none => .stuck
end
inductive Out where
 | next (ρ : Ev) (S : aO) | ret (d : Vl) (S : aO) | brk (ρ : Ev) (S : aO) | cnt (ρ : Ev) (S : aO) | err (e : Er) (ρ : Ev) (S : aO) | stuck
abbrev FS := Ev -> aO -> Out
def Res.toS {α : Type} (r : Res α) (ρ : Ev) (k : α -> aO -> Out) : Out := match r with
 | .ok a S => k a S
 | .err e S => .err e ρ S
 | .stuck => .stuck
def FinS (K : aD) (W : WX) (D : Ends) (B : Addr -> Prop) (φ : List Addr) (S : aO) (H : Hp) (o : Out) : Prop := match o with
 | .next ρ' S' => ∀ φ' σ' H', GInv K B φ' S' H' -> Ext φ S H φ' S' H' -> RepE K B φ' S' H' ρ' σ' -> D.nx σ' H'
 | .ret d S' => ∀ φ' v H', GInv K B φ' S' H' -> Ext φ S H φ' S' H' -> RepV K B φ' S' H' d v -> D.rt v H'
 | .brk ρ' S' => ∀ φ' σ' H', GInv K B φ' S' H' -> Ext φ S H φ' S' H' -> RepE K B φ' S' H' ρ' σ' -> D.bk σ' H'
 | .cnt ρ' S' => ∀ φ' σ' H', GInv K B φ' S' H' -> Ext φ S H φ' S' H' -> RepE K B φ' S' H' ρ' σ' -> D.ct σ' H'
 | .err e ρ' S' => ∀ φ' σ' c x H', GInv K B φ' S' H' -> Ext φ S H φ' S' H' -> RepE K B φ' S' H' ρ' σ' -> RepX K B φ' S' H' e c x -> W c x σ' H'
 | .stuck => False
def kP (K : aD) (W : WX) (m : FS) : TS := fun D σ H => ∃ B φ S ρ, GInv K B φ S H /\ RepE K B φ S H ρ σ /\ FinS K W D B φ S H (m ρ S)
section
variable {X : Cx} {W : WX} {e a b c : Expr} {es rest : List Expr} {pos p q p2 : Pos} {x y z : Str} {K : aD} {ma mb mc : FE} {mt mu : FT} {mas : FA} {B : Addr -> Prop} {φ φ' : List Addr} {S S' : aO} {H H' : Hp} {σ : L2.St} {Q : VK} {m n : FS} {st : Stmt} {gR : List Stmt} {D : Ends}
theorem fT {t u : TS} (h : PS X st t) (i : ∀ D σ H, u D σ H -> t D σ H) : PS X st u := ⟨fun pins s σ H D I q => h.run pins s σ H D I (i D σ H q)⟩
theorem GA {t u : TS} (h : PSs X gR t) (i : ∀ D σ H, u D σ H -> t D σ H) : PSs X gR u := ⟨fun pins s σ H D I q => h.run pins s σ H D I (i D σ H q)⟩
theorem FinS.ext {o : Out} (f : FinS K W D B φ S H o) (e : Ext φ S H φ' S' H') : FinS K W D B φ' S' H' o := by
 cases o with
 | next ρ S1 => exact fun φ1 v H1 I1 X r => f φ1 v H1 I1 (e.trans X) r
 | ret d S1 => exact fun φ1 v H1 I1 X r => f φ1 v H1 I1 (e.trans X) r
 | brk ρ S1 => exact fun φ1 v H1 I1 X r => f φ1 v H1 I1 (e.trans X) r
 | cnt ρ S1 => exact fun φ1 v H1 I1 X r => f φ1 v H1 I1 (e.trans X) r
 | err x ρ S1 => exact fun φ1 σ1 c x H1 I1 X r => f φ1 σ1 c x H1 I1 (e.trans X) r
 | stuck => exact f
theorem cN {α β : Type} {R : Rl α β} {ρ : Ev} {m : Ev -> aO -> Res α} {k : α -> aO -> Out} {Q1 : β -> Hp -> Prop} (I : GInv K B φ S H) (E : RepE K B φ S H ρ σ) (f : FinS K W D B φ S H ((m ρ S).toS ρ k))
  (hk : ∀ φ' S' d v H1, GInv K B φ' S' H1 -> Ext φ S H φ' S' H1 -> RepE K B φ' S' H1 ρ σ -> R B φ' S' H1 d v -> FinS K W D B φ' S' H1 (k d S') -> Q1 v H1) : rd K W R m σ H Q1 := by
 refine ⟨B, φ, S, ρ, I, E, ?_⟩
 cases e : m ρ S with
 | stuck => rw [e] at f; exact f
 | err x S' =>
  rw [e] at f;exact fun φ' c d H' I' X r => f φ' σ c d H' I' X (E.ext X I) r
 | ok d S' =>
  rw [e] at f;exact fun φ' v H' I' X r => hk φ' S' d v H' I' X (E.ext X I) r (FinS.ext f X)
def aS (m n : FS) : FS := fun ρ S => match m ρ S with
 | .next ρ' S' => n ρ' S'
 | o => o
def bE : FS := fun ρ S => .next ρ S
def bS (a : FE) : FS := fun ρ S => (a ρ S).toS ρ fun d S1 => .ret d S1
def eF (a : FE) : FS := fun ρ S => (a ρ S).toS ρ fun _ S1 => .next ρ S1
def bR (t : FT) (m n : FS) : FS := fun ρ S => (t ρ S).toS ρ fun c S1 => if c = true then m ρ S1 else n ρ S1
theorem Q3 (h : kP K W (aS m n) D σ H) : tSeq (kP K W m) (kP K W n) D σ H := by
 obtain ⟨B, φ, S, ρ, I, E, f⟩ := h;refine ⟨B, φ, S, ρ, I, E, ?_⟩
 unfold aS at f;cases e : m ρ S with
 | next ρ' S' =>
  rw [e] at f;exact fun φ' σ' H' I' X r => ⟨B, φ', S', ρ', I', r, FinS.ext f X⟩
 | ret d S' => rw [e] at f; exact f
 | brk d S' => rw [e] at f; exact f
 | cnt d S' => rw [e] at f; exact f
 | err x d S' => rw [e] at f; exact f
 | stuck => rw [e] at f; exact f
theorem aQ : PSs X [] (kP X.K W bE) := GA pss_nil fun D σ H h => by
 obtain ⟨B, φ, S, ρ, I, E, f⟩ := h;exact f φ σ H I Ext.refl E
theorem aH (h : PS X st (kP X.K W m)) : PSs X [st] (kP X.K W m) := pss_one h
theorem aE (h : PS X st (kP X.K W m)) (hr : PSs X gR (kP X.K W n)) : PSs X (st :: gR) (kP X.K W (aS m n)) := GA (pss_cons h hr) fun D σ H h => Q3 h
theorem aU (ha : PE X a (cZ X.K W ma)) : PS X (.Return (some a) pos) (kP X.K W (bS ma)) := fT (ps_ret ha) fun D σ H h => by
 obtain ⟨B, φ, S, ρ, I, E, f⟩ := h;exact cN I E f fun φ' S' d v H1 I1 X1 E1 r f1 => f1 φ' v H1 I1 Ext.refl r
theorem RY : PS X (.Return none pos) (kP X.K W (bS (mC .non))) := fT ps_retN fun D σ H h => by
 obtain ⟨B, φ, S, ρ, I, E, f⟩ := h;exact f φ _ H I Ext.refl rfl
theorem cV (ha : PE X a (cZ X.K W ma)) (hs : swapsWith a none pos.line X.env = pure false := by rfl) : PS X (.Expr a pos) (kP X.K W (eF ma)) := fT (ps_expr ha hs) fun D σ H h => by
 obtain ⟨B, φ, S, ρ, I, E, f⟩ := h;exact cN I E f fun φ' S' d v H1 I1 X1 E1 r f1 => f1 φ' σ H1 I1 Ext.refl E1
theorem bC {s1 s2 : List Stmt} (ht : PT X c (yS X.K W mt)) (ha : PSs X s1 (kP X.K W m)) (hb : PSs X s2 (kP X.K W n)) : PS X (.If c s1 s2 pos) (kP X.K W (bR mt m n)) := fT (ps_if ht ha hb) fun D σ H h => by
 obtain ⟨B, φ, S, ρ, I, E, f⟩ := h;refine cN I E f fun φ' S' d v H1 I1 X1 E1 r f1 => ?_
 have r : v = d := r;subst r;cases v with
 | true => exact ⟨B, φ', S', ρ, I1, E1, f1⟩
 | false => exact ⟨B, φ', S', ρ, I1, E1, f1⟩
inductive Tg where
 | nm (i : Nat) | tp (is : List Nat) | tn (i : Nat) (is : List Nat)
def Fu : List Nat -> TGs
 | [] => gNil
 | i :: r => gCons (gName i) (Fu r)
def Pn (K : aD) : Tg -> TG
 | .nm i => gName i
 | .tp is => gTup K is.length (Fu is)
 | .tn i is => gTup K 2 (gCons (gName i) (gCons (gTup K is.length (Fu is)) gNil))
def putAll : List Nat -> List L2.V -> L2.St -> L2.St
 | i :: r, v :: vs, σ => putAll r vs (σ.set i (some v))
 | _, _, σ => σ
def kG : List Nat -> List PH.D -> Ev -> Ev
 | i :: r, v :: vs, σ => kG r vs (σ.set i (some (.dat v)))
 | _, _, σ => σ
def pE : Tg -> Vl -> Ev -> Option Ev
 | .nm i, d, ρ => some (ρ.set i (some d))
 | .tp is, .dat (.tup ds), ρ => if ds.length = is.length then some (kG is ds ρ) else none
 | .tp _, _, _ => none
 | .tn i is, .dat (.tup [d, .tup ds]), ρ => if ds.length = is.length then some (kG is ds (ρ.set i (some (.dat d)))) else none
 | .tn _ _, _, _ => none
def Tb : Tg -> List Nat
 | .nm i => [i]
 | .tp is => is
 | .tn i is => i :: is
theorem B3 {Q : L2.St -> Hp -> Prop} : ∀ {is : List Nat} {vs : List L2.V} {σ : L2.St} {H : Hp}, vs.length = is.length -> Q (putAll is vs σ) H -> Fu is vs σ H Q
 | [], [], σ, H, _, q => ⟨rfl, q⟩
 | i :: is, v :: vs, σ, H, h, q => ⟨v, vs, rfl, B3 (is := is) (by simpa using h) q⟩
 | [], _ :: _, _, _, h, _ => by simp at h
 | _ :: _, [], _, _, h, _ => by simp at h
theorem Cb : ∀ {is : List Nat} {ds : List PH.D} {vs : List L2.V} {ρ : Ev} {σ : L2.St}, RepL K (lI B φ S) H ds vs -> RepE K B φ S H ρ σ -> RepE K B φ S H (kG is ds ρ) (putAll is vs σ)
 | [], ds, vs, ρ, σ, h, E => by cases ds <;> cases vs <;> exact E
 | i :: is, [], vs, ρ, σ, h, E => by cases h; exact E
 | i :: is, d :: ds, vs, ρ, σ, ⟨v, ws, e, h1, h2⟩, E => by subst e; exact Cb (is := is) h2 (E.set (d := .dat d) h1 i)
def Tf : Tg -> L2.V -> List L2.V -> L2.St -> L2.St
 | .nm i, v, _, σ => σ.set i (some v)
 | .tp is, _, vs, σ => putAll is vs σ
 | .tn i is, _, v :: vs, σ => putAll is vs (σ.set i (some v))
 | .tn _ _, _, [], σ => σ
theorem FP {t : Tg} {d : Vl} {v : L2.V} {ρ ρ' : Ev} {Q : L2.St -> Hp -> Prop} (E : RepE K B φ S H ρ σ) (r : RepV K B φ S H d v) (h : pE t d ρ = some ρ') (q : ∀ vs, RepE K B φ S H ρ' (Tf t v vs σ) -> Q (Tf t v vs σ) H) : Pn K t v σ H Q := by
 cases t with
 | nm i => cases h; exact q [] (E.set r i)
 | tp is =>
  cases d with
  | dat d =>
   cases d with
   | tup ds =>
    have h : (if ds.length = is.length then some (kG is ds ρ) else none) = some ρ' := h
    split at h
    ·rename_i hl
     cases h;obtain ⟨a, vs, rfl, h1, l⟩ := r;exact ⟨a, vs, rfl, h1, by rw [l.len, hl], B3 (by rw [l.len, hl]) (q vs (Cb l E))⟩
    ·cases h
   | _ => cases h
  | _ => cases h
 | tn i is =>
  cases d with
  | dat d =>
   cases d with
   | tup xs =>
    cases xs with
    | nil => cases h
    | cons d0 xs =>
     cases xs with
     | nil => cases h
     | cons d1 xs =>
      cases xs with
      | cons _ _ => cases d1 <;> cases h
      | nil =>
       cases d1 with
       | tup ds =>
        have h : (if ds.length = is.length then some (kG is ds (ρ.set i (some (.dat d0)))) else none) = some ρ' := h
        split at h
        ·rename_i hl
         cases h;obtain ⟨a, vs, rfl, h1, v0, ws, rfl, r0, v1, us, rfl, ⟨b, zs, rfl, h2, l⟩, rfl⟩ := r;refine ⟨a, [v0, .ref b], rfl, h1, rfl, v0, _, rfl, .ref b, _, rfl, b, zs, rfl, h2, by rw [l.len, hl], ?_⟩
         refine B3 (Q := fun σ' H' => gNil [] σ' H' Q) (by rw [l.len, hl]) ⟨rfl, ?_⟩
         exact q (v0 :: zs) (Cb l (E.set (d := .dat d0) r0 i))
        ·cases h
       | _ => cases h
   | _ => cases h
  | _ => cases h
def bV (a : FE) (t : Tg) : FS := fun ρ S => (a ρ S).toS ρ fun d S1 => match pE t d ρ with
 | some ρ' => .next ρ' S1
 | none => .stuck
theorem Jk {t : Tg} (h : kP K W (bV ma t) D σ H) : tAsg (cZ K W ma) (Pn K t) D σ H := by
 obtain ⟨B, φ, S, ρ, I, E, f⟩ := h;refine cN I E f fun φ' S' d v H1 I1 X1 E1 r f1 => ?_
 split at f1
 ·rename_i ρ' q
  exact FP E1 r q fun vs E2 => f1 φ' _ H1 I1 Ext.refl E2
 ·exact f1.elim
theorem uF {tg e : Expr} {t : Tg} (he : PE X e (cZ X.K W ma)) (hg : PG X tg (Pn X.K t)) (hs : swapsWithSole [tg] e pos.line X.env = pure false := by rfl) (hw : swappedStores [tg] e X.env = pure none := by rfl)
  (h1 : (assignEach [tg] X.env).map (·.2) = [assign tg X.env] := by rfl) : PS X (.Assign [tg] e pos) (kP X.K W (bV ma t)) := fT (ps_asg he hg hs hw h1) fun D σ H h => Jk h
theorem aZ {i : Nat} {x : Str} {e : Expr} {pos' : Pos} (hN : X.N.Nodup) (hi : X.N[i]? = some x) (hx : Loc X.env.scope x) (he : PE X e (cZ X.K W ma)) (hs : swapsWith e (some (.Name x pos')) pos.line X.env = pure false := by rfl) (hf : X.fn x = true \/ X.env.scope.names.lookup x = some .local := by first | exact .inl rfl | exact .inr rfl | assumption) :
  PS X (.Assign [.Name x pos'] e pos) (kP X.K W (bV ma (.nm i))) := fT (ps_set hN hi hx he hs hf) fun D σ H h => Jk (t := .nm i) h
def wipeE (ρ : Ev) : List Nat -> Ev
 | [] => ρ
 | v :: vs => (wipeE ρ vs).set v none
theorem RepE.wipeE {ρ : Ev} (E : RepE K B φ S H ρ σ) : ∀ is : List Nat, RepE K B φ S H (wipeE ρ is) σ
 | [] => E
 | i :: is => (RepE.wipeE E is).forget i
def kH (is : List Nat) (m : FS) : FS := fun ρ S => match m ρ S with
 | .next ρ' S' => .next (wipeE ρ' is) S'
 | .cnt ρ' S' => .cnt (wipeE ρ' is) S'
 | .brk ρ' S' => .brk (wipeE ρ' is) S'
 | o => o
theorem Mv {is : List Nat} (h : kP K W (kH is m) D σ H) : kP K W m D σ H := by
 obtain ⟨B, φ, S, ρ, I, E, f⟩ := h;refine ⟨B, φ, S, ρ, I, E, ?_⟩
 unfold kH at f;cases e : m ρ S with
 | next ρ' S' => rw [e] at f; exact fun φ' σ' H' I' X r => f φ' σ' H' I' X (r.wipeE is)
 | ret d S' => rw [e] at f; exact f
 | brk ρ' S' => rw [e] at f; exact fun φ' σ' H' I' X r => f φ' σ' H' I' X (r.wipeE is)
 | cnt ρ' S' => rw [e] at f; exact fun φ' σ' H' I' X r => f φ' σ' H' I' X (r.wipeE is)
 | err x d S' => rw [e] at f; exact f
 | stuck => rw [e] at f; exact f
theorem iW (is : List Nat) (h : PSs X gR (kP X.K W m)) : PSs X gR (kP X.K W (kH is m)) := GA h fun D σ H h => Mv h
abbrev FI := Ev -> aO -> Res (List PH.D)
def Pg (K : aD) (B : Addr -> Prop) (φ : List Addr) (S : aO) (H : Hp) (J : It) (ds : List PH.D) : Prop := ∀ φ1 S1 H1 B1, GInv K B1 φ1 S1 H1 -> Kp (lI B φ S) H (lI B1 φ1 S1) H1 ->
 (∀ i, i < ds.length -> J.go i H1) /\ J.stop ds.length H1 /\ ∀ i x H2 d, ds[i]? = some d -> J.yld i H1 x H2 -> GInv K B1 φ1 S1 H2 /\ Ext φ1 S1 H1 φ1 S1 H2 /\ Rep K (lI B1 φ1 S1) H2 d x
def RI (K : aD) : Rl (List PH.D) It := fun B φ S H ds J => Pg K B φ S H J ds
abbrev Po (K : aD) (W : WX) (m : FI) : TI := rd K W (RI K) m
theorem JR {tg iter : Expr} {t u : TI} (h : PI X tg iter t) (i : ∀ σ H R, u σ H R -> t σ H R) : PI X tg iter u := ⟨fun pins s σ H R I q => h.run pins s σ H R I (i σ H R q)⟩
theorem Ext.kpB {B1 : Addr -> Prop} {φ1 : List Addr} {S1 : aO} {H1 : Hp} (h1 : ∀ a, B a -> B1 a) (h2 : ∀ a, H a ≠ none -> B1 a -> B a) (I : GInv K B φ S H) (x : Ext φ S H φ1 S1 H1) : Kp (lI B φ S) H (lI B1 φ1 S1) H1 where
 old := fun b o h n => by
  obtain ⟨h3, h4⟩ := x.old b o h (fun q => n (.inr q))
  exact ⟨h3, fun q => by
   rcases q with q | q
   ·exact n (.inl (h2 b (by rw [h]; simp) q))
   ·exact h4 q⟩
 tup := (x.kp I).tup
theorem Qm {v : L2.V} {ds : List PH.D} (I : GInv K B φ S H) (r : Rep K (lI B φ S) H (.lst ds) v) : ∃ a, v = .ref a /\ (∃ xs, SqL K H a xs) /\ Pg K B φ S H (Itl K a) ds := by
 obtain ⟨a, vs, rfl, nb, h1, l⟩ := r;refine ⟨a, rfl, ⟨vs, SqL.of h1⟩, fun φ1 S1 H1 B1 I1 X1 => ?_⟩
 have h2 := (X1.old a _ h1 nb).1;have l2 := RepL.kp X1 ds vs l;have hl := l.len;refine ⟨fun i hi => ⟨vs, vs[i], SqL.of h2, by simp [hl, hi]⟩, ⟨vs, SqL.of h2, by omega⟩, fun i x H2 d hd y => ?_⟩
 obtain ⟨rfl, y⟩ := y;obtain ⟨v', h3, h4⟩ := l2.get hd;rw [y vs (SqL.of h2)] at h3;cases h3;exact ⟨I1, Ext.refl, h4⟩
theorem UV {v : L2.V} {ds : List PH.D} (I : GInv K B φ S H) (r : Rep K (lI B φ S) H (.tup ds) v) : ∃ a, v = .ref a /\ (∃ xs, SqT K H a xs) /\ Pg K B φ S H (Itt K a) ds := by
 obtain ⟨a, vs, rfl, h1, l⟩ := r;refine ⟨a, rfl, ⟨vs, h1⟩, fun φ1 S1 H1 B1 I1 X1 => ?_⟩
 have h2 : SqT K H1 a vs := SqT.kp X1.tup h1;have l2 := RepL.kp X1 ds vs l;have hl := l.len;refine ⟨fun i hi => ⟨vs, vs[i], h2, by simp [hl, hi]⟩, ⟨vs, h2, by omega⟩, fun i x H2 d hd y => ?_⟩
 obtain ⟨rfl, y⟩ := y;obtain ⟨v', h3, h4⟩ := l2.get hd;rw [y vs h2] at h3;cases h3;exact ⟨I1, Ext.refl, h4⟩
def itemsOf : Vl -> aO -> Res (List PH.D)
 | .dat (.lst ds), S => .ok ds S
 | .dat (.tup ds), S => .ok ds S
 | _, _ => .stuck
def lQ (a : FE) : FI := fun ρ S => (a ρ S).bind itemsOf
theorem kM {tg : Expr} (ha : PE X a (cZ X.K W ma)) : PI X tg a (Po X.K W (lQ ma)) := JR (Tw ha) fun σ H R h =>
 cU (k := fun x _ S => itemsOf x S) h fun B φ S ρ d v H1 I E r f => by
  unfold itemsOf at f;split at f
  ·obtain ⟨a, rfl, h1, h2⟩ := Qm I r
   exact Dw ⟨h1, Fin.now f I h2⟩
  ·obtain ⟨a, rfl, h1, h2⟩ := UV I r
   exact Bg ⟨h1, Fin.now f I h2⟩
  ·exact f.elim
def gK (lo : Int) (n : Nat) : List PH.D := (aX n).map fun (k : Nat) => PH.D.int (lo + (k : Int))
theorem UW {lo : Int} {n : Nat} : Pg K B φ S H (Itr lo n) (gK lo n) := fun φ1 S1 H1 B1 I1 X1 => by
 refine ⟨fun i hi => by show i < n; simpa [gK] using hi, by show n <= _; simp [gK], fun i x H2 d hd y => ?_⟩
 obtain ⟨rfl, rfl⟩ := y;have : d = .int (lo + (i : Int)) := by
  unfold gK at hd;rw [cM] at hd;cases q : (aX n)[i]? with
  | none => rw [q] at hd; cases hd
  | some k =>
   rw [q] at hd;have := aI.mp q;obtain ⟨_, e⟩ := this;simp at e;subst e;cases hd;rfl
 subst this;exact ⟨I1, Ext.refl, rfl⟩
def jN (a : FE) : FI := fun ρ S => (a ρ S).bind fun x S1 => match x with
 | .dat (.int j) => if -(2 ^ 62) <= j /\ j < 2 ^ 62 then .ok (gK 0 j.toNat) S1 else .stuck
 | _ => .stuck
theorem pR {tg : Expr} (hg : Gl X "range") (hm : X.mg "range" = none) (ha : PE X a (cZ X.K W ma)) (hs : starEach [a] X.env = [(false, eval a X.env)] := by rfl) : PI X tg (.Call (.Name "range" p) [a] [] pos) (Po X.K W (jN ma)) := JR (pi_range1 hg hm (pa_cons ha pa_nil hs) hs) fun σ H R h =>
 cU (k := fun x _ S1 => match x with | Vl.dat (PH.D.int j) => if -(2 ^ 62) <= j /\ j < 2 ^ 62 then Res.ok (gK 0 j.toNat) S1 else .stuck | _ => .stuck) h fun B φ S ρ d v H1 I E r f => by
  split at f
  ·rename_i j
   cases r;split at f
   ·rename_i hj
    exact ⟨j, rfl, hj.1, hj.2, Fin.now f I UW⟩
   ·exact f.elim
  ·exact f.elim
def eG : Nat -> List PH.D -> List PH.D
 | _, [] => []
 | n, d :: r => .tup [.int (n : Nat), d] :: eG (n + 1) r
theorem Eo : ∀ (n : Nat) (ds : List PH.D), (eG n ds).length = ds.length
 | _, [] => rfl
 | n, d :: r => by simp [eG, Eo (n + 1) r]
theorem Ep : ∀ (n : Nat) (ds : List PH.D) (i : Nat), (eG n ds)[i]? = (ds[i]?).map fun d => PH.D.tup [.int ((n + i : Nat) : Int), d]
 | n, [], i => by simp [eG]
 | n, d :: r, 0 => by simp [eG]
 | n, d :: r, i + 1 => by
  simp only [eG, iS];rw [Ep (n + 1) r i, show n + 1 + i = n + (i + 1) by omega]
def EW (a : FE) : FI := fun ρ S => (a ρ S).bind fun x S1 => match x with
 | .dat (.lst ds) => .ok (eG 0 ds) S1
 | _ => .stuck
theorem Qn {a : Addr} {vs : List L2.V} {ds : List PH.D} (I : GInv K B φ S H) (nb : ¬ lI B φ S a) (h1 : H a = some (.lst vs)) (l : RepL K (lI B φ S) H ds vs) : Pg K B φ S H (Ite K a) (eG 0 ds) := fun φ1 S1 H1 B1 I1 X1 => by
 have h2 := (X1.old a _ h1 nb).1;have l2 := RepL.kp X1 ds vs l;have hl := l.len;rw [Eo];refine ⟨fun i hi => ⟨vs, vs[i], SqL.of h2, by simp [hl, hi]⟩, ⟨vs, SqL.of h2, by omega⟩, fun i x H2 d hd y => ?_⟩
 obtain ⟨T, x', rfl, nT, rfl, y⟩ := y;rw [Ep, kZ] at hd;cases q : ds[i]? with
 | none => rw [q] at hd; cases hd
 | some d' =>
  rw [q] at hd;cases hd;obtain ⟨v', h3, h4⟩ := l2.get q;rw [y vs (SqL.of h2)] at h3;cases h3;have X2 := Ext.new (o := .tup [.int (i : Nat), x']) I1 nT;exact ⟨I1.new nT, X2, T, _, rfl, .inl (.inl upd_same), _, _, rfl, rfl, _, _, rfl, Rep.kp (X2.kp I1) _ _ h4, rfl⟩
theorem Bx {elts : List Expr} {kk : Nat} {tpos : Pos} (hg : Gl X "enumerate") (hm : X.mg "enumerate" = none) (ha : PE X a (cZ X.K W ma)) (hs : starEach [a] X.env = [(false, eval a X.env)] := by rfl) : PI X (.Tuple elts kk tpos) (.Call (.Name "enumerate" p) [a] [] pos) (Po X.K W (EW ma)) := JR (pi_enum hg hm (pa_cons ha pa_nil hs) hs) fun σ H R h =>
 cU (k := fun x _ S1 => match x with | Vl.dat (PH.D.lst ds) => Res.ok (eG 0 ds) S1 | _ => .stuck) h fun B φ S ρ d v H1 I E r f => by
  split at f
  ·obtain ⟨a, vs, rfl, nb, h1, l⟩ := r
   exact ⟨a, vs, rfl, SqL.of h1, Fin.now f I (Qn I nb h1 l)⟩
  ·exact f.elim
def MV : List PH.D -> List PH.D -> List PH.D
 | a :: r, b :: s => .tup [a, b] :: MV r s
 | _, _ => []
def Qa (a b : FE) : FI := fun ρ S => (a ρ S).bind fun x S1 => (b ρ S1).bind fun y S2 => match x, y with
 | .dat (.lst ds), .dat (.lst es) => .ok (MV ds es) S2
 | _, _ => .stuck
end
section
variable {X : Cx} {W : WX} {e a b c : Expr} {es rest : List Expr} {pos p q p2 : Pos} {x y z : Str} {K : aD} {ma mb mc : FE} {mt mu : FT} {mas : FA} {mi : FI} {B : Addr -> Prop} {φ φ' : List Addr} {S S' : aO} {H H' : Hp} {σ : L2.St} {Q : VK} {m n : FS} {st : Stmt} {gR : List Stmt} {D : Ends} {t : Tg}
def loop (t : Tg) (mb : FS) : List PH.D -> Ev -> aO -> Out
 | [], ρ, S => .next ρ S
 | d :: r, ρ, S => match pE t (.dat d) ρ with
  | none => .stuck
  | some ρ1 => match mb ρ1 S with
   | .next ρ2 S2 => loop t mb r ρ2 S2
   | .cnt ρ2 S2 => loop t mb r ρ2 S2
   | .brk ρ2 S2 => .next ρ2 S2
   | .ret d S2 => .ret d S2
   | .err e ρ2 S2 => .err e ρ2 S2
   | .stuck => .stuck
def tW (mi : FI) (t : Tg) (mb : FS) : FS := fun ρ S => (mi ρ S).toS ρ fun ds S1 => loop t mb ds ρ S1
theorem Q6 (h : kP K W (tW mi t m) D σ H) : tFor (Po K W mi) (Pn K t) (kP K W m) D σ H := by
 obtain ⟨B, φ, S, ρ, I, E, f⟩ := h;refine cN I E f fun φ0 S0 ds J H0 I0 X0 E0 r f0 => ?_
 refine ⟨fun i k σ' H' => i <= ds.length /\ k = ds.length - i /\ ∃ φ1 S1 ρ1, GInv K B φ1 S1 H' /\ Ext φ0 S0 H0 φ1 S1 H' /\ RepE K B φ1 S1 H' ρ1 σ' /\ FinS K W D B φ1 S1 H' (loop t m (ds.drop i) ρ1 S1), ⟨_, jC _, rfl, φ0, S0, ρ, I0, Ext.refl, E0, f0⟩, ?_⟩
 rintro i k σ' H' ⟨hi, rfl, φ1, S1, ρ1, I1, X1, E1, f1⟩
 obtain ⟨hgo, hstop, hyld⟩ := r φ1 S1 H' B I1 (X1.kp I0)
 by_cases hlt : i < ds.length
 ·refine .inr ⟨hgo i hlt, fun σ2 H2 => i + 1 <= ds.length /\ ∃ φ2 S2 ρ2, GInv K B φ2 S2 H2 /\ Ext φ0 S0 H0 φ2 S2 H2 /\ RepE K B φ2 S2 H2 ρ2 σ2 /\ FinS K W D B φ2 S2 H2 (loop t m (ds.drop (i + 1)) ρ2 S2), fun σ2 H2 ⟨h1, h2⟩ => ⟨ds.length - (i + 1), by omega, h1, rfl, h2⟩, fun x H2 y => ?_⟩
  have hd : ds[i]? = some ds[i] := by simp [hlt]
  obtain ⟨I2, X2, r2⟩ := hyld i x H2 ds[i] hd y;rw [tE hlt] at f1;unfold loop at f1;have E2 := E1.ext X2 I1;have f2 := FinS.ext f1 X2;split at f2
  ·exact f2.elim
  ·rename_i ρ2 q2
   refine FP E2 (d := .dat ds[i]) r2 q2 fun vs E3 => ⟨B, φ1, S1, ρ2, I2, E3, ?_⟩
   cases q3 : m ρ2 S1 with
   | next ρ3 S3 =>
    rw [q3] at f2;exact fun φ3 σ3 H3 I3 X3 E4 => ⟨hlt, φ3, S3, ρ3, I3, X1.trans (X2.trans X3), E4, FinS.ext f2 X3⟩
   | cnt ρ3 S3 =>
    rw [q3] at f2;exact fun φ3 σ3 H3 I3 X3 E4 => ⟨hlt, φ3, S3, ρ3, I3, X1.trans (X2.trans X3), E4, FinS.ext f2 X3⟩
   | brk ρ3 S3 => rw [q3] at f2; exact f2
   | ret d S3 => rw [q3] at f2; exact f2
   | err e ρ3 S3 => rw [q3] at f2; exact f2
   | stuck => rw [q3] at f2; exact f2
 ·have e : i = ds.length := by omega
  subst e;rw [Dc] at f1;exact .inl ⟨hstop, f1 φ1 σ' H' I1 Ext.refl E1⟩
theorem oY {tg iter : Expr} (hp : PassesOwn (model X.prog X.w) X.A X.env X.xe) (hc : X.calm = true) (hi : PI X tg iter (Po X.K W mi)) (hg : PG X tg (Pn X.K t)) (hb : PSs X gR (kP X.K W m))
  (hs : ∀ x, foldedSetIterable iter X.env x = pure x := by intro _; rfl) : PS X (.For tg iter gR [] pos) (kP X.K W (tW mi t m)) := fT (ps_for hp hc hi hg hb hs) fun D σ H h => Q6 h
def qV (mt : FT) (mb : FS) : Nat -> Ev -> aO -> Out
 | 0, _, _ => .stuck
 | n + 1, ρ, S => (mt ρ S).toS ρ fun c S1 => if c = true then (match mb ρ S1 with
   | .next ρ2 S2 => qV mt mb n ρ2 S2
   | .cnt ρ2 S2 => qV mt mb n ρ2 S2
   | .brk ρ2 S2 => .next ρ2 S2
   | .ret d S2 => .ret d S2
   | .err e ρ2 S2 => .err e ρ2 S2
   | .stuck => .stuck) else .next ρ S1
def Ap (k : Nat) (mt : FT) (mb : FS) : FS := fun ρ S => qV mt mb k ρ S
theorem L5 {k : Nat} (h : kP K W (Ap k mt m) D σ H) : tWhile (yS K W mt) (kP K W m) D σ H := by
 obtain ⟨B, φ, S, ρ, I, E, f⟩ := h;refine ⟨fun k σ' H' => ∃ φ1 S1 ρ1, GInv K B φ1 S1 H' /\ RepE K B φ1 S1 H' ρ1 σ' /\ FinS K W D B φ1 S1 H' (qV mt m k ρ1 S1), ⟨k, φ, S, ρ, I, E, f⟩, ?_⟩
 rintro k σ' H' ⟨φ1, S1, ρ1, I1, E1, f1⟩
 cases k with
 | zero => exact f1.elim
 | succ k =>
  refine cN I1 E1 f1 fun φ2 S2 d v H2 I2 X2 E2 r f2 => ?_
  have r : v = d := r;subst r;cases v with
  | false => exact f2 φ2 σ' H2 I2 Ext.refl E2
  | true =>
   refine ⟨fun σ3 H3 => ∃ φ1 S1 ρ1, GInv K B φ1 S1 H3 /\ RepE K B φ1 S1 H3 ρ1 σ3 /\ FinS K W D B φ1 S1 H3 (qV mt m k ρ1 S1), fun σ3 H3 h3 => ⟨k, Df _, h3⟩, ⟨B, φ2, S2, ρ1, I2, E2, ?_⟩⟩
   rw [if_pos rfl] at f2;cases q3 : m ρ1 S2 with
   | next ρ3 S3 =>
    rw [q3] at f2;exact fun φ3 σ3 H3 I3 X3 E4 => ⟨φ3, S3, ρ3, I3, E4, FinS.ext f2 X3⟩
   | cnt ρ3 S3 =>
    rw [q3] at f2;exact fun φ3 σ3 H3 I3 X3 E4 => ⟨φ3, S3, ρ3, I3, E4, FinS.ext f2 X3⟩
   | brk ρ3 S3 => rw [q3] at f2; exact f2
   | ret d S3 => rw [q3] at f2; exact f2
   | err e ρ3 S3 => rw [q3] at f2; exact f2
   | stuck => rw [q3] at f2; exact f2
theorem Hg {k : Nat} (hp : PassesOwn (model X.prog X.w) X.A X.env X.xe) (hc : PT X c (yS X.K W mt)) (hb : PSs X gR (kP X.K W m)) : PS X (.While c gR [] pos) (kP X.K W (Ap k mt m)) := fT (ps_while hp hc hb) fun D σ H h => L5 h
theorem wN : ∀ (vs : List Nat) (σ : L2.St) (j : Nat), (wipe σ vs)[j]? = if j ∈ vs then (σ[j]?).map (fun _ => none) else σ[j]?
 | [], σ, j => by simp [wipe]
 | v :: vs, σ, j => by
  unfold wipe;rw [aW, wN vs σ j, wipe_length]
  by_cases e : v = j
  ·subst e
   rw [if_pos rfl, if_pos (aV ..)]
   by_cases hl : v < σ.length
   ·rw [if_pos hl]; simp [hl]
   ·rw [if_neg hl]; simp [vD hl]
  ·rw [if_neg e]
   by_cases hm : j ∈ vs
   ·rw [if_pos hm, if_pos (aK _ hm)]
   ·rw [if_neg hm, if_neg]
    intro h;rcases bJ.mp h with h | h
    ·exact e h.symm
    ·exact hm h
theorem C8 {vs : List Nat} {σ : L2.St} {i : Nat} {v : Option L2.V} (hi : i ∈ vs) : wipe (σ.set i v) vs = wipe σ vs := by
 apply gQ
 intro j;rw [wN, wN]
 by_cases hj : j ∈ vs
 ·rw [if_pos hj, if_pos hj, aW]
  by_cases e : i = j
  ·subst e
   rw [if_pos rfl]
   by_cases hl : i < σ.length
   ·rw [if_pos hl]; simp [hl]
   ·rw [if_neg hl]; simp [vD hl]
  ·rw [if_neg e]
 ·rw [if_neg hj, if_neg hj, aW, if_neg]
  intro e;subst e;exact hj hi
theorem Dz {vs : List Nat} {σ : L2.St} : wipe (wipe σ vs) vs = wipe σ vs := by
 apply gQ
 intro j;rw [wN]
 by_cases hj : j ∈ vs
 ·rw [if_pos hj, wN, if_pos hj]
  cases σ[j]? <;> rfl
 ·rw [if_neg hj]
theorem vE {vs : List Nat} : ∀ {is : List Nat} {ws : List L2.V} {σ : L2.St}, (∀ i ∈ is, i ∈ vs) -> wipe (putAll is ws σ) vs = wipe σ vs
 | [], ws, σ, _ => by cases ws <;> rfl
 | i :: is, [], σ, _ => rfl
 | i :: is, w :: ws, σ, h => by
  unfold putAll;rw [vE (is := is) fun j hj => h j (aK _ hj), C8 (h i (aV ..))]
theorem E5 {vs : List Nat} {v : L2.V} {ws : List L2.V} (h : ∀ i ∈ Tb t, i ∈ vs) : wipe (Tf t v ws σ) vs = wipe σ vs := by
 cases t with
 | nm i => exact C8 (h i (by simp [Tb]))
 | tp is => exact vE h
 | tn i is =>
  cases ws with
  | nil => rfl
  | cons w ws =>
   show wipe (putAll is ws (σ.set i (some w))) vs = _
   rw [vE fun j hj => h j (aK _ hj), C8 (h i (aV ..))]
theorem RepE.wipes {ρ : Ev} (E : RepE K B φ S H ρ σ) (vs : List Nat) : RepE K B φ S H (PH.wipeE ρ vs) (wipe σ vs) := by
 have hl : ∀ vs : List Nat, (PH.wipeE ρ vs).length = ρ.length := fun vs => by
  induction vs with
  | nil => rfl
  | cons v vs ih => simp [PH.wipeE, ih]
 have hg : ∀ (vs : List Nat) (i : Nat) (d : Vl), (PH.wipeE ρ vs)[i]? = some (some d) -> i ∉ vs /\ ρ[i]? = some (some d) := fun vs => by
  induction vs with
  | nil => intro i d h; exact ⟨by simp, h⟩
  | cons v vs ih =>
   intro i d h;unfold PH.wipeE at h;rw [aW] at h
   by_cases e : v = i
   ·rw [if_pos e] at h
    by_cases hv : v < (PH.wipeE ρ vs).length
    ·rw [if_pos hv] at h; cases h
    ·rw [if_neg hv] at h; cases h
   ·rw [if_neg e] at h
    obtain ⟨h1, h2⟩ := ih i d h;exact ⟨fun q => by
     rcases bJ.mp q with q | q
     ·exact e q.symm
     ·exact h1 q, h2⟩
 refine ⟨by rw [hl, wipe_length]; exact E.1, fun i d h => ?_⟩
 obtain ⟨h1, h2⟩ := hg vs i d h;obtain ⟨v, h3, h4⟩ := E.2 i d h2;exact ⟨v, by rw [wN, if_neg h1]; exact h3, h4⟩
def kF (B : Addr -> Prop) (a : Addr) : Addr -> Prop := fun b => B b \/ b = a
theorem GInv.plus {a : Addr} {o : HO} (I : GInv K B φ S H) (ha : H a = none) : GInv K (kF B a) φ S (upd H a o) where
 len := I.len
 ok := fun n c b h1 h2 => by
  have q := I.ok n c b h1 h2;have k : Kp (lI B φ S) H (lI (kF B a) φ S) (upd H a o) := Ext.kpB (B1 := kF B a) (fun _ h => .inl h) (fun b hb h => by
   rcases h with h | h
   ·exact h
   ·exact absurd (by rw [h]; exact ha) hb) I (Ext.new I ha)
  have hb : c ≠ .dead -> upd H a o b = H b := fun hc => upd_ne fun e => by
   subst e;exact I.fresh ha ⟨n, c, h1, hc, h2⟩
  have hV : ∀ {d : Vl} {v : L2.V}, RepV K B φ S H d v -> RepV K (kF B a) φ S (upd H a o) d v := fun {d v} r => by
   cases d with
   | dat d => exact Rep.kp k d v r
   | cel n => exact r
   | cels ns => obtain ⟨a', as, e1, e2, e3, e4⟩ := r; exact ⟨a', as, e1, (k.old _ _ e3 e2).2, (k.old _ _ e3 e2).1, e4⟩
   | scr ns => obtain ⟨a', e1, e2⟩ := r; exact ⟨a', e1, e2.keep fun o u h => by rw [upd_ne (ne_of_none h ha)]; exact h⟩
   | tc xs => obtain ⟨a', vs, e1, e2, e3⟩ := r; exact ⟨a', vs, e1, SqT.kp k.tup e2, e3.kp k (fun _ _ h => h)⟩
  have hF : ∀ {fs : List (Str × Vl)} {vs : List (Str × L2.V)}, RepF K B φ S H fs vs -> RepF K (kF B a) φ S (upd H a o) fs vs := fun {fs} => by
   induction fs with
   | nil => intro vs r; exact r
   | cons f fs ih => rintro vs ⟨v, ws, e, h1, h2⟩; exact ⟨v, ws, e, hV h1, ih h2⟩
  cases c with
  | dead => trivial
  | lst ds => obtain ⟨vs, e, r⟩ := q; exact ⟨vs, by rw [hb (by simp)]; exact e, RepL.kp k ds vs r⟩
  | ins C fs => obtain ⟨dx, vs, e, r⟩ := q; exact ⟨dx, vs, by rw [hb (by simp)]; exact e, hF r⟩
  | dct fs => obtain ⟨vs, e, r⟩ := q; exact ⟨vs, by rw [hb (by simp)]; exact e, hF r⟩
  | lv xs => obtain ⟨vs, e, r⟩ := q; exact ⟨vs, by rw [hb (by simp)]; exact e, dQ hV r⟩
  | dki ks xs => obtain ⟨vs, e, r⟩ := q; exact ⟨vs, by rw [hb (by simp)]; exact e, dQ hV r⟩
  | dkt ks xs => obtain ⟨vs, e, r⟩ := q; exact ⟨vs, by rw [hb (by simp)]; exact e, dQ hV r⟩
 inj := I.inj
 blk := fun b h q => by
  rcases q with q | q
  ·exact I.blk b h q
  ·subst q; exact I.fresh ha h
 btr := fun b h => by
  rcases h with h | h
  ·obtain ⟨u, e⟩ := I.btr b h
   exact ⟨u, by rw [upd_ne (ne_of_none e ha)]; exact e⟩
  ·subst h; exact ⟨o, upd_same⟩
theorem RepV.less {a : Addr} {d : Vl} {v : L2.V} (r : RepV K (kF B a) φ S H d v) : RepV K B φ S H d v := by
 have k : Kp (lI (kF B a) φ S) H (lI B φ S) H := ⟨fun b o h n => ⟨h, fun q => n (by
  rcases q with q | q
  ·exact .inl (.inl q)
  ·exact .inr q)⟩, fun _ _ h => h⟩
 cases d with
 | dat d => exact Rep.kp k d v r
 | cel n => exact r
 | cels ns => obtain ⟨a', as, e1, e2, e3, e4⟩ := r; exact ⟨a', as, e1, (k.old _ _ e3 e2).2, e3, e4⟩
 | scr ns => exact r
 | tc xs => obtain ⟨a', vs, e1, e2, e3⟩ := r; exact ⟨a', vs, e1, SqT.kp k.tup e2, e3.kp k (fun _ _ h => h)⟩
theorem RepL.less {a : Addr} {ds : List PH.D} {vs : List L2.V} (r : RepL K (lI (kF B a) φ S) H ds vs) : RepL K (lI B φ S) H ds vs :=
 RepL.kp ⟨fun b o h n => ⟨h, fun q => n (by
  rcases q with q | q
  ·exact .inl (.inl q)
  ·exact .inr q)⟩, fun _ _ h => h⟩ ds vs r
theorem RepF.less {a : Addr} : ∀ {fs : List (Str × Vl)} {vs : List (Str × L2.V)}, RepF K (kF B a) φ S H fs vs -> RepF K B φ S H fs vs
 | [], vs, r => r
 | f :: fs, vs, ⟨v, ws, e, h1, h2⟩ => ⟨v, ws, e, h1.less, RepF.less h2⟩
theorem GInv.less {a : Addr} (I : GInv K (kF B a) φ S H) : GInv K B φ S H where
 len := I.len
 ok := fun n c b h1 h2 => by
  have q := I.ok n c b h1 h2;cases c with
  | dead => trivial
  | lst ds => obtain ⟨vs, e, r⟩ := q; exact ⟨vs, e, r.less⟩
  | ins C fs => obtain ⟨dx, vs, e, r⟩ := q; exact ⟨dx, vs, e, r.less⟩
  | dct fs => obtain ⟨vs, e, r⟩ := q; exact ⟨vs, e, r.less⟩
  | lv xs => obtain ⟨vs, e, r⟩ := q; exact ⟨vs, e, dQ RepV.less r⟩
  | dki ks xs => obtain ⟨vs, e, r⟩ := q; exact ⟨vs, e, dQ RepV.less r⟩
  | dkt ks xs => obtain ⟨vs, e, r⟩ := q; exact ⟨vs, e, dQ RepV.less r⟩
 inj := I.inj
 blk := fun b h q => I.blk b h (.inl q)
 btr := fun b h => I.btr b (.inl h)
theorem Kp.plusPut {a : Addr} {acc : List L2.V} {o : HO} (ha : H a = some (.lst acc)) : Kp (lI (kF B a) φ S) H (lI (kF B a) φ S) (upd H a o) :=
 ⟨fun b o' h n => ⟨by
  rw [upd_ne]
  ·exact h
  ·intro e; subst e; exact n (.inl (.inr rfl)), n⟩, fun b w h => by
  have ne : b ≠ a := fun e => by
   subst e;rcases h with h | ⟨o', h⟩
   ·rw [ha] at h; cases h
   ·rw [ha] at h; cases h
  rcases h with h | ⟨o', h⟩
  ·exact .inl (by rw [upd_ne ne]; exact h)
  ·exact .inr ⟨o', by rw [upd_ne ne]; exact h⟩⟩
theorem RepV.plusPut {a : Addr} {acc : List L2.V} {o : HO} (ha : H a = some (.lst acc)) {d : Vl} {v : L2.V} (r : RepV K (kF B a) φ S H d v) : RepV K (kF B a) φ S (upd H a o) d v := by
 have k := Kp.plusPut (B := B) (φ := φ) (S := S) (o := o) ha;cases d with
 | dat d => exact Rep.kp k d v r
 | cel n => exact r
 | cels ns => obtain ⟨a', as, e1, e2, e3, e4⟩ := r; exact ⟨a', as, e1, (k.old _ _ e3 e2).2, (k.old _ _ e3 e2).1, e4⟩
 | scr ns =>
  obtain ⟨a', e1, e2⟩ := r;refine ⟨a', e1, e2.keep fun o u h => ?_⟩
  rw [upd_ne]
  ·exact h
  ·intro e; subst e; rw [ha] at h; cases h
 | tc xs => obtain ⟨a', vs, e1, e2, e3⟩ := r; exact ⟨a', vs, e1, SqT.kp k.tup e2, e3.kp k (fun _ _ h => h)⟩
theorem RepF.plusPut {a : Addr} {acc : List L2.V} {o : HO} (ha : H a = some (.lst acc)) : ∀ {fs : List (Str × Vl)} {vs : List (Str × L2.V)}, RepF K (kF B a) φ S H fs vs -> RepF K (kF B a) φ S (upd H a o) fs vs
 | [], vs, r => r
 | f :: fs, vs, ⟨v, ws, e, h1, h2⟩ => ⟨v, ws, e, h1.plusPut ha, RepF.plusPut ha h2⟩
theorem GInv.plusPut {a : Addr} {acc : List L2.V} {o : HO} (I : GInv K (kF B a) φ S H) (ha : H a = some (.lst acc)) : GInv K (kF B a) φ S (upd H a o) where
 len := I.len
 ok := fun n c b h1 h2 => by
  have q := I.ok n c b h1 h2;have k := Kp.plusPut (B := B) (φ := φ) (S := S) (o := o) ha;have hb : c ≠ .dead -> upd H a o b = H b := fun hc => upd_ne fun e => by
   subst e;exact I.blk b ⟨n, c, h1, hc, h2⟩ (.inr rfl)
  cases c with
  | dead => trivial
  | lst ds => obtain ⟨vs, e, r⟩ := q; exact ⟨vs, by rw [hb (by simp)]; exact e, RepL.kp k ds vs r⟩
  | ins C fs => obtain ⟨dx, vs, e, r⟩ := q; exact ⟨dx, vs, by rw [hb (by simp)]; exact e, r.plusPut ha⟩
  | dct fs => obtain ⟨vs, e, r⟩ := q; exact ⟨vs, by rw [hb (by simp)]; exact e, r.plusPut ha⟩
  | lv xs => obtain ⟨vs, e, r⟩ := q; exact ⟨vs, by rw [hb (by simp)]; exact e, dQ (RepV.plusPut ha) r⟩
  | dki ks xs => obtain ⟨vs, e, r⟩ := q; exact ⟨vs, by rw [hb (by simp)]; exact e, dQ (RepV.plusPut ha) r⟩
  | dkt ks xs => obtain ⟨vs, e, r⟩ := q; exact ⟨vs, by rw [hb (by simp)]; exact e, dQ (RepV.plusPut ha) r⟩
 inj := I.inj
 blk := I.blk
 btr := fun b h => by
  by_cases e : b = a
  ·subst e; exact ⟨o, upd_same⟩
  ·obtain ⟨u, h1⟩ := I.btr b h
   exact ⟨u, by rw [upd_ne e]; exact h1⟩
theorem RepV.plus {a : Addr} {o : HO} (I : GInv K B φ S H) (ha : H a = none) {d : Vl} {v : L2.V} (r : RepV K B φ S H d v) : RepV K (kF B a) φ S (upd H a o) d v := by
 have k : Kp (lI B φ S) H (lI (kF B a) φ S) (upd H a o) := Ext.kpB (B1 := kF B a) (fun _ h => .inl h) (fun b hb h => by
  rcases h with h | h
  ·exact h
  ·exact absurd (by rw [h]; exact ha) hb) I (Ext.new I ha)
 cases d with
 | dat d => exact Rep.kp k d v r
 | cel n => exact r
 | cels ns => obtain ⟨a', as, e1, e2, e3, e4⟩ := r; exact ⟨a', as, e1, (k.old _ _ e3 e2).2, (k.old _ _ e3 e2).1, e4⟩
 | scr ns => obtain ⟨a', e1, e2⟩ := r; exact ⟨a', e1, e2.keep fun o u h => by rw [upd_ne (ne_of_none h ha)]; exact h⟩
 | tc xs => obtain ⟨a', vs, e1, e2, e3⟩ := r; exact ⟨a', vs, e1, SqT.kp k.tup e2, e3.kp k (fun _ _ h => h)⟩
theorem RepE.plus {a : Addr} {o : HO} {ρ : Ev} (I : GInv K B φ S H) (ha : H a = none) (E : RepE K B φ S H ρ σ) : RepE K (kF B a) φ S (upd H a o) ρ σ :=
 ⟨E.1, fun i d h => by
  obtain ⟨v, h1, h2⟩ := E.2 i d h;exact ⟨v, h1, h2.plus I ha⟩⟩
theorem RepE.plusPut {a : Addr} {acc : List L2.V} {o : HO} {ρ : Ev} (ha : H a = some (.lst acc)) (E : RepE K (kF B a) φ S H ρ σ) : RepE K (kF B a) φ S (upd H a o) ρ σ :=
 ⟨E.1, fun i d h => by
  obtain ⟨v, h1, h2⟩ := E.2 i d h;exact ⟨v, h1, h2.plusPut ha⟩⟩
theorem Fin.done {cl : Bool} {a : Addr} {ds : List PH.D} {vs : List L2.V} {H0 : Hp} {φ0 : List Addr} {S0 : aO} (f : Fin K W σ (RepV K) B φ0 S0 H0 (PH.newL cl ds S) Q) (I : GInv K (kF B a) φ S H) (X0 : Ext φ0 S0 H0 φ S H) (h0 : H0 a = none) (nB : ¬ B a) (ha : H a = some (.lst vs)) (l : RepL K (lI (kF B a) φ S) H ds vs) : Q (.ref a) H := by
 have na : ¬ nA φ S a := fun q => I.blk a q (.inr rfl)
 unfold PH.newL at f;cases cl with
 | false =>
  refine f φ _ H I.less X0 ⟨a, vs, rfl, fun q => ?_, ha, l.less⟩
  rcases q with q | q
  ·exact nB q
  ·exact na q
 | true =>
  have X1 : Ext φ0 S0 H0 (φ ++ [a]) (S ++ [.lst ds]) H := {
   old := fun b o h n => by
    obtain ⟨h1, h2⟩ := X0.old b o h n;refine ⟨h1, fun q => ?_⟩
    rcases (lR I.len).mp q with q | ⟨_, q⟩
    ·exact h2 q
    ·subst q; rw [h0] at h; cases h
   ids := fun n b h => by
    have := X0.ids n b h;rw [aN (aI.mp this).1]; exact this }
  have hS : ∀ b, lI B (φ ++ [a]) (S ++ [.lst ds]) b -> lI (kF B a) φ S b := fun b q => by
   rcases q with q | q
   ·exact .inl (.inl q)
   ·rcases (lR I.len).mp q with q | ⟨_, q⟩
    ·exact .inr q
    ·exact .inl (.inr q)
  have k : Kp (lI (kF B a) φ S) H (lI B (φ ++ [a]) (S ++ [.lst ds])) H := ⟨fun b o h n => ⟨h, fun q => n (hS b q)⟩, fun _ _ h => h⟩
  have hφ : ∀ (n : Nat) (b : Addr), φ[n]? = some b -> (φ ++ [a])[n]? = some b := fun n b h => by rw [aN (aI.mp h).1]; exact h
  have hV : ∀ {d : Vl} {v : L2.V}, RepV K (kF B a) φ S H d v -> RepV K B (φ ++ [a]) (S ++ [.lst ds]) H d v := fun {d v} r => by
   cases d with
   | dat d => exact Rep.kp k d v r
   | cel n => obtain ⟨b, e1, e2⟩ := r; exact ⟨b, e1, hφ _ _ e2⟩
   | cels ns => obtain ⟨a', as, e1, e2, e3, e4⟩ := r; exact ⟨a', as, e1, (k.old _ _ e3 e2).2, e3, zO hφ ns as e4⟩
   | scr ns => exact r
   | tc xs => obtain ⟨a', vs, e1, e2, e3⟩ := r; exact ⟨a', vs, e1, SqT.kp k.tup e2, e3.kp k hφ⟩
  have hF : ∀ {fs : List (Str × Vl)} {vs : List (Str × L2.V)}, RepF K (kF B a) φ S H fs vs -> RepF K B (φ ++ [a]) (S ++ [.lst ds]) H fs vs := fun {fs} => by
   induction fs with
   | nil => intro vs r; exact r
   | cons f fs ih => rintro vs ⟨v, ws, e, h1, h2⟩; exact ⟨v, ws, e, hV h1, ih h2⟩
  refine f (φ ++ [a]) _ H ?_ X1 ⟨a, rfl, by rw [<- I.len]; exact oN⟩
  exact {
   len := by simp [I.len]
   ok := fun n c b h1 h2 => by
    by_cases hn : n < S.length
    ·rw [aN hn] at h1
     rw [aN (by rw [I.len]; exact hn)] at h2
     have q := I.ok n c b h1 h2;cases c with
     | dead => trivial
     | lst es => obtain ⟨us, e, r⟩ := q; exact ⟨us, e, RepL.kp k es us r⟩
     | ins C fs => obtain ⟨dx, us, e, r⟩ := q; exact ⟨dx, us, e, hF r⟩
     | dct fs => obtain ⟨us, e, r⟩ := q; exact ⟨us, e, hF r⟩
     | lv xs => obtain ⟨us, e, r⟩ := q; exact ⟨us, e, dQ hV r⟩
     | dki ks xs => obtain ⟨us, e, r⟩ := q; exact ⟨us, e, dQ hV r⟩
     | dkt ks xs => obtain ⟨us, e, r⟩ := q; exact ⟨us, e, dQ hV r⟩
    ·have e : n = S.length := by
      have := (aI.mp h1).1;simp at this;omega
     subst e;rw [bD (bX _)] at h1;rw [<- I.len, bD (bX _)] at h2;simp at h1 h2;subst h1 h2;exact ⟨vs, ha, RepL.kp k ds vs l⟩
   inj := fun n m c c' b h1 h2 h3 h4 h5 h6 => by
    have key : ∀ (n : Nat) (c : Cell), (S ++ [.lst ds])[n]? = some c -> (n < S.length /\ S[n]? = some c) \/ n = S.length := fun n c h => by
     by_cases hn : n < S.length
     ·rw [aN hn] at h; exact .inl ⟨hn, h⟩
     ·have := (aI.mp h).1
      simp at this;exact .inr (by omega)
    have kφ : ∀ n : Nat, n < S.length -> (φ ++ [a])[n]? = φ[n]? := fun n hn => aN (by rw [I.len]; exact hn)
    have kp : (φ ++ [a])[S.length]? = some a := by rw [<- I.len]; simp
    rcases key n c h1 with ⟨hn, e1⟩ | e1 <;> rcases key m c' h3 with ⟨hm, e2⟩ | e2
    ·rw [kφ n hn] at h5
     rw [kφ m hm] at h6;exact I.inj n m c c' b e1 h2 e2 h4 h5 h6
    ·subst e2
     rw [kp] at h6;cases h6;rw [kφ n hn] at h5;exact absurd ⟨n, c, e1, h2, h5⟩ na
    ·subst e1
     rw [kp] at h5;cases h5;rw [kφ m hm] at h6;exact absurd ⟨m, c', e2, h4, h6⟩ na
    ·omega
   blk := fun b h => by
    rcases (lR I.len).mp h with h | ⟨_, h⟩
    ·exact fun q => I.blk b h (.inl q)
    ·subst h; exact nB
   btr := fun b h => I.btr b (.inl h) }
end
section
variable {X : Cx} {W : WX} {e a b c : Expr} {es rest : List Expr} {pos p q p2 : Pos} {x y z : Str} {K : aD} {ma mb mc : FE} {mt mu : FT} {mas : FA} {mi mj : FI} {B : Addr -> Prop} {φ φ' : List Addr} {S S' : aO} {H H' : Hp} {σ : L2.St} {Q : VK} {m n : FS} {st : Stmt} {gR : List Stmt} {D : Ends} {t t1 : Tg}
def hY : FT := fun _ S => .ok true S
theorem Q2 {Q : Bool -> Hp -> Prop} (h : yS K W hY σ H Q) : tYes σ H Q := by
 obtain ⟨B, φ, S, ρ, I, E, f⟩ := h;exact Fin.now (v := true) f I rfl
theorem SK {es : List Expr} {t u : TT} (h : PTs X es t) (i : ∀ σ H Q, u σ H Q -> t σ H Q) : PTs X es u := ⟨fun pins s σ H Q I q => h.run pins s σ H Q I (i σ H Q q)⟩
theorem iN : PTs X [] (yS X.K W hY) := SK pts_nil fun σ H Q h => Q2 h
theorem KJ {c : Expr} (h : PT X c (yS X.K W mt)) : PTs X [c] (yS X.K W mt) := pts_one h
def jO (t : Tg) (mt : FT) (me : FE) (ρ : Ev) : List PH.D -> aO -> Res (List PH.D)
 | [], S => .ok [] S
 | d :: r, S => match pE t (.dat d) ρ with
  | none => .stuck
  | some ρ1 => match mt ρ1 S with
   | .ok b S1 => if b = true then (match me ρ1 S1 with
     | .ok (.dat e) S2 => (match jO t mt me ρ r S2 with
      | .ok es S3 => .ok (e :: es) S3
      | _ => .stuck)
     | _ => .stuck) else jO t mt me ρ r S1
   | _ => .stuck
def Ar (cl : Bool) (mi : FI) (t : Tg) (mt : FT) (me : FE) (vs : List Nat) : FE := fun ρ S => (mi ρ S).bind fun ds S1 => if ds.length <= sizeLine then (match jO t mt me (wipeE ρ vs) ds S1 with
 | .ok es S2 => newL cl es S2
 | _ => .stuck) else .stuck
theorem Mx {cl : Bool} {me : FE} {vs : List Nat} (ht : ∀ i ∈ Tb t, i ∈ vs) (h : cZ K W (Ar cl mi t mt me vs) σ H Q) : tLc (Po K W mi) (Pn K t) (yS K wNo mt) (cZ K wNo me) vs σ H Q := by
 refine cU (k := fun ds ρ S1 => if ds.length <= sizeLine then (match jO t mt me (wipeE ρ vs) ds S1 with | .ok es S2 => newL cl es S2 | _ => .stuck) else .stuck) h fun B φ0 S0 ρ ds J H0 I0 E0 r f0 => ?_
 intro A hA;split at f0
 case isFalse => exact f0.elim
 rename_i hsz;cases q0 : jO t mt me (wipeE ρ vs) ds S0 with
 | stuck => rw [q0] at f0; exact f0.elim
 | err e S' => rw [q0] at f0; exact f0.elim
 | ok es0 Sz =>
 rw [q0] at f0;have nB : ¬ B A := fun q => by obtain ⟨u, e⟩ := I0.btr A q; rw [hA] at e; cases e
 have IA : GInv K (kF B A) φ0 S0 (upd H0 A (.lst [])) := I0.plus hA;have b2 : ∀ a, H0 a ≠ none -> kF B A a -> B a := fun b hb h => by
  rcases h with h | h
  ·exact h
  ·exact absurd (by rw [h]; exact hA) hb
 -- what is known at a turn
 refine ⟨fun i k H' => i <= ds.length /\ k = ds.length - i /\ ∃ φ1 S1 us acc rest, GInv K (kF B A) φ1 S1 H' /\ Ext φ0 S0 H0 φ1 S1 H' /\ RepE K (kF B A) φ1 S1 H' (wipeE ρ vs) (wipe σ vs) /\ H' A = some (.lst us) /\ us.length <= i /\ RepL K (lI (kF B A) φ1 S1) H' acc us /\ jO t mt me (wipeE ρ vs) (ds.drop i) S1 = .ok rest Sz /\ acc ++ rest = es0,
  ⟨_, jC _, rfl, φ0, S0, [], [], es0, IA, Ext.new I0 hA, (E0.wipes vs).plus I0 hA, upd_same, bX _, rfl, q0, rfl⟩, ?_⟩
 rintro i k H' ⟨hi, rfl, φ1, S1, us, acc, rs, I1, X1, E1, hA1, hul, l1, g1, ea⟩
 obtain ⟨hgo, hstop, hyld⟩ := r φ1 S1 H' (kF B A) I1 (X1.kpB (fun _ h => .inl h) b2 I0)
 by_cases hlt : i < ds.length
 ·refine .inr ⟨hgo i hlt, fun H2 => i + 1 <= ds.length /\ ∃ φ1 S1 us acc rest, GInv K (kF B A) φ1 S1 H2 /\ Ext φ0 S0 H0 φ1 S1 H2 /\ RepE K (kF B A) φ1 S1 H2 (wipeE ρ vs) (wipe σ vs) /\ H2 A = some (.lst us) /\ us.length <= i + 1 /\ RepL K (lI (kF B A) φ1 S1) H2 acc us /\ jO t mt me (wipeE ρ vs) (ds.drop (i + 1)) S1 = .ok rest Sz /\ acc ++ rest = es0, fun H2 ⟨h1, h2⟩ => ⟨ds.length - (i + 1), by omega, h1, rfl, h2⟩, fun x H2 y => ?_⟩
  have hd : ds[i]? = some ds[i] := by simp [hlt]
  obtain ⟨I2, X2, r2⟩ := hyld i x H2 ds[i] hd y;rw [tE hlt] at g1;unfold jO at g1;split at g1
  case h_1 => cases g1
  rename_i ρ2 q2;have hA2 := (X2.old A _ hA1 fun q => I1.blk A q (.inr rfl)).1
  refine FP (E1.ext X2 I1) (d := .dat ds[i]) r2 q2 fun ws E3 => ⟨by rw [E5 ht, Dz], kF B A, φ1, S1, ρ2, I2, E3, ?_⟩
  split at g1
  case h_2 => cases g1
  rename_i b S3 q3;rw [q3];intro φ3 b' H3 I3 X3 rb;have rb : b' = b := rb;subst rb;have hA3 := (X3.old A _ hA2 fun q => I2.blk A q (.inr rfl)).1
  have Xa := X1.trans (X2.trans X3);cases b' with
  | false =>
   exact ⟨hlt, φ3, S3, us, acc, rs, I3, Xa, (E1.ext X2 I1).ext X3 I2, hA3, Nat.le_succ_of_le hul, X3.repL I2 (X2.repL I1 l1), g1, ea⟩
  | true =>
   rw [if_pos rfl];rw [if_pos rfl] at g1;refine ⟨kF B A, φ3, S3, ρ2, I3, E3.ext X3 I2, ?_⟩
   split at g1
   case h_2 => cases g1
   rename_i e S4 q4;rw [q4];intro φ4 v4 H4 I4 X4 r4;have hA4 := (X4.old A _ hA3 fun q => I3.blk A q (.inr rfl)).1
   split at g1
   case h_2 => cases g1
   rename_i es S5 q5;cases g1;have l4 : RepL K (lI (kF B A) φ4 S4) H4 (acc ++ [e]) (us ++ [v4]) := (X4.repL I3 (X3.repL I2 (X2.repL I1 l1))).snoc r4;refine ⟨us, hA4, by omega, hlt, φ4, S4, us ++ [v4], acc ++ [e], es, I4.plusPut hA4, ?_, (((E1.ext X2 I1).ext X3 I2).ext X4 I3).plusPut hA4, upd_same, by simp; omega, RepL.kp (Kp.plusPut hA4) _ _ l4, q5, by rw [<- ea]; simp⟩
   exact ⟨fun b o h nb => by
    obtain ⟨h1, h2⟩ := (Xa.trans X4).old b o h nb;exact ⟨by rw [upd_ne (fun e => by subst e; rw [hA] at h; cases h)]; exact h1, h2⟩, (Xa.trans X4).ids⟩
 ·have e : i = ds.length := by omega
  subst e;rw [Dc] at g1;cases g1;rw [cX] at ea;subst ea;exact .inl ⟨hstop, Fin.done f0 I1 X1 hA nB hA1 l1⟩
theorem yG {cl : Bool} {me : FE} {elt tg iter : Expr} {ifs : List Expr} {scope : Scope} {own : List (Str × Nat)} (hc : X.calm = true) (hN : X.N.Nodup) (hi : PI X tg iter (Po X.K W mi)) (ok : BlkOk X.N X.env.scope scope own)
  (hg : ∀ (s : Shared) (H : Hp) (C : Addr) (cl : List (Str × Addr)) (fp : List Addr), PG (X.blk s H scope (compEnvC scope cl C X.env) fp) tg (Pn X.K t)) (ht : ∀ (s : Shared) (H : Hp) (C : Addr) (cl : List (Str × Addr)) (fp : List Addr), PTs (X.blk s H scope (compEnvC scope cl C X.env) fp) ifs (yS X.K wNo mt))
  (he : ∀ (s : Shared) (H : Hp) (C : Addr) (cl : List (Str × Addr)) (fp : List Addr), PE (X.blk s H scope (compEnvC scope cl C X.env) fp) elt (cZ X.K wNo me)) (hs : ∀ x, foldedSetIterable iter X.env x = pure x := by intro _; rfl) (hv : ∀ i ∈ Tb t, i ∈ own.map (·.2) := by decide) :
  PE X (.ListComp elt [⟨tg, iter, ifs, 0⟩] scope pos) (cZ X.K W (Ar cl mi t mt me (own.map (·.2)))) := dG (pe_lc hc hN hi ok hg ht he hs) fun σ H Q h => Mx hv h
theorem Og {i : Nat} {y : Str} {py : Pos} {cl : Bool} {me : FE} {elt tg iter : Expr} {ifs : List Expr} {scope : Scope} {own : List (Str × Nat)} {spos : Pos} (hc : X.calm = true) (hN : X.N.Nodup) (hy : X.N[i]? = some y) (hyl : X.env.scope.names.lookup y = some .local)
  (hsw : swapsWith (.ListComp elt [⟨tg, iter, ifs, 0⟩] scope pos) (some (.Name y py)) spos.line X.env = pure true) (hi : PI X tg iter (Po X.K W mi)) (ok : BlkOk X.N X.env.scope scope own)
  (hg : ∀ (s : Shared) (H : Hp) (C : Addr) (cl : List (Str × Addr)) (fp : List Addr), PG (X.blk s H scope (compEnvC scope cl C X.env) fp) tg (Pn X.K t)) (ht : ∀ (s : Shared) (H : Hp) (C : Addr) (cl : List (Str × Addr)) (fp : List Addr), PTs (X.blk s H scope (compEnvC scope cl C X.env) fp) ifs (yS X.K wNo mt))
  (he : ∀ (s : Shared) (H : Hp) (C : Addr) (cl : List (Str × Addr)) (fp : List Addr), PE (X.blk s H scope (compEnvC scope cl C X.env) fp) elt (cZ X.K wNo me)) (hs : ∀ x, foldedSetIterable iter X.env x = pure x := by intro _; rfl) (hv : ∀ i ∈ Tb t, i ∈ own.map (·.2) := by decide) :
  PS X (.Assign [.Name y py] (.ListComp elt [⟨tg, iter, ifs, 0⟩] scope pos) spos) (kP X.K W (bV (Ar cl mi t mt me (own.map (·.2))) (.nm i))) := fT (ps_setLc hc hN hy hyl hsw hi ok hg ht he hs) fun D σ H h => by
 obtain ⟨B, φ, S, ρ, I, E, f⟩ := h;refine Mx hv (cN I E f fun φ' S' d v H1 I1 X1 E1 r f1 => ?_)
 exact f1 φ' _ H1 I1 Ext.refl (E1.set r i)
end
section
variable {X : Cx} {W : WX} {e a b c o i : Expr} {es rest : List Expr} {pos p q p2 tpos apos cpos : Pos} {x y z : Str} {K : aD} {ma mb mc mo mx : FE} {mt mt1 mu : FT} {mas : FA} {mi mj : FI} {B : Addr -> Prop} {φ φ' : List Addr} {S S' : aO} {H H' : Hp} {σ : L2.St} {Q : VK} {m n : FS} {st : Stmt} {gR : List Stmt} {D : Ends} {t t1 : Tg}
def HH (t : Tg) (mt : FT) (mj : FI) (t1 : Tg) (mt1 : FT) (me : FE) (vs1 : List Nat) (ρ : Ev) : List PH.D -> aO -> Res (List PH.D)
 | [], S => .ok [] S
 | d :: r, S => match pE t (.dat d) ρ with
  | none => .stuck
  | some ρ1 => match mt ρ1 S with
   | .ok b S1 => if b = true then (match mj ρ1 S1 with
     | .ok ds1 S2 => (match jO t1 mt1 me (wipeE ρ1 vs1) ds1 S2 with
      | .ok xs S3 => (match HH t mt mj t1 mt1 me vs1 ρ r S3 with
       | .ok ys S4 => .ok (xs ++ ys) S4
       | _ => .stuck)
      | _ => .stuck)
     | _ => .stuck) else HH t mt mj t1 mt1 me vs1 ρ r S1
   | _ => .stuck
def U8 (cl : Bool) (mi : FI) (t : Tg) (mt : FT) (mj : FI) (t1 : Tg) (mt1 : FT) (me : FE) (vs vs1 : List Nat) : FE := fun ρ S => (mi ρ S).bind fun ds S1 => match HH t mt mj t1 mt1 me vs1 (wipeE ρ vs) ds S1 with
 | .ok es S2 => if es.length <= sizeLine then newL cl es S2 else .stuck
 | _ => .stuck
def Hm (x y : Vl) (S : aO) : Res Vl := match x, y with
 | .cel n, .dat d => (match S[n]? with
  | some (.lst ds) => if ds.length < sizeLine then .ok (.dat .non) (S.set n (.lst (ds ++ [d]))) else .stuck
  | _ => .stuck)
 | _, _ => .stuck
theorem DQ {n : Nat} {ds ds' : List PH.D} {v v' : L2.V} {d' : Vl} {vs vs' : List L2.V} {a : Addr} (I : GInv K B φ S H) (hn : S[n]? = some (.lst ds)) (ha : φ[n]? = some a) (l : RepL K (lI B φ S) H ds' vs') (r : RepV K B φ S H d' v')
  (f : Fin K W σ (RepV K) B φ S H (.ok d' (S.set n (.lst ds'))) Q) : Q v' (upd H a (.lst vs')) := by
 have X1 := Ext.put (H := H) (o := .lst vs') (x := .lst ds') hn (by simp) ha (by simp)
 have I1 : GInv K B φ (S.set n (.lst ds')) (upd H a (.lst vs')) := I.put hn (by simp) ha (by simp) ⟨vs', upd_same, X1.repL I l⟩
 exact f φ v' _ I1 X1 (r.ext X1 I)
theorem U4 : ∀ {x : L2.V} {y : L2.V} {d e : Vl}, GInv K B φ S H -> RepV K B φ S H d x -> RepV K B φ S H e y -> Fin K W σ (RepV K) B φ S H (Hm d e S) Q -> Kb x [y] H Q := fun {x y d e} I r1 r2 f => by
 unfold Hm at f;split at f
 ·rename_i n d
  obtain ⟨a, rfl, h1⟩ := r1;split at f
  ·rename_i ds q
   obtain ⟨vs, h2, l⟩ := I.ok n _ a q h1;split at f
   ·rename_i hl
    exact ⟨vs, h2, by rw [l.len]; exact hl, DQ (v := .non) (v' := .non) (d' := .dat .non) (vs := vs) I q h1 (l.snoc r2) rfl f⟩
   ·exact f.elim
  ·exact f.elim
 ·exact f.elim
theorem PR {d e : Vl} {v : L2.V} (I : GInv K B φ S H) (r : RepV K B φ S H d v) (h : ∃ ds, oW S d = some ds) : tyV K "list" v H := by
 obtain ⟨ds, q⟩ := h;obtain ⟨a, vs, rfl, h1, l⟩ := lZ I q r;exact .inl ⟨rfl, vs, SqL.of h1⟩
def lV (a b : FE) : FE := fun ρ S => (a ρ S).bind fun x S1 => match oW S1 x with
 | some _ => (b ρ S1).bind fun y S2 => Hm x y S2
 | none => .stuck
theorem iD (ha : PE X a (cZ X.K W ma)) (hb : PE X b (cZ X.K W mb)) (hs : starEach [b] X.env = (false, eval b X.env) :: starEach [] X.env := by rfl) (hbase : attributeBase a "append" X.env (eval a X.env) = eval a X.env := by rfl) (hline : (apos.endLine == cpos.line) = true := by rfl)
  (hfew : ((backTo cpos (starEach [b] X.env)).all (fun x => !x.1) && (backToKw cpos (keywordEach [] X.env)).all (fun x => x.1.isSome)
   && decide ([b].length + ([] : List Keyword).length + (if ([] : List Keyword).isEmpty then 0 else 1) < 30)) = true := by rfl)
  (hpl : (backTo cpos (starEach ([] : List Expr) X.env)).any (·.1) = false := by rfl) : PE X (.Call (.Attribute a "append" apos) [b] [] cpos) (cZ X.K W (lV ma mb)) :=
 dG (pe_bm PySem.F.plainAttrs_list PySem.F.slot_list_append PySem.F.type_list_append Ih ha (pa_cons hb pa_nil hs) hbase hfew hline hs hpl) fun σ H Q h =>
  cU (k := fun x ρ S1 => match oW S1 x with | some _ => (mb ρ S1).bind fun y S2 => Hm x y S2 | none => .stuck) h fun B φ S ρ d v H1 I E r f => by
   split at f
   ·rename_i ds q
    exact ⟨PR (e := d) I r ⟨ds, q⟩, kU I E f fun φ' S' d2 v2 H2 I2 X2 E2 r2 f2 => U4 I2 (r.ext X2 I) r2 f2⟩
   ·exact f.elim
def sA (x : Vl) (S : aO) : Res Vl := match x with
 | .cel n => (match S[n]? with
  | some (.lst ds) => (match ds[ds.length - 1]? with
   | some d => .ok (.dat d) (S.set n (.lst ds.dropLast))
   | none => .stuck)
  | _ => .stuck)
 | _ => .stuck
theorem RepL.dropLast {Bk : Addr -> Prop} {ds : List PH.D} {vs : List L2.V} (h : RepL K Bk H ds vs) : RepL K Bk H ds.dropLast vs.dropLast := by
 rw [Kg, Kg, h.len];exact h.take _
theorem DC (ha : PE X a (cZ X.K W ma)) (hbase : attributeBase a "pop" X.env (eval a X.env) = eval a X.env := by rfl) (hline : (apos.endLine == cpos.line) = true := by rfl) : PE X (.Call (.Attribute a "pop" apos) [] [] cpos) (cZ X.K W (m1 sA ma)) :=
 dG (pe_bm0 PySem.F.plainAttrs_list PySem.F.slot_list_pop PySem.F.type_list_pop QU ha hbase hline) fun σ H Q h =>
  cU (k := fun x ρ S1 => sA x S1) h fun B φ S ρ d v H1 I E r f => by
   unfold sA at f;split at f
   ·rename_i n
    obtain ⟨a, rfl, h1⟩ := r;split at f
    ·rename_i ds q
     obtain ⟨vs, h2, l⟩ := I.ok n _ a q h1;split at f
     ·rename_i d qd
      obtain ⟨v', h3, h4⟩ := l.get qd;exact ⟨.inl ⟨rfl, vs, SqL.of h2⟩, vs, v', h2, by rw [l.len]; exact h3, DQ (v := .non) (d' := .dat d) (vs := vs) I q h1 l.dropLast h4 f⟩
     ·exact f.elim
    ·exact f.elim
   ·exact f.elim
def setC (x : Vl) (k : Int) (d : PH.D) (S : aO) : Option aO := match x with
 | .cel n => (match S[n]? with
  | some (.lst ds) => if 0 <= k /\ k.toNat < ds.length then some (S.set n (.lst (ds.set k.toNat d))) else none
  | _ => none)
 | _ => none
theorem Jm {x : Vl} {k : Int} {d : PH.D} {v u : L2.V} {Qh : Hp -> Prop} (I : GInv K B φ S H) (r : RepV K B φ S H x v) (rd' : Rep K (lI B φ S) H d u) (h : setC x k d S = some S') (q : ∀ H', GInv K B φ S' H' -> Ext φ S H φ S' H' -> Qh H') : KY v (.int k) u H Qh := by
 unfold setC at h;split at h
 ·rename_i n
  obtain ⟨a, rfl, h1⟩ := r;split at h
  ·rename_i ds q1
   split at h
   ·rename_i hk
    cases h;obtain ⟨vs, h2, l⟩ := I.ok n _ a q1 h1;have X1 := Ext.put (H := H) (o := .lst (vs.set k.toNat u)) (x := .lst (ds.set k.toNat d)) q1 (by simp) h1 (by simp)
    exact ⟨vs, h2, hk.1, by rw [l.len]; exact hk.2, q _ (I.put q1 (by simp) h1 (by simp) ⟨_, upd_same, X1.repL I (l.set rd' _)⟩) X1⟩
   ·cases h
  ·cases h
 ·cases h
def Jw (a o i : FE) : FS := fun ρ S => (a ρ S).toS ρ fun v S1 => (o ρ S1).toS ρ fun x S2 => (i ρ S2).toS ρ fun k S3 => match v, k with
 | .dat d, .dat (.int k) => (match setC x k d S3 with
  | some S4 => .next ρ S4
  | none => .stuck)
 | _, _ => .stuck
theorem RX (ha : PE X a (cZ X.K W ma)) (ho : PE X o (cZ X.K W mo)) (hi : PE X i (cZ X.K W mx)) (hs : swapsWithSole [.Subscript o i tpos] a pos.line X.env = pure false := by rfl) (hw : swappedStores [.Subscript o i tpos] a X.env = pure none := by rfl)
  (h1 : (assignEach [.Subscript o i tpos] X.env).map (·.2) = [assign (.Subscript o i tpos) X.env] := by rfl)
  (hz : ∀ v, assign (.Subscript o i tpos) X.env v = (do
   let ov <- holding [v] (eval o X.env)
   let iv <- holding [v, ov] (eval i X.env)
   standAt tpos
   holding [v, ov, iv] (setItem ov iv v)
   release [v, ov, iv] []) := by intro _; rfl) : PS X (.Assign [.Subscript o i tpos] a pos) (kP X.K W (Jw ma mo mx)) := fT (ps_asg ha (pg_sub ho hi EA hz) hs hw h1) fun D σ H h => by
 obtain ⟨B, φ, S, ρ, I, E, f⟩ := h;refine cN I E f fun φ1 S1 d1 v1 H1 I1 X1 E1 r1 f1 => cN I1 E1 f1 fun φ2 S2 d2 v2 H2 I2 X2 E2 r2 f2 => cN I2 E2 f2 fun φ3 S3 d3 v3 H3 I3 X3 E3 r3 f3 => ?_
 split at f3
 ·rename_i d k
  cases r3;split at f3
  ·rename_i S4 q
   exact Jm I3 (r2.ext X3 I2) ((r1.ext X2 I1).ext X3 I2) q fun H' I' X' => f3 φ3 σ H' I' X' (E3.ext X' I3)
  ·exact f3.elim
 ·exact f3.elim
def O9 (x : Vl) (k : Int) (S : aO) : Option PH.D := match x with
 | .cel n => (match S[n]? with
  | some (.lst ds) => if 0 <= k then ds[k.toNat]? else none
  | _ => none)
 | _ => none
theorem Qt {x : Vl} {k : Int} {d : PH.D} {v : L2.V} {Q' : VK} (I : GInv K B φ S H) (r : RepV K B φ S H x v) (h : O9 x k S = some d) (q : ∀ u, Rep K (lI B φ S) H d u -> Q' u H) : Ka v (.int k) H Q' := by
 unfold O9 at h;split at h
 ·rename_i n
  obtain ⟨a, rfl, h1⟩ := r;split at h
  ·rename_i ds q1
   split at h
   ·rename_i hk
    obtain ⟨vs, h2, l⟩ := I.ok n _ a q1 h1;obtain ⟨u, h3, h4⟩ := l.get h;exact ⟨vs, u, h2, hk, h3, q u h4⟩
   ·cases h
  ·cases h
 ·cases h
def kT (g : Int -> Int -> Int) (o i e : FE) : FS := fun ρ S => (o ρ S).toS ρ fun x S1 => (i ρ S1).toS ρ fun k S2 => match k with
 | .dat (.int k) => (match O9 x k S2 with
  | some (.int u) => (e ρ S2).toS ρ fun w S3 => (match w with
   | .dat (.int w) => (match setC x k (.int (g u w)) S3 with
    | some S4 => .next ρ S4
    | none => .stuck)
   | _ => .stuck)
  | _ => .stuck)
 | _ => .stuck
theorem GX {g : Int -> Int -> Int} {r : R2} {me : FE} (hr : ∀ i j H Q, Q (.int (g i j)) H -> r (.int i) (.int j) H Q) (h : kP K W (kT g mo mx me) D σ H) : tAugS (cZ K W mo) (cZ K W mx) (cZ K W me) Ka (cIp r) KY D σ H := by
 obtain ⟨B, φ, S, ρ, I, E, f⟩ := h;refine cN I E f fun φ1 S1 d1 v1 H1 I1 X1 E1 r1 f1 => cN I1 E1 f1 fun φ2 S2 d2 v2 H2 I2 X2 E2 r2 f2 => ?_
 split at f2
 ·rename_i k
  cases r2;split at f2
  ·rename_i u q
   refine Qt I2 (r1.ext X2 I1) q fun u' ru => ?_
   cases ru;refine cN I2 E2 f2 fun φ3 S3 d3 v3 H3 I3 X3 E3 r3 f3 => ?_
   split at f3
   ·rename_i w
    cases r3;split at f3
    ·rename_i S4 q4
     refine hr _ _ _ _ ?_
     exact Jm I3 ((r1.ext X2 I1).ext X3 I2) (d := .int (g u w)) rfl q4 fun H' I' X' => f3 φ3 σ H' I' X' (E3.ext X' I3)
    ·exact f3.elim
   ·exact f3.elim
  ·exact f2.elim
 ·exact f2.elim
theorem DB {me : FE} (ho : PE X o (cZ X.K W mo)) (hi : PE X i (cZ X.K W mx)) (he : PE X e (cZ X.K W me)) (ha : ∀ ov iv new, augStore i ov iv new = (do holding [new, ov, iv] (setItem ov iv new); release [new, ov, iv] []; pure .next) := by intros; rfl) : PS X (.AugAssign (.Subscript o i tpos) .Add e pos) (kP X.K W (kT (fun x y => x + y) mo mx me)) :=
 fT (N9 ho hi he Fp ha) fun D σ H h => GX (fun _ _ _ _ q => q) h
theorem qK {me : FE} (ho : PE X o (cZ X.K W mo)) (hi : PE X i (cZ X.K W mx)) (he : PE X e (cZ X.K W me)) (ha : ∀ ov iv new, augStore i ov iv new = (do holding [new, ov, iv] (setItem ov iv new); release [new, ov, iv] []; pure .next) := by intros; rfl) : PS X (.AugAssign (.Subscript o i tpos) .Sub e pos) (kP X.K W (kT (fun x y => x - y) mo mx me)) :=
 fT (N9 ho hi he Qo ha) fun D σ H h => GX (fun _ _ _ _ q => q) h
def Li (g : Int -> Int -> Int) (k : Nat) (e : FE) : FS := fun ρ S => match lk ρ k with
 | some (.dat (.int u)) => (e ρ S).toS ρ fun w S1 => (match w with
  | .dat (.int w) => .next (ρ.set k (some (.dat (.int (g u w))))) S1
  | _ => .stuck)
 | _ => .stuck
theorem Q8 {g : Int -> Int -> Int} {k : Nat} {r : R2} {me : FE} (hr : ∀ i j H Q, Q (.int (g i j)) H -> r (.int i) (.int j) H Q) (h : kP K W (Li g k me) D σ H) : tAug k (cZ K W me) (cIp r) D σ H := by
 obtain ⟨B, φ, S, ρ, I, E, f⟩ := h;unfold Li at f;split at f
 ·rename_i u q
  obtain ⟨v, h1, h2⟩ := E.2 k _ (Nd q);cases h2;refine ⟨_, h1, cN I E f fun φ3 S3 d3 v3 H3 I3 X3 E3 r3 f3 => ?_⟩
  split at f3
  ·cases r3
   exact hr _ _ _ _ (f3 φ3 _ H3 I3 Ext.refl (E3.set (d := .dat (.int (g _ _))) (v := .int (g _ _)) rfl k))
  ·exact f3.elim
 ·exact f.elim
theorem M6 {k : Nat} {me : FE} {pos' : Pos} (hN : X.N.Nodup) (hi : X.N[k]? = some x) (hx : Loc X.env.scope x) (he : PE X e (cZ X.K W me)) (hf : X.fn x = true \/ X.env.scope.names.lookup x = some .local := by first | exact .inl rfl | exact .inr rfl | assumption) : PS X (.AugAssign (.Name x pos') .Add e pos) (kP X.K W (Li (fun x y => x + y) k me)) :=
 fT (ps_aug hN hi hx he Fp hf) fun D σ H h => Q8 (fun _ _ _ _ q => q) h
def mPar (i j : Nat) (a b : FE) : FS := fun ρ S => (a ρ S).toS ρ fun x S1 => (b ρ S1).toS ρ fun y S2 => .next ((ρ.set i (some x)).set j (some y)) S2
end
abbrev FD := List Vl -> aO -> Res Vl
def spF (K : aD) (m : FD) : Sp := fun vs H Q E => ∃ B φ S ds, GInv K B φ S H /\ RepVs K B φ S H ds vs /\ Fin K (fun c x _ H => E c x H) [] (RepV K) B φ S H (m ds S) Q
section
variable {X : Cx} {W : WX} {e a b c o i : Expr} {es rest : List Expr} {pos p q p2 tpos apos cpos : Pos} {x y z : Str} {K : aD} {ma mb mc mo mx : FE} {mt mt1 mu : FT} {mas : FA} {mi mj : FI} {B : Addr -> Prop} {φ φ' : List Addr} {S S' : aO} {H H' : Hp} {σ : L2.St} {Q : VK} {m n : FS} {st : Stmt} {gR : List Stmt} {D : Ends} {t t1 : Tg} {ps : List Str} {md : FD} {j k : Nat}
theorem Fin.toE {r : Res Vl} (f : Fin K W σ (RepV K) B φ S H r Q) : Fin K (fun c x _ H => WE W σ c x H) [] (RepV K) B φ S H r Q := by
 cases r with
 | ok d S' => exact f
 | err e S' => exact f
 | stuck => exact f
def bA (md : FD) (as : FA) : FE := fun ρ S => (as ρ S).bind md
theorem aY (F : tA X.prog X.w X.K X.mg X.base j x ps (spF X.K md)) (hr : Room k X.A) (tk : Takes X W) (ha : PA X (e :: es) (GF X.K W mas)) (hjk : j <= k := by decide) (hg : Gl X x := by rfl) (hdb : (x == ("__debug__" : Str)) = false := by decide)
  (he : starEach (e :: es) X.env = (false, eval e X.env) :: starEach es X.env := by rfl) (hpl : (backTo pos (starEach es X.env)).any (·.1) = false := by rfl) : PE X (.Call (.Name x p) (e :: es) [] pos) (cZ X.K W (bA md mas)) := by
 obtain ⟨fd, F, hm, hk, hb⟩ := F;refine dG (pe_callS (E := WE W) F (hr.mono hjk) hg hm hk hb (fun σ => passAt tk σ) ha hdb he hpl) fun σ H Q h => ?_
 exact cU (k := fun ds _ S => md ds S) h fun B φ S ρ d v H1 I E r f => ⟨B, φ, S, d, I, r, f.toE⟩
def itB (n : Nat) : PH.D ⊕ Nat -> Bool
 | .inl _ => true
 | .inr m => decide (m < n)
def Vl.below (n : Nat) : Vl -> Bool
 | .dat _ => true
 | .cel m => decide (m < n)
 | .cels ms => ms.all fun m => decide (m < n)
 | .scr _ => true
 | .tc xs => xs.all (itB n)
def Cell.below (n : Nat) : Cell -> Bool
 | .dead => true
 | .lst _ => true
 | .ins _ fs => fs.all fun f => f.2.below n
 | .dct fs => fs.all fun f => f.2.below n
 | .lv xs => xs.all fun x => x.below n
 | .dki _ xs => xs.all fun x => x.below n
 | .dkt _ xs => xs.all fun x => x.below n
def trunc (n : Nat) (r : Res Vl) : Res Vl := match r with
 | .ok d S => if d.below n && ((S.take n).all fun c => c.below n) then .ok d (S.take n) else .stuck
 | .err e S => if (S.take n).all fun c => c.below n then .err e (S.take n) else .stuck
 | .stuck => .stuck
def cF : Out -> Res Vl
 | .ret d S => .ok d S
 | .next _ S => .ok (.dat .non) S
 | .err e _ S => .err e S
 | _ => .stuck
def envOf (n : Nat) (ds : List Vl) : Ev := ds.map some ++ bZ (n - ds.length) none
def run (n np : Nat) (mb : FS) : FD := fun ds S => if ds.length = np then cF (mb (envOf n ds) S) else .stuck
def Ca (n np : Nat) (mb : FS) : FD := fun ds S => if ds.length = np then trunc S.length (cF (mb (envOf n ds) S)) else .stuck
theorem yX {α : Type} {n m : Nat} {l : List α} (h : m < n) : (l.take n)[m]? = l[m]? := by
 rw [eA, if_pos h]
theorem lH {n : Nat} {a : Addr} (h : nA (φ.take n) (S.take n) a) : nA φ S a := by
 obtain ⟨m, c, h1, h2, h3⟩ := h;rw [eA] at h1 h3
 by_cases hm : m < n
 ·rw [if_pos hm] at h1 h3; exact ⟨m, c, h1, h2, h3⟩
 ·rw [if_neg hm] at h1; cases h1
theorem RepIs.takeN {n : Nat} {K : aD} {Bk Bk' : Addr -> Prop} {φ : List Addr} {H : Hp} (k : Kp Bk H Bk' H) : ∀ {xs : List (PH.D ⊕ Nat)} {vs : List L2.V}, RepIs K Bk φ H xs vs -> xs.all (itB n) = true -> RepIs K Bk' (φ.take n) H xs vs
 | [], vs, r, _ => r
 | x :: xs, vs, ⟨v, ws, e, h1, h2⟩, h => by
  rw [uP, iT] at h;refine ⟨v, ws, e, ?_, RepIs.takeN k h2 h.2⟩
  cases x with
  | inl d => exact Rep.kp k d v h1
  | inr m =>
   obtain ⟨b, q1, q2⟩ := h1;exact ⟨b, q1, by rw [yX (of_decide_eq_true h.1)]; exact q2⟩
theorem RepV.take {n : Nat} {d : Vl} {v : L2.V} (r : RepV K B φ S H d v) (h : d.below n = true) : RepV K B (φ.take n) (S.take n) H d v := by
 have k : Kp (lI B φ S) H (lI B (φ.take n) (S.take n)) H := ⟨fun b o h nb => ⟨h, fun q => nb (by
  rcases q with q | q
  ·exact .inl q
  ·exact .inr (lH q))⟩, fun _ _ h => h⟩
 cases d with
 | dat d => exact Rep.kp k d v r
 | cel m =>
  obtain ⟨a, e, h1⟩ := r;exact ⟨a, e, by rw [yX (of_decide_eq_true h)]; exact h1⟩
 | cels ms =>
  obtain ⟨a, as, e1, e2, e3, e4⟩ := r;refine ⟨a, as, e1, (k.old _ _ e3 e2).2, e3, ?_⟩
  rw [<- e4]
  apply iE
  intro m hm;exact yX (of_decide_eq_true (bT.mp h m hm))
 | scr ns => exact r
 | tc xs => obtain ⟨a, vs, e1, e2, e3⟩ := r; exact ⟨a, vs, e1, SqT.kp k.tup e2, RepIs.takeN k e3 h⟩
theorem RepF.take {n : Nat} : ∀ {fs : List (Str × Vl)} {vs : List (Str × L2.V)}, RepF K B φ S H fs vs -> (fs.all fun f => f.2.below n) = true -> RepF K B (φ.take n) (S.take n) H fs vs
 | [], vs, r, _ => r
 | f :: fs, vs, ⟨v, ws, e, h1, h2⟩, h => by
  simp only [uP, iT] at h;exact ⟨v, ws, e, h1.take h.1, RepF.take h2 h.2⟩
theorem RepVs.take {n : Nat} : ∀ {fs : List Vl} {vs : List L2.V}, RepVs K B φ S H fs vs -> (fs.all fun f => f.below n) = true -> RepVs K B (φ.take n) (S.take n) H fs vs
 | [], vs, r, _ => r
 | f :: fs, vs, ⟨v, ws, e, h1, h2⟩, h => by
  simp only [uP, iT] at h;exact ⟨v, ws, e, h1.take h.1, RepVs.take h2 h.2⟩
theorem GInv.take {n : Nat} (I : GInv K B φ S H) (h : ((S.take n).all fun c => c.below n) = true) : GInv K B (φ.take n) (S.take n) H where
 len := by rw [iU, iU, I.len]
 ok := fun m c a h1 h2 => by
  have hc := bT.mp h c (bN h1);rw [eA] at h1 h2
  by_cases hm : m < n
  ·rw [if_pos hm] at h1 h2
   have q := I.ok m c a h1 h2;have k : Kp (lI B φ S) H (lI B (φ.take n) (S.take n)) H := ⟨fun b o h nb => ⟨h, fun q => nb (by
    rcases q with q | q
    ·exact .inl q
    ·exact .inr (lH q))⟩, fun _ _ h => h⟩
   cases c with
   | dead => trivial
   | lst ds => obtain ⟨vs, e, r⟩ := q; exact ⟨vs, e, RepL.kp k ds vs r⟩
   | ins C fs => obtain ⟨dx, vs, e, r⟩ := q; exact ⟨dx, vs, e, r.take hc⟩
   | dct fs => obtain ⟨vs, e, r⟩ := q; exact ⟨vs, e, r.take hc⟩
   | lv xs => obtain ⟨vs, e, r⟩ := q; exact ⟨vs, e, r.take hc⟩
   | dki ks xs => obtain ⟨vs, e, r⟩ := q; exact ⟨vs, e, r.take hc⟩
   | dkt ks xs => obtain ⟨vs, e, r⟩ := q; exact ⟨vs, e, r.take hc⟩
  ·rw [if_neg hm] at h1; cases h1
 inj := fun i j d d' b h1 h2 h3 h4 h5 h6 => by
  rw [eA] at h1 h3 h5 h6
  by_cases hi : i < n
  ·by_cases hj : j < n
   ·rw [if_pos hi] at h1 h5
    rw [if_pos hj] at h3 h6;exact I.inj i j d d' b h1 h2 h3 h4 h5 h6
   ·rw [if_neg hj] at h3; cases h3
  ·rw [if_neg hi] at h1; cases h1
 blk := fun b h => I.blk b (lH h)
 btr := I.btr
theorem Ext.take {n : Nat} {φ0 : List Addr} {S0 : aO} {H0 : Hp} (x : Ext φ0 S0 H0 φ S H) (hn : φ0.length <= n) : Ext φ0 S0 H0 (φ.take n) (S.take n) H :=
 ⟨fun b o h nb => ⟨(x.old b o h nb).1, fun q => (x.old b o h nb).2 (lH q)⟩, fun m a h => by
  have := (aI.mp h).1;rw [yX (by omega)]
  exact x.ids m a h⟩
theorem Fin.trunc {r : Res Vl} {n : Nat} (f : Fin K W σ (RepV K) B φ S H (PH.trunc n r) Q) (I : GInv K B φ S H) (hn : n = S.length) : Fin K W σ (RepV K) B φ S H r Q := by
 have hl : φ.length <= n := by rw [hn, I.len]; exact bX _
 cases r with
 | ok d S' =>
  unfold PH.trunc at f;dsimp only at f;split at f
  ·rename_i h
   obtain ⟨h1, h2⟩ := Bool.and_eq_true_iff.mp h;exact fun φ' v H' I' X' r' => f (φ'.take n) v H' (I'.take h2) (X'.take hl) (r'.take h1)
  ·exact f.elim
 | err e S' =>
  unfold PH.trunc at f;dsimp only at f;split at f
  ·rename_i h
   refine fun φ' c x H' I' X' r' => f (φ'.take n) c x H' (I'.take h) (X'.take hl) ⟨r'.1, ?_⟩
   rcases r'.2 with h0 | ⟨d, vs, e1, e2, e3⟩
   ·exact .inl h0
   ·refine .inr ⟨d, vs, e1, e2, RepL.kp ⟨fun b o h nb => ⟨h, fun q => nb (by
     rcases q with q | q
     ·exact .inl q
     ·exact .inr (lH q))⟩, fun _ _ h => h⟩ _ _ e3⟩
  ·exact f.elim
 | stuck => exact f
theorem DG {ds : List Vl} {vs : List L2.V} {N : List Str} (r : RepVs K B φ S H ds vs) : RepE K B φ S H (envOf N.length ds) (start N vs) := by
 have hl := r.len;have hg : ∀ {ds : List Vl} {vs : List L2.V}, RepVs K B φ S H ds vs -> ∀ (i : Nat) (d : Vl), ds[i]? = some d -> ∃ v, vs[i]? = some v /\ RepV K B φ S H d v := fun {ds} => by
  induction ds with
  | nil => intro vs r i d h; simp at h
  | cons d ds ih =>
   rintro vs ⟨v, ws, e, h1, h2⟩ i d' h
   subst e;cases i with
   | zero => simp at h; subst h; exact ⟨v, rfl, h1⟩
   | succ i =>
    obtain ⟨v', h3, h4⟩ := ih h2 i d' (by simpa using h)
    exact ⟨v', by simpa using h3, h4⟩
 unfold envOf L2.start;refine ⟨by simp [hl], fun i d h => ?_⟩
 by_cases hi : i < ds.length
 ·rw [aN (by simpa using hi)] at h
  rw [aN (by simp [hl, hi])]
  rw [cM] at h ⊢;cases q : ds[i]? with
  | none => rw [q] at h; cases h
  | some d' =>
   rw [q] at h;have : d' = d := by simpa using h
   subst this;obtain ⟨v, h1, h2⟩ := hg r i d' q;exact ⟨v, by rw [h1]; rfl, h2⟩
 ·rw [bD (by simpa using vD hi)] at h
  rw [List.getElem?_replicate] at h
  split at h <;> cases h
theorem Hi {mb : FS} {E : XK} {ds : List Vl} {vs : List L2.V} {N : List Str} (I : GInv K B φ S H) (r : RepVs K B φ S H ds vs) (f : Fin K (fun c x _ H => E c x H) [] (RepV K) B φ S H (cF (mb (envOf N.length ds) S)) Q) : kP K (fun c x _ H => E c x H) mb { nx := fun _ H' => Q .non H', rt := Q } (start N vs) H := by
 refine ⟨B, φ, S, envOf N.length ds, I, DG r, ?_⟩
 unfold cF at f;cases q : mb (envOf N.length ds) S with
 | next ρ' S' => rw [q] at f; exact fun φ' σ' H' I' X' _ => f φ' _ H' I' X' rfl
 | ret d S' => rw [q] at f; exact f
 | brk ρ' S' => rw [q] at f; exact f.elim
 | cnt ρ' S' => rw [q] at f; exact f.elim
 | err e ρ' S' => rw [q] at f; exact fun φ' σ' c x H' I' X' _ r' => f φ' c x H' I' X' r'
 | stuck => rw [q] at f; exact f
end
section
variable {P : Program} {w : World} {K : aD} {mg : Str -> Option Value} {base : Heap}
structure Runs (md : FD) (n np : Nat) (mb : FS) : Prop where
 ok : ∀ ds S, ds.length = np -> md ds S = cF (mb (envOf n ds) S) \/ md ds S = trunc S.length (cF (mb (envOf n ds) S))
 no : ∀ ds S, ds.length ≠ np -> md ds S = .stuck
theorem Runs.plain {n np : Nat} {mb : FS} : Runs (run n np mb) n np mb := ⟨fun ds S h => .inl (by unfold run; rw [if_pos h]), fun ds S h => by unfold run; rw [if_neg h]⟩
theorem Runs.cut {n np : Nat} {mb : FS} : Runs (Ca n np mb) n np mb := ⟨fun ds S h => .inr (by unfold Ca; rw [if_pos h]), fun ds S h => by unfold Ca; rw [if_neg h]⟩
theorem Bj {md : FD} {n np : Nat} {mb : FS} (R : Runs md n np mb) : ∀ vs H Q E, spF K md vs H Q E -> vs.length = np := fun vs H Q E ⟨B, φ, S, ds, I, r, f⟩ => by
 rw [r.len]
 by_cases h : ds.length = np
 ·exact h
 ·rw [R.no ds S h] at f; exact f.elim
theorem yZ {md : FD} {np : Nat} {mb : FS} {N : List Str} (R : Runs md N.length np mb) {vs : List L2.V} {H : Hp} {Q : VK} {E : XK} (h : spF K md vs H Q E) : kP K (fun c x _ H => E c x H) mb { nx := fun _ H' => Q .non H', rt := Q } (start N vs) H := by
 obtain ⟨B, φ, S, ds, I, r, f⟩ := h
 by_cases hl : ds.length = np
 ·rcases R.ok ds S hl with e | e
  ·rw [e] at f; exact Hi I r f
  ·rw [e] at f; exact Hi I r (Fin.trunc f I rfl)
 ·rw [R.no ds S hl] at f; exact f.elim
theorem okF {x : Str} {st : Stmt} {N ps : List Str} {k : Nat} {md : FD} {mb : FS} (F : qU K x st) (g : mg x = some (.ref (He.ga K x))) (S : FnScope N ps (defScope st)) (R : Runs md N.length ps.length mb)
  (bnd : ∀ (kV doc pm : Value) (an : Option Addr) (cdv ct : Value) (us : List Value), us.length = ps.length -> bindArgs (dJ x x (defArgs st) (defBody st) (defScope st) .none kV doc pm an cdv ct) ⟨us, []⟩ = pure (ps.zip us))
  (hbody : ∀ (cdv : Value) (A : Around) (outer : List Env) (s : Shared) (H : Hp) (E : XK), Room k (A.deeper (envOfC x (defScope st) s.heap.objs.size (He.ga K x) cdv)) ->
   PSs (cxOf (L2.CX P w) P w K mg base N x (defScope st) (He.ga K x) cdv A outer s H E) (defBody st) (kP K (fun c x _ H => E c x H) mb)) : tA P w K mg base (k + 1) x ps (spF K md) :=
 NS F g S (Bj R) bnd fun cdv A outer s H vs Q E hr h => ⟨_, hbody cdv A outer s H E hr, yZ R h⟩
theorem okFM {C m q : Str} {st : Stmt} {N ps : List Str} {k : Nat} {md : FD} {mb : FS} (F : IM K C m q st) (g : Meth K (He.ga K C) m (He.ma K (He.ga K C) m)) (S : FnScope N ps (defScope st)) (R : Runs md N.length ps.length mb)
  (bnd : ∀ (kV doc pm : Value) (an : Option Addr) (cdv ct : Value) (us : List Value), us.length = ps.length -> bindArgs (dJ m q (defArgs st) (defBody st) (defScope st) .none kV doc pm an cdv ct) ⟨us, []⟩ = pure (ps.zip us))
  (hbody : ∀ (cdv : Value) (A : Around) (outer : List Env) (s : Shared) (H : Hp) (E : XK), Room k (A.deeper (envOfC q (defScope st) s.heap.objs.size (He.ma K (He.ga K C) m) cdv)) ->
   PSs (cxOf (L2.CX P w) P w K mg base N q (defScope st) (He.ma K (He.ga K C) m) cdv A outer s H E) (defBody st) (kP K (fun c x _ H => E c x H) mb)) : OkMX P w K mg base (k + 1) C m ps (spF K md) :=
 QR F g S (Bj R) bnd fun cdv A outer s H vs Q E hr h => ⟨_, hbody cdv A outer s H E hr, yZ R h⟩
end
section
variable {X : Cx} {W : WX} {e a b c o i : Expr} {es rest : List Expr} {pos p q p2 tpos apos cpos pos' : Pos} {x y z f C mn : Str} {K : aD} {ma mb mc mo mx : FE} {mt mt1 mu : FT} {mas : FA} {B : Addr -> Prop} {φ φ' : List Addr} {S S' : aO} {H H' : Hp} {σ : L2.St} {Q : VK} {m n : FS} {D : Ends} {ps : List Str} {md : FD} {j k : Nat}
def pH (S : aO) (C mn : Str) : Vl -> Bool
 | .cel n => match S[n]? with
  | some (.ins C' fs) => decide (C' = C) && fs.all fun f => decide (f.1 ≠ mn)
  | _ => false
 | .dat (.ins C' ns _) => decide (C' = C) && ns.all fun f => decide (f ≠ mn)
 | _ => false
theorem RepF.miss : ∀ {fs : List (Str × Vl)} {vs : List (Str × L2.V)}, RepF K B φ S H fs vs -> (fs.all fun f => decide (f.1 ≠ mn)) = true -> vs.lookup mn = none
 | [], vs, r, _ => by cases r; rfl
 | d :: ds, vs, ⟨v, ws, e, h1, h2⟩, h => by
  subst e;simp only [uP, iT, decide_eq_true_eq] at h;rw [eY, show (mn == d.1) = false by simpa using Ne.symm h.1]
  exact RepF.miss h2 h.2
theorem GH : ∀ {ns : List Str} {vs : List L2.V}, (ns.all fun f => decide (f ≠ mn)) = true -> (ns.zip vs).lookup mn = none
 | [], vs, _ => by simp
 | d :: ds, [], _ => by simp
 | d :: ds, v :: vs, h => by
  simp only [uP, iT, decide_eq_true_eq] at h;rw [sG, eY, show (mn == d) = false by simpa using Ne.symm h.1]
  exact GH h.2
theorem J2 {d : Vl} {v : L2.V} (I : GInv K B φ S H) (r : RepV K B φ S H d v) (h : pH S C mn d = true) : ∃ a dx fs, v = .ref a /\ H a = some (.ins (He.ga K C) dx fs) /\ fs.lookup mn = none := by
 cases d with
 | cel n =>
  obtain ⟨a, rfl, h1⟩ := r;have h : (match S[n]? with | some (.ins C' fs) => decide (C' = C) && fs.all fun f => decide (f.1 ≠ mn) | _ => false) = true := h
  split at h
  ·rename_i C' fs q
   obtain ⟨h2, h3⟩ := He.ba h;have e : C' = C := of_decide_eq_true h2;subst e;obtain ⟨dx, vs, h4, h5⟩ := I.ok n _ a q h1;exact ⟨a, dx, vs, rfl, h4, h5.miss h3⟩
  ·cases h
 | dat d =>
  cases d with
  | ins C' ns xs =>
   obtain ⟨h2, h3⟩ := He.ba (show (decide (C' = C) && ns.all fun f => decide (f ≠ mn)) = true from h)
   have e : C' = C := of_decide_eq_true h2;subst e;obtain ⟨a, dx, vs, rfl, _, h4, _⟩ := r;exact ⟨a, dx, _, rfl, h4, GH h3⟩
  | _ => cases h
 | cels ns => cases h
 | scr ns => cases h
 | tc _ => cases h
def pG (C mn : Str) (md : FD) (o : FE) (as : FA) : FE := fun ρ S => (o ρ S).bind fun x S1 => if pH S1 C mn x = true then (as ρ S1).bind fun ds S2 => md (x :: ds) S2 else .stuck
theorem B6 {pl : Sem Bool} (F : OkMX X.prog X.w X.K X.mg X.base j C mn ps (spF X.K md)) (hr : Room k X.A) (tk : Takes X W) (c : Cls X.K (He.ga X.K C)) (ho : PE X o (cZ X.K W mo)) (ha : PA X (e :: es) (GF X.K W mas)) (hjk : j <= k := by decide)
  (hst : starEach (e :: es) X.env = (false, eval e X.env) :: starEach es X.env := by rfl) (hpl : (backTo pos (starEach es X.env)).any (·.1) = false := by rfl)
  (ht : eval (.Call (.Attribute o mn apos) (e :: es) [] pos) X.env = eval o X.env >>= fun ov => standAt apos.atName >>= fun _ => holding [ov] (getMethod ov mn pl) >>= fun q => callWith pos q.1 q.2 (backTo pos (starEach (e :: es) X.env)) (backToKw pos (keywordEach [] X.env)) := by rfl) :
  PE X (.Call (.Attribute o mn apos) (e :: es) [] pos) (cZ X.K W (pG C mn md mo mas)) := by
 obtain ⟨⟨fd, F, hb⟩, mt⟩ := F;refine ⟨fun pins s σ H Q I h => ?_⟩
 have h' : cZ X.K W mo σ H fun v H1 => ∃ a dx fs, v = .ref a /\ H1 a = some (.ins (He.ga X.K C) dx fs) /\ fs.lookup mn = none /\ GF X.K W mas σ H1 fun vs H2 => spF X.K md (.ref a :: vs) H2 Q (WE W σ) :=
  cU (k := fun x ρ S1 => if pH S1 C mn x = true then (mas ρ S1).bind fun ds S2 => md (x :: ds) S2 else .stuck) h fun B φ S ρ d v H1 I E r f => by
   split at f
   ·rename_i hi
    obtain ⟨a, dx, fs, rfl, h1, h2⟩ := J2 I r hi;exact ⟨a, dx, fs, rfl, h1, h2, kU I E f fun φ' S' ds vs H2 I2 X2 E2 r2 f2 => ⟨B, φ', S', d :: ds, I2, ⟨_, _, rfl, r.ext X2 I, r2⟩, f2.toE⟩⟩
   ·exact f.elim
 refine IH (pl := pl) (thn (ho.run pins s σ H _ I h') fun u s1 hh => ?_) ht
 obtain ⟨x, H1, I1, rx, a, dx, fs, rfl, ea, l, q⟩ := hh;obtain rfl : u = Value.ref a := rx;refine getmeth_ok I1 ea c mt l (yT (first := [.ref a]) (h₀ := X.base) I.ok.mod.kin mt.kp (thn (ha.run pos pins s1 σ H1 _ I1 q) fun us s2 hh => ?_) hst hpl)
 obtain ⟨vs, H2, I2, r, q2⟩ := hh;exact ⟨I2.kIn, run_fnS (us := .ref a :: us) (vs := .ref a :: vs) (E := WE W) F (hr.mono hjk) hb (passAt tk σ) I2 (.cons rfl r) q2⟩
theorem A8 {pl : Sem Bool} (F : OkMX X.prog X.w X.K X.mg X.base j C mn ps (spF X.K md)) (hr : Room k X.A) (tk : Takes X W) (c : Cls X.K (He.ga X.K C)) (ho : PE X o (cZ X.K W mo)) (hjk : j <= k := by decide)
  (ht : eval (.Call (.Attribute o mn apos) [] [] pos) X.env = eval o X.env >>= fun ov => standAt apos.atName >>= fun _ => holding [ov] (getMethod ov mn pl) >>= fun q => callWith pos q.1 q.2 (backTo pos (starEach [] X.env)) (backToKw pos (keywordEach [] X.env)) := by rfl) :
  PE X (.Call (.Attribute o mn apos) [] [] pos) (cZ X.K W (pG C mn md mo aJ)) := by
 obtain ⟨⟨fd, F, hb⟩, mt⟩ := F;refine ⟨fun pins s σ H Q I h => ?_⟩
 have h' : cZ X.K W mo σ H fun v H1 => ∃ a dx fs, v = .ref a /\ H1 a = some (.ins (He.ga X.K C) dx fs) /\ fs.lookup mn = none /\ spF X.K md [.ref a] H1 Q (WE W σ) :=
  cU (k := fun x ρ S1 => if pH S1 C mn x = true then md [x] S1 else .stuck) h fun B φ S ρ d v H1 I E r f => by
   split at f
   ·rename_i hi
    obtain ⟨a, dx, fs, rfl, h1, h2⟩ := J2 I r hi;exact ⟨a, dx, fs, rfl, h1, h2, B, φ, S, [d], I, ⟨_, _, rfl, r, rfl⟩, f.toE⟩
   ·exact f.elim
 refine IH (pl := pl) (thn (ho.run pins s σ H _ I h') fun u s1 hh => ?_) ht
 obtain ⟨x, H1, I1, rx, a, dx, fs, rfl, ea, l, q⟩ := hh;obtain rfl : u = Value.ref a := rx;exact getmeth_ok I1 ea c mt l (JY (first := [.ref a]) I1.kIn mt.kp (run_fnS (us := [.ref a]) (vs := [.ref a]) (E := WE W) F (hr.mono hjk) hb (passAt tk σ) I1 (.cons rfl .nil) q))
def BO (S : aO) (C f : Str) : Vl -> Option Vl
 | .cel n => match S[n]? with
  | some (.ins C' fs) => if C' = C then fs.lookup f else none
  | _ => none
 | .dat (.ins C' ns xs) => if C' = C then ((ns.zip xs).lookup f).map Vl.dat else none
 | _ => none
theorem RepF.look {d : Vl} : ∀ {fs : List (Str × Vl)} {vs : List (Str × L2.V)}, RepF K B φ S H fs vs -> fs.lookup f = some d -> ∃ v, vs.lookup f = some v /\ RepV K B φ S H d v
 | [], vs, r, h => by cases h
 | g :: fs, vs, ⟨v, ws, e, h1, h2⟩, h => by
  subst e;obtain ⟨g1, g2⟩ := g;rw [eY] at h ⊢;cases q : f == g1 with
  | true => rw [q] at h; cases h; exact ⟨v, rfl, h1⟩
  | false => rw [q] at h; exact RepF.look h2 h
theorem C7 {Bk : Addr -> Prop} {d : PH.D} : ∀ {ns : List Str} {ds : List PH.D} {vs : List L2.V}, RepL K Bk H ds vs -> (ns.zip ds).lookup f = some d -> ∃ v, (ns.zip vs).lookup f = some v /\ Rep K Bk H d v
 | [], ds, vs, r, h => by simp at h
 | n :: ns, [], vs, r, h => by simp at h
 | n :: ns, d' :: ds, vs, ⟨v, ws, e, h1, h2⟩, h => by
  subst e;rw [sG, eY] at h ⊢;cases q : f == n with
  | true => rw [q] at h; cases h; exact ⟨v, rfl, h1⟩
  | false => rw [q] at h; exact C7 h2 h
def gG (C f : Str) (o : FE) : FE := fun ρ S => (o ρ S).bind fun x S1 => match BO S1 C f x with
 | some d => .ok d S1
 | none => .stuck
theorem Hh {x d : Vl} {v : L2.V} (I : GInv K B φ S H) (r : RepV K B φ S H x v) (h : BO S C f x = some d) : ∃ a dx fs u, v = .ref a /\ H a = some (.ins (He.ga K C) dx fs) /\ fs.lookup f = some u /\ RepV K B φ S H d u := by
 cases x with
 | cel n =>
  obtain ⟨a, rfl, h1⟩ := r
  replace h : (match S[n]? with | some (.ins C' fs) => if C' = C then fs.lookup f else none | _ => none) = some d := h
  split at h
  ·rename_i C' fs q
   split at h
   ·rename_i e
    subst e;obtain ⟨dx, vs, h4, h5⟩ := I.ok n _ a q h1;obtain ⟨u, h6, h7⟩ := h5.look h;exact ⟨a, dx, vs, u, rfl, h4, h6, h7⟩
   ·cases h
  ·cases h
 | dat d' =>
  cases d' with
  | ins C' ns xs =>
   replace h : (if C' = C then ((ns.zip xs).lookup f).map Vl.dat else none) = some d := h
   split at h
   ·rename_i e
    subst e;obtain ⟨a, dx, vs, rfl, _, h4, l⟩ := r;cases q : (ns.zip xs).lookup f with
    | none => rw [q] at h; cases h
    | some d0 =>
     rw [q] at h;cases h;obtain ⟨u, h6, h7⟩ := C7 l q;exact ⟨a, dx, _, u, rfl, h4, h6, h7⟩
   ·cases h
  | _ => cases h
 | cels ns => cases h
 | scr ns => cases h
 | tc _ => cases h
theorem eQ (c : Cls X.K (He.ga X.K C)) (n : NoAttr X.K (He.ga X.K C) f) (ho : PE X o (cZ X.K W mo)) (hb : attributeBase o f X.env (eval o X.env) = eval o X.env := by rfl) : PE X (.Attribute o f pos) (cZ X.K W (gG C f mo)) := dG (e_fld c n ho hb) fun σ H Q h =>
 cU (k := fun x _ S1 => match BO S1 C f x with | some d => .ok d S1 | none => .stuck) h fun B φ S ρ d v H1 I E r f' => by
  split at f'
  ·rename_i d' q
   obtain ⟨a, dx, fs, u, rfl, h1, h2, h3⟩ := Hh I r q;exact ⟨dx, fs, u, h1, h2, Fin.now f' I h3⟩
  ·exact f'.elim
def oH (f : Str) (v : Vl) : List (Str × Vl) -> List (Str × Vl)
 | [] => [(f, v)]
 | (g, x) :: r => if g = f then (g, v) :: r else (g, x) :: oH f v r
theorem RepF.put {d : Vl} {v : L2.V} (r : RepV K B φ S H d v) : ∀ {fs : List (Str × Vl)} {vs : List (Str × L2.V)}, RepF K B φ S H fs vs -> RepF K B φ S H (oH f d fs) (putF f v vs)
 | [], vs, h => by cases h; exact ⟨v, [], rfl, r, rfl⟩
 | (g, x) :: fs, vs, ⟨u, ws, e, h1, h2⟩ => by
  subst e;unfold oH putF;split
  ·exact ⟨v, ws, rfl, r, h2⟩
  ·exact ⟨u, _, rfl, h1, RepF.put r h2⟩
theorem RepF.len : ∀ {fs : List (Str × Vl)} {vs : List (Str × L2.V)}, RepF K B φ S H fs vs -> vs.length = fs.length
 | [], vs, h => by cases h; rfl
 | d :: ds, vs, ⟨v, ws, e, _, h2⟩ => by subst e; simp [RepF.len h2]
def IU (S : aO) (C f : Str) (x d : Vl) : Option aO := match x with
 | .cel n => (match S[n]? with
  | some (.ins C' fs) => if C' = C /\ fs.length < 1000 then some (S.set n (.ins C (oH f d fs))) else none
  | _ => none)
 | _ => none
def vV (C f : Str) (o v : FE) : FS := fun ρ S => (v ρ S).toS ρ fun d S1 => (o ρ S1).toS ρ fun x S2 => match IU S2 C f x d with
 | some S3 => .next ρ S3
 | none => .stuck
theorem pQ {value : Expr} {mv : FE} (c : Cls X.K (He.ga X.K C)) (na : NoAttr X.K (He.ga X.K C) f) (ho : PE X o (cZ X.K W mo)) (hv : PE X value (cZ X.K W mv)) (hs : swapsWith value (some (.Attribute o f pos')) pos.line X.env = pure false := by rfl) : PS X (.Assign [.Attribute o f pos'] value pos) (kP X.K W (vV C f mo mv)) := fT (To c na ho hv hs) fun D σ H h => by
 obtain ⟨B, φ, S, ρ, I, E, f'⟩ := h;refine cN I E f' fun φ1 S1 d1 v1 H1 I1 X1 E1 r1 f1 => cN I1 E1 f1 fun φ2 S2 d2 v2 H2 I2 X2 E2 r2 f2 => ?_
 split at f2
 ·rename_i S3 q
  unfold IU at q;split at q
  ·rename_i n
   obtain ⟨a, rfl, h1⟩ := r2;split at q
   ·rename_i C' fs q1
    split at q
    ·rename_i hc
     obtain ⟨e, hl⟩ := hc;subst e;cases q;obtain ⟨dx, vs, h4, h5⟩ := I2.ok n _ a q1 h1;have X3 := Ext.put (H := H2) (o := .ins (He.ga X.K C') dx (putF f v1 vs)) (x := .ins C' (oH f d1 fs)) q1 (by simp) h1 (by simp)
     have r1' := r1.ext X2 I1;refine ⟨dx, vs, h4, by rw [h5.len]; exact hl, f2 φ2 σ _ (I2.put q1 (by simp) h1 (by simp) ⟨dx, _, upd_same, (h5.put r1').ext X3 I2⟩) X3 (E2.ext X3 I2)⟩
    ·cases q
   ·cases q
  ·cases q
 ·exact f2.elim
end
section
variable {X : Cx} {W : WX} {e a b c o i : Expr} {es rest : List Expr} {pos p q p2 tpos apos cpos pos' : Pos} {x y z f mn : Str} {K : aD} {ma mb mc mo mx : FE} {mas : FA} {B : Addr -> Prop} {φ φ' : List Addr} {S S' : aO} {H H' : Hp} {σ : L2.St} {Q : VK} {m n : FS} {D : Ends} {ps : List Str} {md : FD} {j k : Nat}
theorem LP {C fA : Addr} {fd : FuncData} {sp : Sp} {CX : CXT} {E : L2.St -> XK} {pins : List (Addr × Obj)} {s : Shared} {us : List Value} {vs : List L2.V} (M : Mk X.K C fA) (F : FnOk X.prog X.w X.K X.mg X.base CX k fA fd ps sp) (hr : Room (k + 1) X.A) (hb : Binds X.K fd ps [])
  (hx : PassesAt CX X σ (E σ)) (I : Inv X pins σ H s) (r : Vals vs us)
  (h : ∀ x dx, H x = none -> H dx = none -> dx ≠ x -> sp (.ref x :: vs) (upd (upd H dx (.own x)) x (.ins C dx [])) (fun v H2 => v = .non /\ Q (.ref x) H2) (E σ)) :
  wpAny (model X.prog X.w) X.A (call (.ref C) us) (EP X pins σ Q) X.xe s := by
 have hq := h (s.heap.objs.size + 1) s.heap.objs.size (I.hok.fresh (Nat.le_succ _)) (I.hok.fresh (bX _)) (C4 (Df _));have I2 := Inv.made (C := C) I;have r2 : Vals (V.ref (s.heap.objs.size + 1) :: vs) (Value.ref (s.heap.objs.size + 1) :: us) := .cons rfl r;have hl : (Value.ref (s.heap.objs.size + 1) :: us ++ []).length = ps.length := by
  have e := r2.length;rw [F.len _ _ _ _ hq] at e;rw [cX];exact e.symm
 have b := hb _ (Value.ref (s.heap.objs.size + 1) :: us) I2.kIn hl;rw [cX] at b;refine wpAny_call (make_map (f := fA) I.kIn M.makes M.init (beq_iff_eq.mp M.fn) (codeAny_mono (F.run _ X.stack _ _ ⟨Value.ref (s.heap.objs.size + 1) :: us, []⟩ (Value.ref (s.heap.objs.size + 1) :: us) _ _ (E σ) (hr.make C us [])
  (I2.env0.make C us []) b r2 hq) fun r s' hq' => ?_))
 cases r with
 | error e => exact hx pins _ _ e s' I2 hq'
 | ok fl =>
  cases fl with
  | ret u =>
   obtain ⟨v, H', I3, rv, ev, q3⟩ := I2.after hq';subst ev;exact ⟨rv, ⟨V.ref (s.heap.objs.size + 1), H', I3, rfl, q3⟩⟩
  | next => exact False.elim hq'
  | brk => exact False.elim hq'
  | cont => exact False.elim hq'
def FJ : List (Str × Vl) -> Option (List PH.D)
 | [] => some []
 | (_, .dat d) :: r => match FJ r with
  | some ds => some (d :: ds)
  | none => none
 | _ :: _ => none
theorem I9 : ∀ {fs : List (Str × Vl)} {vs : List (Str × L2.V)} {ds : List PH.D}, FJ fs = some ds -> RepF K B φ S H fs vs -> ∃ ws, vs = (fs.map (·.1)).zip ws /\ RepL K (lI B φ S) H ds ws
 | [], vs, ds, h, r => by cases h; cases r; exact ⟨[], rfl, rfl⟩
 | (g, .dat d) :: fs, vs, ds, h, ⟨v, ws, e, h1, h2⟩ => by
  unfold FJ at h;cases q : FJ fs with
  | none => rw [q] at h; cases h
  | some es =>
   rw [q] at h;cases h;obtain ⟨us, e2, l⟩ := I9 q h2;subst e e2;exact ⟨v :: us, rfl, v, us, rfl, h1, l⟩
 | (_, .cel _) :: fs, vs, ds, h, _ => by cases h
 | (_, .cels _) :: fs, vs, ds, h, _ => by cases h
 | (_, .scr _) :: fs, vs, ds, h, _ => by cases h
 | (_, .tc _) :: fs, vs, ds, h, _ => by cases h
def made (kp : Bool) (n : Nat) (r : Res Vl) : Res Vl := match r with
 | .ok (.dat .non) S => if kp then .ok (.cel n) S else (match S[n]? with
  | some (.ins C fs) => (match FJ fs with
   | some ds => if ((S.take n).all fun c => c.below n) then .ok (.dat (.ins C (fs.map (·.1)) ds)) (S.take n) else .stuck
   | none => .stuck)
  | _ => .stuck)
 | .err e S => if ((S.take n).all fun c => c.below n) then .err e (S.take n) else .stuck
 | _ => .stuck
def Jx (kp : Bool) (C : Str) (md : FD) (as : FA) : FE := fun ρ S => (as ρ S).bind fun ds S1 => made kp S1.length (md (.cel S1.length :: ds) (S1 ++ [.ins C []]))
theorem IC {n : Nat} {c : Cell} {a : Addr} (I : GInv K B φ S H) (hn : S[n]? = some c) (hc : c ≠ .dead) (ha : φ[n]? = some a) : ¬ lI B (φ.take n) (S.take n) a := fun q => by
 rcases q with q | ⟨m, c', h1, h2, h3⟩
 ·exact I.blk a ⟨n, c, hn, hc, ha⟩ q
 ·rw [eA] at h1 h3
  by_cases hm : m < n
  ·rw [if_pos hm] at h1 h3
   have := I.inj n m c c' a hn hc h1 h2 ha h3;omega
  ·rw [if_neg hm] at h1; cases h1
theorem Ol {kp : Bool} {C : Str} {ds : List Vl} {vs : List L2.V} (I : GInv K B φ S H) (r : RepVs K B φ S H ds vs) (f : Fin K W σ (RepV K) B φ S H (made kp S.length (md (.cel S.length :: ds) (S ++ [.ins C []]))) Q) :
  ∀ x dx, H x = none -> H dx = none -> dx ≠ x -> spF K md (.ref x :: vs) (upd (upd H dx (.own x)) x (.ins (He.ga K C) dx [])) (fun v H2 => v = .non /\ Q (.ref x) H2) (WE W σ) := fun x dx nx ndx ne => by
 have I1 := I.new (o := .own x) ndx;have X1 := Ext.new (o := .own x) I ndx;have nx1 : upd H dx (.own x) x = none := by rw [upd_ne (Ne.symm ne)]; exact nx
 have X2 := Ext.newC (o := .ins (He.ga K C) dx []) (x := .ins C []) I1 nx1;have I2 : GInv K B (φ ++ [x]) (S ++ [.ins C []]) (upd (upd H dx (.own x)) x (.ins (He.ga K C) dx [])) := I1.newC nx1 fun _ => ⟨dx, [], upd_same, rfl⟩
 have X12 := X1.trans X2;refine ⟨B, φ ++ [x], S ++ [.ins C []], .cel S.length :: ds, I2, ⟨_, _, rfl, ⟨x, rfl, by rw [<- I.len]; exact oN⟩, RepVs.ext X2 I1 (RepVs.ext X1 I r)⟩, ?_⟩
 have hφ : φ.length <= S.length := by rw [I.len]; exact bX _
 cases q : md (.cel S.length :: ds) (S ++ [.ins C []]) with
 | stuck => rw [q] at f; exact f
 | err e S' =>
  rw [q] at f;unfold made at f;dsimp only at f;split at f
  ·rename_i h
   intro φ' c y H' I' X' r';refine f (φ'.take S.length) c y H' (I'.take h) ((X12.trans X').take hφ) ⟨r'.1, ?_⟩
   rcases r'.2 with h0 | ⟨d, us, e1, e2, e3⟩
   ·exact .inl h0
   ·refine .inr ⟨d, us, e1, e2, RepL.kp ⟨fun b o h nb => ⟨h, fun q => nb (by
     rcases q with q | q
     ·exact .inl q
     ·exact .inr (lH q))⟩, fun _ _ h => h⟩ _ _ e3⟩
  ·exact f.elim
 | ok d S' =>
  rw [q] at f;intro φ' v H' I' X' r';unfold made at f;split at f
  ·rename_i S0 e
   cases e;cases r';refine ⟨rfl, ?_⟩
   have hx' : φ'[S.length]? = some x := X'.ids _ _ (by rw [<- I.len]; exact oN)
   split at f
   ·exact f φ' _ H' I' (X12.trans X') ⟨x, rfl, hx'⟩
   ·split at f
    ·rename_i C' fs q1
     split at f
     ·rename_i ds' q2
      split at f
      ·rename_i h
       obtain ⟨dx', vs', h4, h5⟩ := I'.ok _ _ _ q1 hx';obtain ⟨ws, e2, l⟩ := I9 q2 h5;subst e2;refine f (φ'.take S.length) _ H' (I'.take h) ((X12.trans X').take hφ) ⟨x, dx', ws, rfl, IC I' q1 (by simp) hx', h4, RepL.kp ⟨fun b o h nb => ⟨h, fun q => nb (by
        rcases q with q | q
        ·exact .inl q
        ·exact .inr (lH q))⟩, fun _ _ h => h⟩ _ _ l⟩
      ·exact f.elim
     ·exact f.elim
    ·exact f.elim
  ·rename_i e; cases e
  ·exact f.elim
theorem Oq {kp : Bool} {C : Str} (T : ClF X.K X.mg C) (F : OkMX X.prog X.w X.K X.mg X.base j C "__init__" ps (spF X.K md)) (hr : Room k X.A) (tk : Takes X W) (ha : PA X (e :: es) (GF X.K W mas)) (hjk : j + 1 <= k := by decide) (hg : Gl X C := by rfl) (hdb : (C == ("__debug__" : Str)) = false := by decide)
  (he : starEach (e :: es) X.env = (false, eval e X.env) :: starEach es X.env := by rfl) (hpl : (backTo pos (starEach es X.env)).any (·.1) = false := by rfl) : PE X (.Call (.Name C p) (e :: es) [] pos) (cZ X.K W (Jx kp C md mas)) := by
 obtain ⟨⟨fd, F, hb⟩, mt⟩ := F;refine ⟨fun pins s σ H Q I h => ?_⟩
 refine wpAny_Call_Name_kw (ld_glob I hg T.glo ?_ hdb)
 have h' : GF X.K W mas σ H fun vs H1 => ∀ x dx, H1 x = none -> H1 dx = none -> dx ≠ x -> spF X.K md (.ref x :: vs) (upd (upd H1 dx (.own x)) x (.ins (He.ga X.K C) dx [])) (fun v H2 => v = .non /\ Q (.ref x) H2) (WE W σ) :=
  cU (k := fun ds _ S1 => made kp S1.length (md (.cel S1.length :: ds) (S1 ++ [.ins C []]))) h fun B φ S ρ d v H1 I E r f => Ol I r f
 refine yT (h₀ := X.base) I.ok.mod.kin T.mak.kp (thn (ha.run pos pins s σ H _ I h') fun us s1 ⟨vs, H1, I1, r, q⟩ => ⟨I1.kIn, ?_⟩) he hpl
 exact LP (E := WE W) T.mak F (hr.mono hjk) hb (passAt tk σ) I1 r q
def xZ (cls : Str) : FS := fun ρ S => .err ⟨cls, [], []⟩ ρ S
theorem DA (F : XcF X.K X.mg x) (tk : Takes X W) (hc : X.calm = true := by rfl) (hg : Gl X x := by rfl) (hdb : (x == ("__debug__" : Str)) = false := by decide) : PS X (.Raise (some (.Call (.Name x p) [] [] pos)) none pos') (kP X.K W (xZ x)) := fT (QN F tk hc hg hdb) fun D σ H h => by
 obtain ⟨B, φ, S, ρ, I, E, f⟩ := h;exact f φ σ _ _ H I Ext.refl E ⟨rfl, .inl ⟨rfl, rfl⟩⟩
end
def Ti (C : Addr) (f : Str) : Sp := fun vs H Q _ => ∃ a y, vs = [.ref a, y] /\ H a = some (exo a C none) /\ ∀ dx, H dx = none -> dx ≠ a -> Q .non (upd (upd H dx (exd dx [(f, y)])) a (exo a C (some dx)))
def Th (C : Addr) (f g : Str) : Sp := fun vs H Q _ => ∃ a y z, vs = [.ref a, y, z] /\ H a = some (exo a C none) /\ ∀ dx, H dx = none -> dx ≠ a -> Q .non (upd (upd (upd H dx (exd dx [(f, y)])) a (exo a C (some dx))) dx (exd dx [(g, z), (f, y)]))
structure XcA (P : Program) (w : World) (K : aD) (mg : Str -> Option Value) (base : Heap) (k : Nat) (x : Str) (ps : List Str) (sp : Sp) : Prop where
 cls : OexC K (He.ga K x)
 ini : jS K (.ref (He.ga K x)) "__init__" = some (some (.ref (He.ma K (He.ga K x) "__init__")))
 ty : nC K (.ref (He.ma K (He.ga K x) "__init__")) = some (.type "function")
 fn : ∃ fd, FnOk P w K mg base CX0 k (He.ma K (He.ga K x) "__init__") fd ps sp /\ Binds K fd ps []
 glo : mg x = some (.ref (He.ga K x))
section
variable {X : Cx} {W : WX} {e : Expr} {es : List Expr} {pos p pos' : Pos} {x f g : Str} {K : aD} {mas : FA} {B : Addr -> Prop} {φ φ' : List Addr} {S S' : aO} {H H' : Hp} {σ : L2.St} {ps : List Str} {j k : Nat}
def mG (cls : Str) (ns : List Str) (as : FA) : FS := fun ρ S => (as ρ S).toS ρ fun xs S1 => match yN xs with
 | some ds => if ds.length = ns.length then .err ⟨cls, ns, ds.reverse⟩ ρ S1 else .stuck
 | none => .stuck
theorem sS (F : XcA X.prog X.w X.K X.mg X.base j x ps (Ti (He.ga X.K x) f)) (hr : Room k X.A) (tk : Takes X W) (ha : PA X (e :: es) (GF X.K W mas)) (hjk : j + 1 <= k := by decide) (hc : X.calm = true := by rfl) (hg : Gl X x := by rfl) (hdb : (x == ("__debug__" : Str)) = false := by decide)
  (he : starEach (e :: es) X.env = (false, eval e X.env) :: starEach es X.env := by rfl) (hpl : (backTo pos (starEach es X.env)).any (·.1) = false := by rfl) : PS X (.Raise (some (.Call (.Name x p) (e :: es) [] pos)) none pos') (kP X.K W (mG x [f] mas)) := by
 obtain ⟨fd, F1, hb⟩ := F.fn;refine fT (ps_raise hc tk (pmk_oex F.cls F.ini F.ty F1 (hr.mono hjk) hb .nil (fun _ _ _ _ _ _ _ h => h.elim) hg F.glo ha hdb he hpl)) fun D σ H h => ?_
 obtain ⟨B, φ, S, ρ, I, E, f'⟩ := h;refine cN I E f' fun φ1 S1 ds vs H1 I1 X1 E1 r f1 => ?_
 split at f1
 ·rename_i xs q
  have l := AY q r;split at f1
  ·rename_i hl
   match xs, hl with
   | [d], _ =>
    obtain ⟨v, ws, rfl, h1, h2⟩ := l;cases h2;refine ⟨by simp, fun a na => ⟨a, v, rfl, upd_same, fun dx ndx ne => ⟨rfl, dx, [(f, v)], upd_same, ?_, ?_, ?_⟩⟩⟩
    ·rw [upd_ne ne, upd_same]
    ·rw [upd_ne ne] at ndx; exact ndx
    ·have n1 : H1 dx = none := by rw [upd_ne ne] at ndx; exact ndx
     have eH : (upd (del (upd (upd (upd H1 a (exo a (He.ga X.K x) none)) dx (exd dx [(f, v)])) a (exo a (He.ga X.K x) (some dx))) a) dx (.xd [(f, v)])) = upd H1 dx (.xd [(f, v)]) := by
      funext b
      unfold upd del
      by_cases hb : b = dx
      ·rw [if_pos hb, if_pos hb]
      ·rw [if_neg hb, if_neg hb]
       by_cases hba : b = a
       ·rw [if_pos hba, hba]; exact na.symm
       ·rw [if_neg hba]; simp only [if_neg hba, if_neg hb]
     rw [eH];have X2 := Ext.new (o := .xd [(f, v)]) I1 n1;exact f1 φ1 σ _ _ _ (I1.new n1) X2 (E1.ext X2 I1) ⟨rfl, .inr ⟨dx, [v], rfl, upd_same, v, [], rfl, Rep.kp (X2.kp I1) _ _ h1, rfl⟩⟩
  ·exact f1.elim
 ·exact f1.elim
theorem B4 (F : XcA X.prog X.w X.K X.mg X.base j x ps (Th (He.ga X.K x) f g)) (hr : Room k X.A) (tk : Takes X W) (ha : PA X (e :: es) (GF X.K W mas)) (hjk : j + 1 <= k := by decide) (hc : X.calm = true := by rfl) (hg : Gl X x := by rfl) (hdb : (x == ("__debug__" : Str)) = false := by decide)
  (he : starEach (e :: es) X.env = (false, eval e X.env) :: starEach es X.env := by rfl) (hpl : (backTo pos (starEach es X.env)).any (·.1) = false := by rfl) : PS X (.Raise (some (.Call (.Name x p) (e :: es) [] pos)) none pos') (kP X.K W (mG x [g, f] mas)) := by
 obtain ⟨fd, F1, hb⟩ := F.fn;refine fT (ps_raise hc tk (pmk_oex F.cls F.ini F.ty F1 (hr.mono hjk) hb .nil (fun _ _ _ _ _ _ _ h => h.elim) hg F.glo ha hdb he hpl)) fun D σ H h => ?_
 obtain ⟨B, φ, S, ρ, I, E, f'⟩ := h;refine cN I E f' fun φ1 S1 ds vs H1 I1 X1 E1 r f1 => ?_
 split at f1
 ·rename_i xs q
  have l := AY q r;split at f1
  ·rename_i hl
   match xs, hl with
   | [d, d2], _ =>
    obtain ⟨v, ws, rfl, h1, u, ws', rfl, h2, h3⟩ := l;cases h3;refine ⟨by simp, fun a na => ⟨a, v, u, rfl, upd_same, fun dx ndx ne => ⟨rfl, dx, [(g, u), (f, v)], ?_, upd_same, ?_, ?_⟩⟩⟩
    ·rw [upd_ne (Ne.symm ne), upd_same]
    ·rw [upd_ne ne] at ndx; exact ndx
    ·have n1 : H1 dx = none := by rw [upd_ne ne] at ndx; exact ndx
     have eH : (upd (del (upd (upd (upd (upd H1 a (exo a (He.ga X.K x) none)) dx (exd dx [(f, v)])) a (exo a (He.ga X.K x) (some dx))) dx (exd dx [(g, u), (f, v)])) a) dx (.xd [(g, u), (f, v)])) = upd H1 dx (.xd [(g, u), (f, v)]) := by
      funext b
      unfold upd del
      by_cases hb : b = dx
      ·rw [if_pos hb, if_pos hb]
      ·rw [if_neg hb, if_neg hb]
       by_cases hba : b = a
       ·rw [if_pos hba, hba]; exact na.symm
       ·rw [if_neg hba]; simp only [if_neg hba, if_neg hb]
     rw [eH];have X2 := Ext.new (o := .xd [(g, u), (f, v)]) I1 n1;exact f1 φ1 σ _ _ _ (I1.new n1) X2 (E1.ext X2 I1) ⟨rfl, .inr ⟨dx, [u, v], rfl, upd_same, u, [v], rfl, Rep.kp (X2.kp I1) _ _ h2, v, [], rfl, Rep.kp (X2.kp I1) _ _ h1, rfl⟩⟩
  ·exact f1.elim
 ·exact f1.elim
end
def XMs (K : aD) (cs : List Str) : Prop := ∀ c ∈ cs, ∀ d ∈ cs, De K (.ref (He.ga K c)) (.ref (He.ga K d)) = some (decide (c = d))
theorem TV {K : aD} {cs : List Str} (h : xmB K cs = true) : XMs K cs := fun c hc d hd => of_decide_eq_true (bT.mp (bT.mp h c hc) d hd)
section
variable {X : Cx} {W : WX} {e a b c o i : Expr} {es rest : List Expr} {pos p q p2 tpos apos cpos pos' np : Pos} {x y z f mn : Str} {K : aD} {ma mb mc mo mx : FE} {mas : FA} {B : Addr -> Prop} {φ φ' : List Addr} {S S' : aO} {H H' : Hp} {σ : L2.St} {Q : VK} {m n : FS} {D : Ends} {cs : List Str}
def handle (cs : List Str) : List (Str × FS) -> Er -> Ev -> aO -> Out
 | [], e, ρ, S => .err e ρ S
 | (c, m) :: r, e, ρ, S => if e.cls = c then (match m ρ S with
   | .err _ _ _ => .stuck
   | o => o) else handle cs r e ρ S
theorem FinS.wNo {o : Out} (f : FinS K W D B φ S H (match o with | .err _ _ _ => .stuck | o => o)) : FinS K PH.wNo D B φ S H o := by
 cases o with
 | err e ρ S' => exact f.elim
 | next ρ S' => exact f
 | ret d S' => exact f
 | brk ρ S' => exact f
 | cnt ρ S' => exact f
 | stuck => exact f
inductive XIt where
 | c (v : L2.V) (d : PH.D) | f (n : Str)
def itR (a : Addr) (cls : Value) (d : Option Addr) (C : Addr) (i : Nat) : List XIt -> TA
 | [] => tNil
 | .c v _ :: r => tCons (tC v) (itR a cls d C i r)
 | .f n :: r => tCons (tXf a cls d C n (uI i)) (itR a cls d C i r)
def itF (e : Er) : List XIt -> Option (List PH.D)
 | [] => some []
 | .c _ d :: r => match itF e r with
  | some ds => some (d :: ds)
  | none => none
 | .f n :: r => match (e.ns.zip e.xs).lookup n, itF e r with
  | some d, some ds => some (d :: ds)
  | _, _ => none
def Sl (cs : List Str) (m : FS) (c : Str) (k : Nat) (its : List XIt) : FS := fun ρ S => match m ρ S with
 | .err e ρ' S' => if (e.cls ∈ cs /\ c ∈ cs) /\ k < ρ'.length then (if e.cls = c then (match itF e its with
   | some ds => if ds.length <= sizeLine then .ret (.dat (.tup ds)) S' else .stuck
   | none => .stuck) else .err e ρ' S') else .stuck
 | o => o
theorem Jj : ∀ {σ : L2.St} {i : Nat} {v : L2.V}, σ[i]? = some (some v) -> sl σ i = some v
 | [], _, _, h => by simp at h
 | x :: _, 0, v, h => by simp at h; exact h
 | _ :: r, n + 1, v, h => Jj (σ := r) (i := n) (by simpa using h)
end
structure Lim (K : aD) : Prop where
 pos : ∀ z m lo hi, limits.lookup z = some (m, lo, hi) -> kI K (He.ga K "LIMITS") z = some (some (.ref (HE K z))) /\ ∀ H, SqT K H (HE K z) [.int (m : Nat), .int lo, .int hi]
 neg : ∀ z, limits.lookup z = none -> kI K (He.ga K "LIMITS") z = some none
section
variable {X : Cx} {W : WX} {e a b c o i : Expr} {es rest : List Expr} {pos p q p2 tpos apos cpos pos' np : Pos} {x y z f mn C : Str} {K : aD} {ma mb mc mo mx : FE} {mas : FA} {B : Addr -> Prop} {φ φ' : List Addr} {S S' : aO} {H H' : Hp} {σ : L2.St} {Q : VK} {m n : FS} {D : Ends} {ps : List Str} {md : FD} {j k : Nat}
def gN (neg : Bool) (x : Vl) (S : aO) : Res Vl := match x with
 | .dat (.str z) => .ok (.dat (.bl (if neg then (limits.lookup z).isNone else (limits.lookup z).isSome))) S
 | _ => .stuck
def B7 (x : Vl) (S : aO) : Res Vl := match x with
 | .dat (.str z) => (match limits.lookup z with
  | some (m, lo, hi) => .ok (.dat (.tup [.int (m : Nat), .int lo, .int hi])) S
  | none => .stuck)
 | _ => .stuck
theorem N6 (L : Lim K) {x : L2.V} {d : Vl} (I : GInv K B φ S H) (r : RepV K B φ S H d x) (f : Fin K W σ (RepV K) B φ S H (gN true d S) Q) : TN K (He.ga K "LIMITS") true x (.ref (He.ga K "LIMITS")) H Q := by
 unfold gN at f;split at f
 ·rename_i z
  cases r;cases q : limits.lookup z with
  | none =>
   refine ⟨rfl, none, L.neg z q, ?_⟩
   rw [q] at f;exact Fin.now f I rfl
  | some t =>
   obtain ⟨m, lo, hi⟩ := t;refine ⟨rfl, _, (L.pos z m lo hi q).1, ?_⟩
   rw [q] at f;exact Fin.now f I rfl
 ·exact f.elim
theorem M5 {py : Pos} (L : Lim X.K) (D : ∃ es n, KDict X.K X.w (He.ga X.K "LIMITS") es n) (g : X.mg "LIMITS" = some (.ref (He.ga X.K "LIMITS"))) (ha : PE X a (cZ X.K W ma)) (hg : Gl X "LIMITS" := by rfl) (hm : behindInMarks .NotIn (.Name "LIMITS" py) = false := by rfl) : PT X (.Compare a [.NotIn] [.Name "LIMITS" py] pos) (yS X.K W (mB (m1 (gN true) ma))) :=
 DX (SU (Fb D) ha (pe_glob (v := .ref (He.ga X.K "LIMITS")) hg g rfl) hm) fun σ H Q h => cU (k := fun x _ S => gN true x S) (N1 h) fun B φ S ρ d v H1 I E r f => N6 L I r f
theorem f_lim {py : Pos} (L : Lim X.K) (D : ∃ es n, KDict X.K X.w (He.ga X.K "LIMITS") es n) (g : X.mg "LIMITS" = some (.ref (He.ga X.K "LIMITS"))) (ha : PE X a (cZ X.K W ma)) (hg : Gl X "LIMITS" := by rfl) (hs : PlainIx a := by intro _ _; rfl) : PE X (.Subscript (.Name "LIMITS" py) a pos) (cZ X.K W (m1 B7 ma)) :=
 dG (pe_ix (UT D) (pe_glob (v := .ref (He.ga X.K "LIMITS")) hg g rfl) ha hs) fun σ H Q h => cU (k := fun x _ S => B7 x S) h fun B φ S ρ d v H1 I E r f => by
  unfold B7 at f;split at f
  ·rename_i z
   cases r;split at f
   ·rename_i m lo hi q
    obtain ⟨h1, h2⟩ := L.pos z m lo hi q;exact ⟨rfl, _, .ref (HE X.K z), h1, rfl, Fin.now f I ⟨_, _, rfl, h2 H1, _, _, rfl, rfl, _, _, rfl, rfl, _, _, rfl, rfl, rfl⟩⟩
   ·exact f.elim
  ·exact f.elim
theorem MG {sp : Sp} (F : OkMX X.prog X.w X.K X.mg X.base j C "__len__" ps sp) (hr : Room (j + 1) X.A) : CallR X (.builtin "len") (c1 (rLenO (He.ga X.K C) sp E0)) := by
 intro pins s σ H xs us Q I r h;obtain ⟨⟨fd, F, hb⟩, mt⟩ := F
 match xs, h with
 | [x], h =>
  cases x with
  | ref a =>
   obtain ⟨dx, fs, ha, h⟩ := h;cases r with
   | cons r1 r2 =>
    cases r1;cases r2;obtain ⟨mA, J, _⟩ := ins_get I.hok ha;obtain ⟨od, J, _⟩ := J.look;obtain ⟨fm, hF⟩ := I.fr;refine PySem.W.len_K hF I.ok.mod.kin J mt.at_ mt.fn ?_
    have e := I.env0;have hl := F.len _ _ _ _ h;have b := hb s [.ref a] I.kIn (by simpa using hl)
    have run := F.run X.A.in1 X.stack s H ⟨[.ref a], []⟩ [.ref a] [.ref a] _ E0 hr.in1 ⟨e.frames, e.mod, e.bs, e.bsz, e.funs, e.frf, e.hok, e.bare⟩ (by simpa using b) (.cons rfl .nil) h
    refine wpAny_call (codeAny_mono run fun q s' hq => ?_)
    cases q with
    | error e => obtain ⟨_, _, _, _, _, _, _, _, _, _, _, _, z⟩ := hq; exact z.elim
    | ok fl =>
     cases fl with
     | ret w =>
      obtain ⟨z, H', I', rz, hz⟩ := I.after hq;cases z with
      | int n =>
       obtain ⟨tk, rfl⟩ := rz;exact ⟨⟨hz.1.1, by have := hz.1.2; omega⟩, .int n, H', I'.tok _, ⟨_, rfl⟩, hz.2⟩
      | _ => exact hz.elim
     | next => exact False.elim hq
     | brk => exact False.elim hq
     | cont => exact False.elim hq
  | _ => exact h.elim
def UJ (r : Res Vl) : Res Vl := match r with
 | .ok (.dat (.int n)) S => if 0 <= n /\ n < 2 ^ 62 then .ok (.dat (.int n)) S else .stuck
 | _ => .stuck
def En (C : Str) (md : FD) (x : Vl) (S : aO) : Res Vl := if pH S C "__len__" x = true then UJ (md [x] S) else .stuck
theorem VJ (hm : X.mg "len" = none) (F : OkMX X.prog X.w X.K X.mg X.base j C "__len__" ps (spF X.K md)) (hr : Room k X.A) (ha : PE X a (cZ X.K W ma)) (hjk : j + 1 <= k := by decide) (hg : Gl X "len" := by rfl) (hs : starEach [a] X.env = [(false, eval a X.env)] := by rfl) : PE X (.Call (.Name "len" p) [a] [] pos) (cZ X.K W (m1 (En C md) ma)) :=
 dG (pe_callB (MG F (hr.mono hjk)) hg hm boot_len (pa_cons ha pa_nil hs) (he := hs)) fun σ H Q h => cU (k := fun x _ S => En C md x S) h fun B φ S ρ d v H1 I E r f => by
  unfold En at f;split at f
  ·rename_i hi
   obtain ⟨a, dx, fs, rfl, h1, h2⟩ := J2 I r hi;refine ⟨dx, fs, h1, B, φ, S, [d], I, ⟨_, _, rfl, r, rfl⟩, ?_⟩
   unfold UJ at f;split at f
   ·rename_i n S' q
    rw [q];split at f
    ·rename_i hn
     intro φ' v H' I' X' r';cases r';exact ⟨hn, f φ' _ H' I' X' rfl⟩
    ·exact f.elim
   ·exact f.elim
  ·exact f.elim
def PD (r : Res Vl) : Res Vl := match r with
 | .ok (.dat (.bl n)) S => .ok (.dat (.bl n)) S
 | _ => .stuck
theorem Fy {n : Int} {x : Str} (h : ∃ t, X.mg x = some (.int n t)) (hg : Gl X x := by rfl) (hd : (x == ("__debug__" : Str)) = false := by decide) : PE X (.Name x pos) (cZ X.K W (mC (.int n))) := On (VO h hg hd) fun _ _ => rfl
end
section
variable {P : Program} {w : World} {K : aD} {mg : Str -> Option Value} {base : Heap}
def vG : FD := fun _ _ => .stuck
theorem tP {x : Str} {st : Stmt} {N ps : List Str} {k : Nat} (F : qU K x st) (g : mg x = some (.ref (He.ga K x))) (S : FnScope N ps (defScope st))
  (bnd : ∀ (kV doc pm : Value) (an : Option Addr) (cdv ct : Value) (us : List Value), us.length = ps.length -> bindArgs (dJ x x (defArgs st) (defBody st) (defScope st) .none kV doc pm an cdv ct) ⟨us, []⟩ = pure (ps.zip us)) : tA P w K mg base (k + 1) x ps (spF K vG) :=
 NS F g S (fun vs H Q E ⟨_, _, _, _, _, _, f⟩ => f.elim) bnd fun cdv A outer s H vs Q E hr ⟨_, _, _, _, _, _, f⟩ => f.elim
end
theorem Ko {K : aD} {a : Addr} {vs : List V} (h : IP K a vs = true) (H : Hp) : SqT K H a vs := by
 unfold IP at h;cases q : K.lookup a with
 | none => rw [q] at h; cases h
 | some o =>
  obtain ⟨oc, od, dt, osl⟩ := o;rw [q] at h;cases oc with
  | type c =>
   cases dt with
   | seq its n =>
    obtain ⟨h1, h2⟩ := He.ba (show (decide (c = "tuple") && (decide (its.size <= sizeLine) && He.relAll vs its.toList)) = true from h)
    obtain ⟨h3, h4⟩ := He.ba h2;exact .inr ⟨_, its, n, q, congrArg Value.type (of_decide_eq_true h1), rfl, of_decide_eq_true h3, He.relAll_ok h4⟩
   | _ => cases h
  | _ => cases dt <;> cases h
theorem MM {fa : List He.Fa} {fn : List He.DefD} {ts : List He.Tab} {w : World} {K : aD} (c : He.SaysT fa fn ts w K) (i : Nat) {t : He.Tab} (h : ts[i]? = some t := by rfl) : He.dicW K (t.1 K) = some (He.keysIn w.params t.2) := by
 have e : ts.map (fun t => He.dicW K (t.1 K)) = ts.map fun t => some (He.keysIn w.params t.2) := congrArg (fun z : He.AlT => z.2) c
 have e2 : (ts.map fun t => He.dicW K (t.1 K))[i]? = (ts.map fun t => some (He.keysIn w.params t.2))[i]? := by rw [e]
 rw [cM, cM, h] at e2;exact Option.some.inj e2
theorem Ec {P : Params} {z : Str} : ∀ {l : List DictEntry} {ks : List Str}, l.map He.keyOf = He.keysIn P ks -> z ∉ ks -> (l.find? (·.key.isStr z) = none) /\ l.any (·.refKey) = false
 | [], _, _, _ => ⟨rfl, rfl⟩
 | e :: r, [], h, _ => by cases h
 | e :: r, k :: ks, h, hz => by
  have h1 : He.keyOf e :: r.map He.keyOf = some (k, PyData.keyHash P k) :: He.keysIn P ks := h
  injection h1 with h2 h3
  obtain ⟨i1, i2⟩ := Ec h3 (fun m => hz (aK _ m))
  unfold He.keyOf at h2;split at h2
  ·rename_i x t q
   obtain ⟨h5, h6⟩ := Prod.mk.inj (Option.some.inj h2);have nz : e.key.isStr z = false := by
    rw [q]
    show decide (x = z) = false
    exact decide_eq_false fun e => hz (by rw [<- e, h5]; exact aV ..)
   constructor
   ·rw [List.find?_cons, nz]; exact i1
   ·rw [Ac, i2, II]
    show e.refKey = false
    unfold DictEntry.refKey;rw [q]
  ·cases h2
theorem Lf {K : aD} {P : Params} {a : Addr} {ks : List Str} {z : Str} (h : He.dicW K a = some (He.keysIn P ks)) (hz : z ∉ ks) : kI K a z = some none := by
 unfold He.dicW at h;cases q : K.lookup a with
 | none => rw [q] at h; cases h
 | some o =>
  obtain ⟨oc, od, dt, osl⟩ := o;rw [q] at h;cases oc with
  | type c =>
   cases od with
   | none =>
    cases dt with
    | dict es n =>
     have h1 : (match decide (c = "dict") && (osl.isEmpty && !(a == sysModules)) with
      | true => some (es.toList.map He.keyOf)
      | false => none) = some (He.keysIn P ks) := h
     cases y : decide (c = "dict") && (osl.isEmpty && !(a == sysModules)) with
     | false => rw [y] at h1; cases h1
     | true =>
      rw [y] at h1;obtain ⟨i1, i2⟩ := Ec (Option.some.inj h1) hz;unfold kI;rw [q]
      show (match es.toList.find? (·.key.isStr z) with | some e => some (some e.val) | none => if es.toList.any (·.refKey) then none else some none) = some none
      rw [i1, i2];rfl
    | _ => cases h
   | some b => cases dt <;> cases h
  | _ => cases od <;> cases dt <;> cases h
theorem BM {κ β : Type} [BEq κ] [LawfulBEq κ] {z : κ} {v : β} : ∀ {l : List (κ × β)}, l.lookup z = some v -> (z, v) ∈ l
 | [], h => by cases h
 | (k, u) :: r, h => by
  rw [eY] at h;cases e : z == k with
  | true =>
   rw [e] at h;have e2 : z = k := eq_of_beq e;have e3 : u = v := Option.some.inj h;rw [e2, e3];exact aV ..
  | false =>
   rw [e] at h;exact aK _ (BM h)
theorem lookup_none {κ β : Type} [BEq κ] [LawfulBEq κ] {z : κ} : ∀ {l : List (κ × β)}, l.lookup z = none -> z ∉ l.map (·.1)
 | [], _ => by simp
 | (k, u) :: r, h => by
  rw [eY] at h;cases e : z == k with
  | true => rw [e] at h; cases h
  | false =>
   rw [e] at h;have ne : z ≠ k := by simpa using e
   intro m;rcases bJ.mp m with m | m
   ·exact ne m
   ·exact lookup_none h m
theorem UH {K : aD} {P : Params} (h : limB K = true) (d : He.dicW K (He.ga K "LIMITS") = some (He.keysIn P (limits.map (·.1)))) : Lim K where
 pos := fun z m lo hi e => by
  obtain ⟨h1, h2⟩ := He.ba (bT.mp h (z, m, lo, hi) (BM e));exact ⟨He.eqO_ok h1, Ko h2⟩
 neg := fun z e => Lf d (lookup_none e)
theorem law_start {K : aD} {md : FD} {n : Nat} (h : ∀ ns : List Int, ns.length <= n -> ∃ S, md [.scr ns] [] = .ok (.dat (.bl true)) S) (H : Hp) (a : Addr) (ns : List Int) (hl : ns.length <= n) (hO : Only H) (hS : SqL K H a (ns.map V.int)) : spF K md [.ref a] H (fun v _ => v = .bl true) fun _ _ _ => False := by
 obtain ⟨S, e⟩ := h ns hl;refine ⟨fun _ => False, [], [], [.scr ns], ⟨rfl, fun n c a h => by simp at h, fun n m c c' a h => by simp at h, fun a ⟨n, c, h, _⟩ => by simp at h, fun a h => h.elim⟩, ⟨_, _, rfl, ⟨a, rfl, ?_⟩, rfl⟩, ?_⟩
 ·rcases hS with (h | ⟨o, h⟩) | h
  ·rcases hO a with q | ⟨o, xs, q⟩
   ·rw [h] at q; cases q
   ·rw [h] at q; cases q
  ·exact .inl ⟨o, h⟩
  ·exact .inr (.inr h)
 ·rw [e]
  exact fun φ' v H' _ _ r => r
theorem QS {K : aD} {C : Addr} (q : Tz K C = true) : ∃ nm q N bs bm sn sub ab col dd k0 k1 k2 k3 k5, K.lookup C = some (excClassObj nm q C N bs bm true sn sub ab col dd k0 k1 k2 k3 k5 "ValueError.__new__") /\ PySem.HandSPX.refsVE bm = true := by
 unfold Tz at q;split at q
 ·rename_i dd cd sl ho
  split at q
  ·rename_i C' bm k0 k1 k2 k3 n k5 hm hs
   simp only [iT, beq_iff_eq, Bool.not_eq_true'] at q;obtain ⟨⟨⟨⟨rfl, rfl⟩, hdel⟩, hdi⟩, hbm⟩ := q;obtain ⟨nm, bs, mro, ns, qn, hd, sn, sub, ab, col, del⟩ := cd;dsimp only at hm hdel hdi;subst hm hdel hdi;have hsl : sl = #[k0, k1, k2, k3, some (.builtin "ValueError.__new__"), k5] := by
    obtain ⟨l⟩ := sl;simp only at hs;rw [hs]
   subst hsl;exact ⟨nm, qn, ns, bs, bm, sn, sub, ab, col, dd, k0, k1, k2, k3, k5, ho, hbm⟩
  ·cases q
 ·cases q
structure XaF (K : aD) (mg : Str -> Option Value) (x : Str) (fs : List Str) : Prop where
 cls : OexC K (He.ga K x)
 ini : jS K (.ref (He.ga K x)) "__init__" = some (some (.ref (He.ma K (He.ga K x) "__init__")))
 ty : nC K (.ref (He.ma K (He.ga K x) "__init__")) = some (.type "function")
 glo : mg x = some (.ref (He.ga K x))
 rd : XfC K (He.ga K x)
 no : ∀ f ∈ fs, jS K (.ref (He.ga K x)) f = some none
theorem MY {K : aD} {mg : Str -> Option Value} {x : Str} {fs : List Str} (h : xaB K x fs = true) (g : mg x = some (.ref (He.ga K x))) : XaF K mg x fs := by
 obtain ⟨h1, h⟩ := He.ba h;obtain ⟨h2, h⟩ := He.ba h;obtain ⟨h3, h⟩ := He.ba h;obtain ⟨h4, h⟩ := He.ba h;obtain ⟨h5, h⟩ := He.ba h;obtain ⟨h6, h⟩ := He.ba h;obtain ⟨h7, h⟩ := He.ba h;obtain ⟨h8, h9⟩ := He.ba h;exact ⟨⟨QS h1, of_decide_eq_true h2, of_decide_eq_true h3, of_decide_eq_true h4, h5⟩, of_decide_eq_true h6, of_decide_eq_true h7, g, xfB_ok h8, fun f hf => of_decide_eq_true (bT.mp h9 f hf)⟩
section
variable {P : Program} {w : World} {K : aD} {mg : Str -> Option Value} {base : Heap}
theorem Mu {C : Addr} {f a b : Str} : ∀ vs H Q E, Ti C f vs H Q E -> vs.length = [a, b].length := fun vs H Q E ⟨_, _, e, _⟩ => by rw [e]; rfl
theorem Mr {C : Addr} {f g a b c : Str} : ∀ vs H Q E, Th C f g vs H Q E -> vs.length = [a, b, c].length := fun vs H Q E ⟨_, _, _, e, _⟩ => by rw [e]; rfl
theorem NT {x m q : Str} {fs : List Str} {st : Stmt} {N ps : List Str} {k : Nat} {sp : Sp} (T : XaF K mg x fs) (F : IM K x "__init__" q st) (S : FnScope N ps (defScope st)) (len : ∀ vs H Q E, sp vs H Q E -> vs.length = ps.length)
  (bnd : ∀ (kV doc pm : Value) (an : Option Addr) (cdv ct : Value) (us : List Value), us.length = ps.length -> bindArgs (dJ "__init__" q (defArgs st) (defBody st) (defScope st) .none kV doc pm an cdv ct) ⟨us, []⟩ = pure (ps.zip us))
  (hbody : ∀ (cdv : Value) (A : Around) (outer : List Env) (s : Shared) (H : Hp) (vs : List V) (Q : VK) (E : XK), Room k (A.deeper (envOfC q (defScope st) s.heap.objs.size (He.ma K (He.ga K x) "__init__") cdv)) -> sp vs H Q E ->
   ∃ t, PSs (cxOf CX0 P w K mg base N q (defScope st) (He.ma K (He.ga K x) "__init__") cdv A outer s H E).nox (defBody st) t /\ t { nx := fun _ H' => Q .non H', rt := Q } (start N vs) H) : XcA P w K mg base (k + 1) x ps sp := by
 obtain ⟨fd, F⟩ := F;refine ⟨T.cls, T.ini, T.ty, ⟨fd, FunD.ok F S len fun cdv A outer s H vs Q E hr hsp => ?_, F.bindsN bnd⟩, T.glo⟩
 obtain ⟨t, h, q⟩ := hbody cdv A outer s H vs Q E hr hsp;exact ⟨t, h.nox, q⟩
end
section
variable {X : Cx} {W : WX} {e a b c o i : Expr} {es rest : List Expr} {pos p q p2 tpos apos cpos pos' np : Pos} {x y z f mn C : Str} {K : aD} {ma mb mc mo mx : FE} {mas : FA} {B : Addr -> Prop} {φ φ' : List Addr} {S S' : aO} {H H' : Hp} {σ : L2.St} {Q : VK} {m n : FS} {D : Ends} {ps : List Str} {md : FD} {j k : Nat}
theorem VC {i j : Nat} {px py pt : Pos} {kt k2 pt2} (hc : X.calm = true) (hN : X.N.Nodup) (hi : X.N[i]? = some x) (hj : X.N[j]? = some y) (hij : i ≠ j)
  (hx : X.env.scope.names.lookup x = some .local) (hy : X.env.scope.names.lookup y = some .local) (ha : PE X a (cZ X.K W ma)) (hb : PE X b (cZ X.K W mb))
  (hw : swappedStores [.Tuple [.Name x px, .Name y py] kt pt] (.Tuple [a, b] k2 pt2) X.env = pure (some [x, y]))
  (hs : swapsWithSole [.Tuple [.Name x px, .Name y py] kt pt] (.Tuple [a, b] k2 pt2) pos.line X.env = pure false := by rfl) (h1 : starEach [a, b] X.env = (false, eval a X.env) :: starEach [b] X.env := by rfl) (h2 : starEach [b] X.env = (false, eval b X.env) :: starEach [] X.env := by rfl) :
  PS X (.Assign [.Tuple [.Name x px, .Name y py] kt pt] (.Tuple [a, b] k2 pt2) pos) (kP X.K W (mPar i j ma mb)) := fT (ps_par hc hN hi hj hij hx hy (pa_cons ha (pa_cons hb pa_nil h2) h1) hw hs) fun D σ H h => by
 obtain ⟨B, φ, S, ρ, I, E, f⟩ := h;exact cN I E f fun φ1 S1 d1 v1 H1 I1 X1 E1 r1 f1 => cN I1 E1 f1 fun φ2 S2 d2 v2 H2 I2 X2 E2 r2 f2 => ⟨_, _, rfl, f2 φ2 _ H2 I2 Ext.refl ((E2.set (r1.ext X2 I1) i).set r2 j)⟩
def SY (n : Nat) : List PH.D := (aX n).map fun (k : Nat) => PH.D.int (((n : Nat) : Int) - 1 - (k : Int))
def U6 (a : FE) : FI := fun ρ S => (a ρ S).bind fun x S1 => match x with
 | .dat (.int j) => if -(2 ^ 62) <= j /\ j < 2 ^ 62 then .ok (SY j.toNat) S1 else .stuck
 | _ => .stuck
end
theorem rd_X1 {K : aD} {mg : Str -> Option Value} {x f : Str} {fs : List Str} {a : Addr} {y : V} {H : Hp} {Q : VK} {D : Ends} (T : XaF K mg x fs) (hf : f ∈ fs) (ha : H a = some (exo a (He.ga K x) none)) (hD : ∀ σ H, D.nx σ H = Q .non H) (h : ∀ dx, H dx = none -> dx ≠ a -> Q .non (upd (upd H dx (exd dx [(f, y)])) a (exo a (He.ga K x) (some dx)))) :
  tOst K f (uI 0) (uI 1) D [some (.ref a), some y] H := ⟨a, He.ga K x, rfl, T.cls, T.no f hf, .inl ⟨ha, fun dx n ne => by rw [hD]; exact h dx n ne⟩⟩
theorem rd_X2 {K : aD} {mg : Str -> Option Value} {x f g : Str} {fs : List Str} {a : Addr} {y z : V} {H : Hp} {Q : VK} {D : Ends} (T : XaF K mg x fs) (hf : f ∈ fs) (hg : g ∈ fs) (ha : H a = some (exo a (He.ga K x) none)) (hD : ∀ σ H, D.nx σ H = Q .non H) (h : ∀ dx, H dx = none -> dx ≠ a -> Q .non (upd (upd (upd H dx (exd dx [(f, y)])) a (exo a (He.ga K x) (some dx))) dx (exd dx [(g, z), (f, y)]))) :
  tSeq (tOst K f (uI 0) (uI 1)) (tOst K g (uI 0) (uI 2)) D [some (.ref a), some y, some z] H :=
 ⟨a, He.ga K x, rfl, T.cls, T.no f hf, .inl ⟨ha, fun dx n ne => ⟨a, He.ga K x, rfl, T.cls, T.no g hg, .inr ⟨dx, [(f, y)], upd_same, by rw [upd_ne ne, upd_same], by simp, by rw [hD]; exact h dx n ne⟩⟩⟩⟩
theorem T5 {k : Nat} {A : Around} (r : Room k A) : A.units + 65 < cLine := by have := r.un; omega
section
variable {α β : Type} {a b c o i e : FE} {r : FA} {t u : FT} {m n : FS} {ρ : Ev} {S : aO} {x y z : Vl} {f g : Vl -> Vl -> aO -> Res Vl} {h : Vl -> aO -> Res Vl} {md : FD}
theorem eL {d : α} {k : α -> aO -> Res β} : (Res.ok d S).bind k = k d S := rfl
theorem D0 {x : Er} {k : α -> aO -> Res β} : (Res.err x S : Res α).bind k = .err x S := rfl
theorem mN {d : α} {k : α -> aO -> Out} : (Res.ok d S).toS ρ k = k d S := rfl
theorem Lq {x : Er} {k : α -> aO -> Out} : (Res.err x S : Res α).toS ρ k = .err x ρ S := rfl
theorem T7 {k : Nat} : aC k ρ S = (match lk ρ k with | some d => .ok d S | none => .stuck) := rfl
theorem g_c {d : D} : mC d ρ S = .ok (.dat d) S := rfl
def kOp1 (f : Vl -> Vl -> aO -> Res Vl) (b : FE) (ρ : Ev) (x : Vl) (S : aO) : Res Vl := (b ρ S).bind (f x)
theorem g_op : aR f a b ρ S = (a ρ S).bind (kOp1 f b ρ) := rfl
theorem g_op1 : kOp1 f b ρ x S = (b ρ S).bind (f x) := rfl
theorem g_1 : m1 h a ρ S = (a ρ S).bind h := rfl
theorem g_B : mB a ρ S = (a ρ S).bind unB := rfl
theorem g_unB {k : Bool} : unB (.dat (.bl k)) S = .ok k S := rfl
theorem OE : fM a ρ S = (a ρ S).bind CB := rfl
def UR (u : FT) (ρ : Ev) (c : Bool) (S : aO) : Res Bool := if c = true then u ρ S else .ok false S
def kOr (u : FT) (ρ : Ev) (c : Bool) (S : aO) : Res Bool := if c = true then .ok true S else u ρ S
def kNot (c : Bool) (S : aO) : Res Bool := .ok (!c) S
theorem g_and : Ba t u ρ S = (t ρ S).bind (UR u ρ) := rfl
theorem g_or : Bu t u ρ S = (t ρ S).bind (kOr u ρ) := rfl
theorem T8 : nN t ρ S = (t ρ S).bind kNot := rfl
theorem OL : UR u ρ true S = u ρ S := rfl
theorem OM : UR u ρ false S = .ok false S := rfl
theorem Qy : kOr u ρ true S = .ok true S := rfl
theorem Qz : kOr u ρ false S = u ρ S := rfl
theorem Uv {c : Bool} : kNot c S = .ok (!c) S := rfl
def Nv (b : FE) (ρ : Ev) (x : Vl) (S : aO) : Res Vl := match x with
 | .dat (.bl c) => if c = true then b ρ S else .ok (.dat (.bl false)) S
 | _ => .stuck
def UN (b : FE) (ρ : Ev) (x : Vl) (S : aO) : Res Vl := match x with
 | .dat (.bl c) => if c = true then .ok (.dat (.bl true)) S else b ρ S
 | _ => .stuck
theorem VA : oK a b ρ S = (a ρ S).bind (Nv b ρ) := rfl
theorem g_orV : mOrV a b ρ S = (a ρ S).bind (UN b ρ) := rfl
theorem Lw : Nv b ρ (.dat (.bl true)) S = b ρ S := rfl
theorem Lx : Nv b ρ (.dat (.bl false)) S = .ok (.dat (.bl false)) S := rfl
theorem OJ : UN b ρ (.dat (.bl true)) S = .ok (.dat (.bl true)) S := rfl
theorem OK : UN b ρ (.dat (.bl false)) S = b ρ S := rfl
def kNV (k : Bool) (S : aO) : Res Vl := .ok (.dat (.bl (!k))) S
def Su (x : Vl) (S : aO) : Res Vl := (CB x S).bind kNV
theorem Um : NY a ρ S = (a ρ S).bind Su := rfl
theorem R8 : Su x S = (CB x S).bind kNV := rfl
theorem g_kNV {k : Bool} : kNV k S = .ok (.dat (.bl (!k))) S := rfl
def K9 (b : FE) (ρ : Ev) (x : Vl) (k : Bool) (S : aO) : Res Vl := if k = true then .ok x S else b ρ S
def kOrT (b : FE) (ρ : Ev) (x : Vl) (S : aO) : Res Vl := (CB x S).bind (K9 b ρ x)
theorem g_orT : U7 a b ρ S = (a ρ S).bind (kOrT b ρ) := rfl
theorem Ux : kOrT b ρ x S = (CB x S).bind (K9 b ρ x) := rfl
theorem ON : K9 b ρ x true S = .ok x S := rfl
theorem OO : K9 b ρ x false S = b ρ S := rfl
theorem OD {k : Bool} : CB (.dat (.bl k)) S = .ok k S := rfl
def Qj (g : Vl -> Vl -> aO -> Res Vl) (c : FE) (ρ : Ev) (y z : Vl) (S : aO) : Res Vl := match z with
 | .dat (.bl k) => if k = true then (c ρ S).bind (g y) else .ok (.dat (.bl false)) S
 | _ => .stuck
def UQ (f g : Vl -> Vl -> aO -> Res Vl) (c : FE) (ρ : Ev) (x y : Vl) (S : aO) : Res Vl := (f x y S).bind (Qj g c ρ y)
def kCh1 (f g : Vl -> Vl -> aO -> Res Vl) (b c : FE) (ρ : Ev) (x : Vl) (S : aO) : Res Vl := (b ρ S).bind (UQ f g c ρ x)
theorem RG : rZ f g a b c ρ S = (a ρ S).bind (kCh1 f g b c ρ) := rfl
theorem g_ch1 : kCh1 f g b c ρ x S = (b ρ S).bind (UQ f g c ρ x) := rfl
theorem g_ch2 : UQ f g c ρ x y S = (f x y S).bind (Qj g c ρ y) := rfl
theorem RH : Qj g c ρ y (.dat (.bl true)) S = (c ρ S).bind (g y) := rfl
theorem RJ : Qj g c ρ y (.dat (.bl false)) S = .ok (.dat (.bl false)) S := rfl
def kIf (a b : FE) (ρ : Ev) (c : Bool) (S : aO) : Res Vl := if c = true then a ρ S else b ρ S
theorem g_if : mIf t a b ρ S = (t ρ S).bind (kIf a b ρ) := rfl
theorem R1 : kIf a b ρ true S = a ρ S := rfl
theorem R3 : kIf a b ρ false S = b ρ S := rfl
theorem OG : aJ ρ S = .ok [] S := rfl
def Iv (x : Vl) (xs : List Vl) (S : aO) : Res (List Vl) := .ok (x :: xs) S
def Nq (r : FA) (ρ : Ev) (x : Vl) (S : aO) : Res (List Vl) := (r ρ S).bind (Iv x)
theorem JH : aB a r ρ S = (a ρ S).bind (Nq r ρ) := rfl
theorem Ft : Nq r ρ x S = (r ρ S).bind (Iv x) := rfl
theorem Fs {xs : List Vl} : Iv x xs S = .ok (x :: xs) S := rfl
def Dl (cl : Bool) (xs : List Vl) (S : aO) : Res Vl := match yN xs with
 | some ds => if ds.length <= sizeLine then newL cl ds S else .stuck
 | none => .stuck
def kTup (xs : List Vl) (S : aO) : Res Vl := match yN xs with
 | some ds => if ds.length <= sizeLine then .ok (.dat (.tup ds)) S else .stuck
 | none => .stuck
theorem g_lst {cl : Bool} : cS cl r ρ S = (r ρ S).bind (Dl cl) := rfl
theorem g_tup : cC r ρ S = (r ρ S).bind kTup := rfl
theorem JK : yN [] = some [] := rfl
theorem Hc {d : D} {xs : List Vl} : yN (.dat d :: xs) = (match yN xs with | some ds => some (d :: ds) | none => none) := rfl
theorem kTup0 : kTup [] S = .ok (.dat (.tup [])) S := rfl
theorem kTup1 {d : D} : kTup [.dat d] S = .ok (.dat (.tup [d])) S := rfl
theorem kTup2 {d e : D} : kTup [.dat d, .dat e] S = .ok (.dat (.tup [d, e])) S := rfl
theorem kTup3 {d e f : D} : kTup [.dat d, .dat e, .dat f] S = .ok (.dat (.tup [d, e, f])) S := rfl
theorem kTup4 {d e f g : D} : kTup [.dat d, .dat e, .dat f, .dat g] S = .ok (.dat (.tup [d, e, f, g])) S := rfl
theorem kLst0 {cl : Bool} : Dl cl [] S = newL cl [] S := rfl
theorem kLst1 {cl : Bool} {d : D} : Dl cl [.dat d] S = newL cl [d] S := rfl
theorem kLst2 {cl : Bool} {d e : D} : Dl cl [.dat d, .dat e] S = newL cl [d, e] S := rfl
theorem kLst3 {cl : Bool} {d e f : D} : Dl cl [.dat d, .dat e, .dat f] S = newL cl [d, e, f] S := rfl
theorem Uq {ds : List D} : newL false ds S = .ok (.dat (.lst ds)) S := rfl
theorem Uo {ds : List D} : newL true ds S = .ok (.cel S.length) (S ++ [.lst ds]) := rfl
theorem JJ : bA md r ρ S = (r ρ S).bind md := rfl
def UK (cl : Bool) (x : Vl) (lo : Option Int) (hi : Option Int) (S : aO) : Res Vl := TC cl x lo hi S
def UL (cl : Bool) (h : FO) (ρ : Ev) (x : Vl) (lo : Option Int) (S : aO) : Res Vl := (h ρ S).bind (UK cl x lo)
def kSl0 (cl : Bool) (l h : FO) (ρ : Ev) (x : Vl) (S : aO) : Res Vl := (l ρ S).bind (UL cl h ρ x)
theorem g_sl {cl : Bool} {l h : FO} : Aq cl a l h ρ S = (a ρ S).bind (kSl0 cl l h ρ) := rfl
theorem g_sl0 {cl : Bool} {l h : FO} : kSl0 cl l h ρ x S = (l ρ S).bind (UL cl h ρ x) := rfl
theorem g_sl1 {cl : Bool} {h : FO} {lo : Option Int} : UL cl h ρ x lo S = (h ρ S).bind (UK cl x lo) := rfl
theorem g_sl2 {cl : Bool} {lo hi : Option Int} : UK cl x lo hi S = TC cl x lo hi S := rfl
theorem g_noP : pN ρ S = .ok none S := rfl
def Ss (x : Vl) (S : aO) : Res (Option Int) := match x with
 | .dat (.int i) => .ok (some i) S
 | _ => .stuck
theorem Ul : fX a ρ S = (a ρ S).bind Ss := rfl
theorem R7 {i : Int} : Ss (.dat (.int i)) S = .ok (some i) S := rfl
def UP (x : Vl) (S : aO) : Res Vl := match x with
 | .cel n => (match S[n]? with
  | some (.lst ds) => .ok (.dat (.lst ds)) (S.set n .dead)
  | _ => .stuck)
 | _ => .stuck
theorem g_frz : yA a ρ S = (a ρ S).bind UP := rfl
theorem nO {n : Nat} {ds : List D} (h : S[n]? = some (.lst ds)) : UP (.cel n) S = .ok (.dat (.lst ds)) (S.set n .dead) := by simp only [UP, h]
def yC (b : FE) (ρ : Ev) (x : Vl) (S : aO) : Res Vl := match oW S x with
 | some _ => (b ρ S).bind (Hm x)
 | none => .stuck
theorem g_app : lV a b ρ S = (a ρ S).bind (yC b ρ) := rfl
theorem mP {n : Nat} {ds : List D} (h : S[n]? = some (.lst ds)) : yC b ρ (.cel n) S = (b ρ S).bind (Hm (.cel n)) := by simp only [yC, oW, h]
theorem nP {n : Nat} {ds : List D} {d : D} (h : S[n]? = some (.lst ds)) (hl : ds.length < sizeLine) : Hm (.cel n) (.dat d) S = .ok (.dat .non) (S.set n (.lst (ds ++ [d]))) := by simp only [Hm, h, hl, if_true]
def Out.seq (o : Out) (n : FS) : Out := match o with
 | .next ρ S => n ρ S
 | o => o
theorem KG : aS m n ρ S = (m ρ S).seq n := rfl
theorem JG : (Out.next ρ S).seq n = n ρ S := rfl
theorem Lr {d : Vl} : (Out.ret d S).seq n = .ret d S := rfl
theorem Ls {x : Er} : (Out.err x ρ S).seq n = .err x ρ S := rfl
theorem Lv : (Out.brk ρ S).seq n = .brk ρ S := rfl
theorem Lu : (Out.cnt ρ S).seq n = .cnt ρ S := rfl
theorem Ug : bE ρ S = .next ρ S := rfl
def UM (d : Vl) (S : aO) : Out := .ret d S
theorem g_ret : bS a ρ S = (a ρ S).toS ρ UM := rfl
theorem Uw {d : Vl} : UM d S = .ret d S := rfl
def Sy (ρ : Ev) (d : Vl) (S : aO) : Out := .next ρ S
theorem V7 : eF a ρ S = (a ρ S).toS ρ (Sy ρ) := rfl
theorem RC {d : Vl} : Sy ρ d S = .next ρ S := rfl
def UO (m n : FS) (ρ : Ev) (c : Bool) (S : aO) : Out := if c = true then m ρ S else n ρ S
theorem T9 : bR t m n ρ S = (t ρ S).toS ρ (UO m n ρ) := rfl
theorem OR : UO m n ρ true S = m ρ S := rfl
theorem OS : UO m n ρ false S = n ρ S := rfl
def Nu (t : Tg) (ρ : Ev) (d : Vl) (S : aO) : Out := match pE t d ρ with
 | some ρ' => .next ρ' S
 | none => .stuck
theorem TB {t : Tg} : bV a t ρ S = (a ρ S).toS ρ (Nu t ρ) := rfl
theorem V0 {k : Nat} {d : Vl} : Nu (.nm k) ρ d S = .next (ρ.set k (some d)) S := rfl
theorem RE {i j : Nat} {d e : D} : Nu (.tp [i, j]) ρ (.dat (.tup [d, e])) S = .next ((ρ.set i (some (.dat d))).set j (some (.dat e))) S := rfl
theorem RD {i j k : Nat} {d e f : D} : Nu (.tp [i, j, k]) ρ (.dat (.tup [d, e, f])) S = .next (((ρ.set i (some (.dat d))).set j (some (.dat e))).set k (some (.dat f))) S := rfl
def kFor (t : Tg) (m : FS) (ρ : Ev) (ds : List D) (S : aO) : Out := loop t m ds ρ S
theorem g_for {mi : FI} {t : Tg} : tW mi t m ρ S = (mi ρ S).toS ρ (kFor t m ρ) := rfl
theorem Uz {t : Tg} {ds : List D} : kFor t m ρ ds S = loop t m ds ρ S := rfl
def A3 (cl : Bool) (t : Tg) (u : FT) (e : FE) (ρ : Ev) (vs : List Nat) (ds : List D) (S : aO) : Res Vl := if ds.length <= sizeLine then (match jO t u e (wipeE ρ vs) ds S with
 | .ok es S2 => newL cl es S2
 | _ => .stuck) else .stuck
theorem g_lc {cl : Bool} {mi : FI} {t : Tg} {vs : List Nat} : Ar cl mi t u e vs ρ S = (mi ρ S).bind (A3 cl t u e ρ vs) := rfl
theorem Ui : lQ a ρ S = (a ρ S).bind itemsOf := rfl
theorem Oa {ds : List D} : itemsOf (.dat (.lst ds)) S = .ok ds S := rfl
theorem OZ {ds : List D} : itemsOf (.dat (.tup ds)) S = .ok ds S := rfl
def Cq (x : Vl) (S : aO) : Res (List D) := match x with
 | .dat (.int j) => if -(2 ^ 62) <= j /\ j < 2 ^ 62 then .ok (gK 0 j.toNat) S else .stuck
 | _ => .stuck
theorem Uj : jN a ρ S = (a ρ S).bind Cq := rfl
theorem gT {j : Int} (h1 : -(2 ^ 62) <= j) (h2 : j < 2 ^ 62) : Cq (.dat (.int j)) S = .ok (gK 0 j.toNat) S := by unfold Cq; exact if_pos ⟨h1, h2⟩
def kRev1 (x : Vl) (S : aO) : Res (List D) := match x with
 | .dat (.int j) => if -(2 ^ 62) <= j /\ j < 2 ^ 62 then .ok (SY j.toNat) S else .stuck
 | _ => .stuck
theorem Qu : U6 a ρ S = (a ρ S).bind kRev1 := rfl
def Sx (x : Vl) (S : aO) : Res (List D) := match x with
 | .dat (.lst ds) => .ok (eG 0 ds) S
 | _ => .stuck
theorem V6 : EW a ρ S = (a ρ S).bind Sx := rfl
theorem RA {ds : List D} : Sx (.dat (.lst ds)) S = .ok (eG 0 ds) S := rfl
def Out.wipe (o : Out) (is : List Nat) : Out := match o with
 | .next ρ S => .next (wipeE ρ is) S
 | .cnt ρ S => .cnt (wipeE ρ is) S
 | .brk ρ S => .brk (wipeE ρ is) S
 | o => o
theorem Ua {is : List Nat} : kH is m ρ S = (m ρ S).wipe is := by unfold kH Out.wipe; cases m ρ S <;> rfl
theorem HX {is : List Nat} : (Out.next ρ S).wipe is = .next (wipeE ρ is) S := rfl
theorem JD {is : List Nat} {d : Vl} : (Out.ret d S).wipe is = .ret d S := rfl
theorem JE {is : List Nat} {x : Er} : (Out.err x ρ S).wipe is = .err x ρ S := rfl
theorem VB {cl : Bool} {i j : Int} : dD cl (.dat (.int i)) (.dat (.int j)) S = .ok (.dat (.int (i + j))) S := rfl
theorem Ue {i j : Int} : qT (.dat (.int i)) (.dat (.int j)) S = .ok (.dat (.int (i - j))) S := rfl
theorem mO {i j : Int} (h : 0 < j) : xJ (.dat (.int i)) (.dat (.int j)) S = .ok (.dat (.int (i % j))) S := if_pos h
theorem lE {i j : Int} (h : IntMulOk i j) : oQ (.dat (.int i)) (.dat (.int j)) S = .ok (.dat (.int (i * j))) S := if_pos h
theorem Bw {i j : Int} (h : CDiv i j) : uV (.dat (.int i)) (.dat (.int j)) S = .ok (.dat (.int (i / j))) S := if_pos h
theorem g_ltI {i j : Int} : Hl (.dat (.int i)) (.dat (.int j)) S = .ok (.dat (.bl (decide (i < j)))) S := rfl
theorem g_leI {i j : Int} : MS (.dat (.int i)) (.dat (.int j)) S = .ok (.dat (.bl (decide (i <= j)))) S := rfl
theorem g_gtI {i j : Int} : Dq (.dat (.int i)) (.dat (.int j)) S = .ok (.dat (.bl (decide (j < i)))) S := rfl
theorem g_geI {i j : Int} : fGe (.dat (.int i)) (.dat (.int j)) S = .ok (.dat (.bl (decide (j <= i)))) S := rfl
theorem g_eqI {i j : Int} : eV (.dat (.int i)) (.dat (.int j)) S = .ok (.dat (.bl (decide (i = j)))) S := rfl
theorem g_neI {i j : Int} : IK (.dat (.int i)) (.dat (.int j)) S = .ok (.dat (.bl (!decide (i = j)))) S := rfl
theorem g_eqS {i j : Str} : eV (.dat (.str i)) (.dat (.str j)) S = .ok (.dat (.bl (decide (i = j)))) S := rfl
theorem g_neS {i j : Str} : IK (.dat (.str i)) (.dat (.str j)) S = .ok (.dat (.bl (!decide (i = j)))) S := rfl
theorem g_eqB {i j : Bool} : eV (.dat (.bl i)) (.dat (.bl j)) S = .ok (.dat (.bl (i == j))) S := by cases i <;> cases j <;> rfl
theorem g_neB {i j : Bool} : IK (.dat (.bl i)) (.dat (.bl j)) S = .ok (.dat (.bl (!(i == j)))) S := by cases i <;> cases j <;> rfl
theorem g_neg {i : Int} : sV (.dat (.int i)) S = .ok (.dat (.int (-i))) S := rfl
theorem V1 {i : Int} : pS (.dat (.int i)) S = .ok (.dat (.int i)) S := rfl
theorem V2 {k : Bool} : pS (.dat (.bl k)) S = .ok (.dat (.int (if k then 1 else 0))) S := rfl
theorem Ut {xs : List D} : fR (.dat (.tup xs)) S = .ok (.dat (.int xs.length)) S := rfl
theorem Uu {xs : List D} : fR (.dat (.lst xs)) S = .ok (.dat (.int xs.length)) S := rfl
theorem qJ {n : Nat} {xs : List D} (h : S[n]? = some (.lst xs)) : fR (.cel n) S = .ok (.dat (.int xs.length)) S := by simp only [fR, oW, h]
theorem Cz {xs : List D} {k : Int} {d : D} (h : atI xs k = some d) : bW (.dat (.tup xs)) (.dat (.int k)) S = .ok (.dat d) S := by simp only [bW, h]
theorem rD {xs : List D} {k : Int} {d : D} (h : atI xs k = some d) : bW (.dat (.lst xs)) (.dat (.int k)) S = .ok (.dat d) S := by simp only [bW, oW, h]
theorem OY {n : Nat} {xs : List D} {k : Int} {d : D} (h : S[n]? = some (.lst xs)) (h2 : atI xs k = some d) : bW (.cel n) (.dat (.int k)) S = .ok (.dat d) S := by simp only [bW, oW, h, h2]
theorem mT {cl : Bool} {xs ys : List D} (h : xs.length + ys.length <= sizeLine) : dD cl (.dat (.tup xs)) (.dat (.tup ys)) S = .ok (.dat (.tup (xs ++ ys))) S := if_pos h
theorem gL {cl : Bool} {xs ys : List D} (h : xs.length + ys.length <= sizeLine) : dD cl (.dat (.lst xs)) (.dat (.lst ys)) S = newL cl (xs ++ ys) S := by simp only [dD, oW, h, if_true]
theorem Hb {neg : Bool} : Do neg x (.dat .non) S = .ok (.dat (.bl (if neg then !(isNon x) else isNon x))) S := rfl
theorem eX {α : Type} {xs : List α} {k : Int} {n : Nat} (h : k = (n : Int)) : atI xs k = xs[n]? := by
 subst h;unfold atI ixN
 by_cases hl : n < xs.length
 ·rw [if_pos (by omega), if_pos (by omega)]; simp
 ·rw [if_pos (by omega), if_neg (by omega)]
  simp [vD hl]
theorem KF : hY ρ S = .ok true S := rfl
theorem Uc {xs : List D} : CB (.dat (.lst xs)) S = .ok (!xs.isEmpty) S := rfl
theorem Ud {i : Int} : CB (.dat (.int i)) S = .ok (i != 0) S := rfl
theorem HZ {xs : List D} : isNon (.dat (.tup xs)) = false := rfl
theorem Ha : isNon (.dat .non) = true := rfl
theorem g_slT {cl : Bool} {xs : List D} {lo hi : Option Int} : TC cl (.dat (.tup xs)) lo hi S = .ok (.dat (.tup (cutD xs lo hi))) S := rfl
theorem g_slL {cl : Bool} {xs : List D} {lo hi : Option Int} : TC cl (.dat (.lst xs)) lo hi S = newL cl (cutD xs lo hi) S := rfl
theorem g_slS {cl : Bool} {ns : List Int} {lo hi : Option Int} : TC cl (.scr ns) lo hi S = newL cl (cutD (ns.map D.int) lo hi) S := rfl
theorem Qx {cl : Bool} {xs : List D} : oR cl (.dat (.lst xs)) S = newL cl xs S := rfl
theorem Qw {cl : Bool} {xs : List D} : oR cl (.dat (.tup xs)) S = newL cl xs S := rfl
theorem OB {xs : List D} : fTuple (.dat (.lst xs)) S = .ok (.dat (.tup xs)) S := rfl
end
section
variable {a b o : FE} {r : FA} {m n : FS} {ρ : Ev} {S : aO} {x y : Vl} {md : FD} {C f : Str} {ns : List Str}
theorem Qv : xZ C ρ S = .err ⟨C, [], []⟩ ρ S := rfl
def Fh (C : Str) (ns : List Str) (ρ : Ev) (xs : List Vl) (S : aO) : Out := match yN xs with
 | some ds => if ds.length = ns.length then .err ⟨C, ns, ds.reverse⟩ ρ S else .stuck
 | none => .stuck
theorem OF : mG C ns r ρ S = (r ρ S).toS ρ (Fh C ns ρ) := rfl
theorem Lz {f : Str} {d : D} : Fh C [f] ρ [.dat d] S = .err ⟨C, [f], [d]⟩ ρ S := rfl
theorem Ly {f g : Str} {d e : D} : Fh C [f, g] ρ [.dat d, .dat e] S = .err ⟨C, [f, g], [e, d]⟩ ρ S := rfl
def yB (C f : Str) (ρ : Ev) (d x : Vl) (S : aO) : Out := match IU S C f x d with
 | some S3 => .next ρ S3
 | none => .stuck
def Sr (C f : Str) (o : FE) (ρ : Ev) (d : Vl) (S : aO) : Out := (o ρ S).toS ρ (yB C f ρ d)
theorem Uh : vV C f o a ρ S = (a ρ S).toS ρ (Sr C f o ρ) := rfl
theorem R5 {d : Vl} : Sr C f o ρ d S = (o ρ S).toS ρ (yB C f ρ d) := rfl
theorem Cy {n : Nat} {d : Vl} {fs : List (Str × Vl)} (h : S[n]? = some (.ins C fs)) (hl : fs.length < 1000) : yB C f ρ d (.cel n) S = .next ρ (S.set n (.ins C (oH f d fs))) := by simp only [yB, IU, h, true_and, hl, if_true]
def Ee (kp : Bool) (C : Str) (md : FD) (ds : List Vl) (S : aO) : Res Vl := made kp S.length (md (.cel S.length :: ds) (S ++ [.ins C []]))
theorem Us {kp : Bool} : Jx kp C md r ρ S = (r ρ S).bind (Ee kp C md) := rfl
def Ir (md : FD) (x : Vl) (ds : List Vl) (S : aO) : Res Vl := md (x :: ds) S
def Sv (C f : Str) (md : FD) (r : FA) (ρ : Ev) (x : Vl) (S : aO) : Res Vl := if pH S C f x = true then (r ρ S).bind (Ir md x) else .stuck
theorem Ur : pG C f md o r ρ S = (o ρ S).bind (Sv C f md r ρ) := rfl
theorem gU (h : pH S C f x = true) : Sv C f md r ρ x S = (r ρ S).bind (Ir md x) := if_pos h
theorem OP {ds : List Vl} : Ir md x ds S = md (x :: ds) S := rfl
def Bb (C f : Str) (x : Vl) (S : aO) : Res Vl := match BO S C f x with
 | some d => .ok d S
 | none => .stuck
theorem g_fld : gG C f o ρ S = (o ρ S).bind (Bb C f) := rfl
theorem R9 {ns : List Str} {xs : List D} : Bb C f (.dat (.ins C ns xs)) S = (match (ns.zip xs).lookup f with | some d => .ok (.dat d) S | none => .stuck) := by
 simp only [Bb, BO, if_true];cases (ns.zip xs).lookup f <;> rfl
theorem uD {n : Nat} {fs : List (Str × Vl)} {d : Vl} (h : S[n]? = some (.ins C fs)) (h2 : fs.lookup f = some d) : Bb C f (.cel n) S = .ok d S := by simp only [Bb, BO, h, if_true, h2]
def Out.tryA (o : Out) (cs : List Str) (c : Str) (k : Nat) (its : List XIt) : Out := match o with
 | .err e ρ' S' => if (e.cls ∈ cs /\ c ∈ cs) /\ k < ρ'.length then (if e.cls = c then (match itF e its with
   | some ds => if ds.length <= sizeLine then .ret (.dat (.tup ds)) S' else .stuck
   | none => .stuck) else .err e ρ' S') else .stuck
 | o => o
theorem Ub {cs : List Str} {c : Str} {k : Nat} {its : List XIt} : Sl cs m c k its ρ S = (m ρ S).tryA cs c k its := by unfold Sl Out.tryA; cases m ρ S <;> rfl
theorem HY {cs : List Str} {c : Str} {k : Nat} {its : List XIt} : (Out.next ρ S).tryA cs c k its = .next ρ S := rfl
theorem JF {cs : List Str} {c : Str} {k : Nat} {its : List XIt} {d : Vl} : (Out.ret d S).tryA cs c k its = .ret d S := rfl
end
theorem mR : ((0 : Nat) : Int) = 0 := rfl
theorem A6 : ((1 : Nat) : Int) = 1 := rfl
theorem RS : ((2 : Nat) : Int) = 2 := rfl
theorem RR : ((3 : Nat) : Int) = 3 := rfl
theorem RQ : ((4 : Nat) : Int) = 4 := rfl
theorem RP : ((5 : Nat) : Int) = 5 := rfl
theorem RN : ((6 : Nat) : Int) = 6 := rfl
theorem RM : ((7 : Nat) : Int) = 7 := rfl
theorem RL : ((8 : Nat) : Int) = 8 := rfl
theorem RK : ((9 : Nat) : Int) = 9 := rfl
theorem Of : ((10 : Nat) : Int) = 10 := rfl
theorem Oe : ((11 : Nat) : Int) = 11 := rfl
theorem Od : ((12 : Nat) : Int) = 12 := rfl
theorem Oc : ((13 : Nat) : Int) = 13 := rfl
theorem str_inj {a b : String} (h : Str.ofString a = Str.ofString b) : a = b := by
 rw [Str.ofString_eq_toList, Str.ofString_eq_toList] at h
 injection h with h
 have h2 := congrArg Array.toList h;simp only at h2;have : ∀ {l m : List Char}, l.map Char.toNat = m.map Char.toNat -> l = m := fun {l} => by
  induction l with
  | nil => intro m h; cases m <;> simp at h ⊢
  | cons c l ih =>
   intro m h;cases m with
   | nil => simp at h
   | cons d m =>
    simp only [aM, List.cons.injEq] at h;rw [ih h.2];have : c = d := by
     have := congrArg Char.ofNat h.1
     simpa using this
    rw [this]
 exact String.toList_inj.mp (this h2)
theorem FQ {a b : String} : (Str.ofString a = Str.ofString b) = (a = b) := propext ⟨str_inj, fun h => by rw [h]⟩
section
variable {X : Cx} {W : WX} {C : Str} {md : FD} {o i a b : Expr} {mo mi ma mb : FE} {pos p : Pos} {j k : Nat} {ps : List Str} {K : aD}
def fGetO (C : Str) (md : FD) (x y : Vl) (S : aO) : Res Vl := if pH S C "" x = true then md [x, y] S else .stuck
def fInO (C : Str) (md : FD) (y x : Vl) (S : aO) : Res Vl := if pH S C "" x = true then PD (md [x, y] S) else .stuck
def Nl (x : Vl) (S : aO) : Res (List PH.D) := match x with
 | .dat (.lst ds) => .ok ds.reverse S
 | _ => .stuck
def mRevL (a : FE) : FI := fun ρ S => (a ρ S).bind Nl
def Em (x y : Vl) (S : aO) : Res Vl := match x, y with
 | .dat (.int i), .dat (.int j) => .ok (.dat (.int (if j < i then j else i))) S
 | _, _ => .stuck
theorem boot_min : bootBuiltins "min" = some (.builtin "min") := by decide +kernel
theorem VI (hm : X.mg "min" = none) (ha : PE X a (cZ X.K W ma)) (hb : PE X b (cZ X.K W mb)) (hc : X.calm = true := by rfl) (hg : Gl X "min" := by rfl) (hs : starEach [a, b] X.env = (false, eval a X.env) :: starEach [b] X.env := by rfl) (hs2 : starEach [b] X.env = [(false, eval b X.env)] := by rfl) (hpl : (backTo pos (starEach [b] X.env)).any (·.1) = false := by rfl) : PE X (.Call (.Name "min" p) [a, b] [] pos) (cZ X.K W (aR Em ma mb)) :=
 dG (pe_callB (call_min2 hc) hg hm boot_min (pa_cons ha (pa_cons hb pa_nil hs2) hs) (he := hs) (hpl := hpl)) fun σ H Q h =>
  cU (k := fun x ρ S => (mb ρ S).bind fun y S2 => Em x y S2) h fun B φ S ρ d v H1 I E r f => kU I E f fun φ' S' e w H2 I2 X2 E2 r2 f2 => by
   unfold Em at f2;split at f2
   ·cases r
    cases r2;exact ⟨_, _, rfl, Fin.now f2 I2 rfl⟩
   ·exact f2.elim
theorem Uk {ρ : Ev} {S : aO} : mRevL ma ρ S = (ma ρ S).bind Nl := rfl
theorem R6 {S : aO} {ds : List PH.D} : Nl (.dat (.lst ds)) S = .ok ds.reverse S := rfl
theorem OH {S : aO} {x y : Int} : Em (.dat (.int x)) (.dat (.int y)) S = .ok (.dat (.int (if y < x then y else x))) S := rfl
theorem V4 {S : aO} {x y : Vl} (h : pH S C "" x = true) : fGetO C md x y S = md [x, y] S := if_pos h
theorem g_inO {S : aO} {x y : Vl} (h : pH S C "" x = true) : fInO C md y x S = PD (md [x, y] S) := if_pos h
theorem RV {S : aO} {b : Bool} : PD (.ok (.dat (.bl b)) S) = .ok (.dat (.bl b)) S := rfl
def So (k : Nat) : FS := fun ρ S => match lk ρ k with
 | some (.cel n) => (match S[n]? with
  | some (.lst ds) => .next (ρ.set k (some (.dat (.lst ds)))) (S.set n .dead)
  | _ => .stuck)
 | _ => .stuck
theorem V5 {k n : Nat} {ρ : Ev} {S : aO} {ds : List PH.D} (h : lk ρ k = some (.cel n)) (h2 : S[n]? = some (.lst ds)) : So k ρ S = .next (ρ.set k (some (.dat (.lst ds)))) (S.set n .dead) := by simp only [So, h, h2]
end
open AutoSeq1 (wpAny_loadPart')
section
variable {X : Cx} {W : WX} {a : Expr} {ma : FE} {pos p : Pos}
def UA (a : FE) : FI := fun ρ S => (a ρ S).bind fun x S1 => match x with
 | .dat (.tup ds) => .ok (eG 0 ds) S1
 | _ => .stuck
def Nm (x : Vl) (S : aO) : Res (List PH.D) := match x with
 | .dat (.tup ds) => .ok (eG 0 ds) S
 | _ => .stuck
theorem RF {ρ : Ev} {S : aO} : UA ma ρ S = (ma ρ S).bind Nm := rfl
theorem OT {S : aO} {ds : List PH.D} : Nm (.dat (.tup ds)) S = .ok (eG 0 ds) S := rfl
end
section
variable {X : Cx} {W : WX} {e a b c o : Expr} {es rest : List Expr} {pos p q p2 tpos apos cpos : Pos} {x y z C f : Str} {K : aD} {ma mb mc mo me : FE} {mt mu : FT} {mas : FA} {mi mj : FI} {B : Addr -> Prop} {φ φ' : List Addr} {S S' : aO} {H H' : Hp} {σ : L2.St} {Q : VK} {m n : FS} {st : Stmt} {gR : List Stmt} {D : Ends} {t t1 : Tg}
def Qb (mi : FI) (t : Tg) (vs : List Nat) : FE := fun ρ S => (mi ρ S).bind fun ds S1 => if ds.length <= sizeLine /\ (∀ d ∈ ds, (pE t (.dat d) (wipeE ρ vs)).isSome = true) then .ok (.cels (fD S1.length ds.length)) (S1 ++ bZ ds.length (.lst [])) else .stuck
theorem LQ {n : Nat} {x : Cell} : bZ (n + 1) x = bZ n x ++ [x] := List.replicate_succ'
theorem NC {s n : Nat} : fD s (n + 1) = fD s n ++ [s + n] := by rw [List.range'_concat]; simp
theorem Q5 {vs : List Nat} (ht : ∀ i ∈ Tb t, i ∈ vs) (h : cZ K W (Qb mi t vs) σ H Q) : tLc (Po K W mi) (Pn K t) (yS K wNo hY) (cZ K wNo (cS true aJ)) vs σ H Q := by
 refine cU (k := fun ds ρ S1 => if ds.length <= sizeLine /\ (∀ d ∈ ds, (pE t (.dat d) (wipeE ρ vs)).isSome = true) then Res.ok (Vl.cels (fD S1.length ds.length)) (S1 ++ bZ ds.length (.lst [])) else .stuck) h fun B φ0 S0 ρ ds J H0 I0 E0 r f0 => ?_
 intro A hA;split at f0
 case isFalse => exact f0.elim
 rename_i hsz;obtain ⟨hsz, htg⟩ := hsz;have nB : ¬ B A := fun q => by obtain ⟨u, e⟩ := I0.btr A q; rw [hA] at e; cases e
 have IA : GInv K (kF B A) φ0 S0 (upd H0 A (.lst [])) := I0.plus hA;have b2 : ∀ a, H0 a ≠ none -> kF B A a -> B a := fun b hb h => by
  rcases h with h | h
  ·exact h
  ·exact absurd (by rw [h]; exact hA) hb
 refine ⟨fun i k H' => i <= ds.length /\ k = ds.length - i /\ ∃ (φ1 : List Addr) (as : List Addr), GInv K (kF B A) φ1 (S0 ++ bZ i (.lst [])) H' /\ Ext φ0 S0 H0 φ1 (S0 ++ bZ i (.lst [])) H' /\ RepE K (kF B A) φ1 (S0 ++ bZ i (.lst [])) H' (wipeE ρ vs) (wipe σ vs) /\ H' A = some (.lst (as.map L2.V.ref)) /\ as.length = i /\ (fD S0.length i).map (fun n => φ1[n]?) = as.map some,
  ⟨_, jC _, rfl, φ0, [], by simpa using IA, by simpa using Ext.new I0 hA, by simpa using (E0.wipes vs).plus I0 hA, upd_same, rfl, rfl⟩, ?_⟩
 rintro i k H' ⟨hi, rfl, φ1, as, I1, X1, E1, hA1, hul, hφ⟩
 obtain ⟨hgo, hstop, hyld⟩ := r φ1 _ H' (kF B A) I1 (X1.kpB (fun _ h => .inl h) b2 I0)
 by_cases hlt : i < ds.length
 ·refine .inr ⟨hgo i hlt, fun H2 => i + 1 <= ds.length /\ ∃ (φ1 : List Addr) (as : List Addr), GInv K (kF B A) φ1 (S0 ++ bZ (i + 1) (.lst [])) H2 /\ Ext φ0 S0 H0 φ1 (S0 ++ bZ (i + 1) (.lst [])) H2 /\ RepE K (kF B A) φ1 (S0 ++ bZ (i + 1) (.lst [])) H2 (wipeE ρ vs) (wipe σ vs) /\ H2 A = some (.lst (as.map L2.V.ref)) /\ as.length = i + 1 /\ (fD S0.length (i + 1)).map (fun n => φ1[n]?) = as.map some, fun H2 ⟨h1, h2⟩ => ⟨ds.length - (i + 1), by omega, h1, rfl, h2⟩, fun x H2 y => ?_⟩
  have hd : ds[i]? = some ds[i] := by simp [hlt]
  obtain ⟨I2, X2, r2⟩ := hyld i x H2 ds[i] hd y;obtain ⟨ρ2, q2⟩ := Option.isSome_iff_exists.mp (htg ds[i] (fW hlt));have hA2 := (X2.old A _ hA1 fun q => I1.blk A q (.inr rfl)).1
  refine FP (E1.ext X2 I1) (d := .dat ds[i]) r2 q2 fun ws E3 => ⟨by rw [E5 ht, Dz], kF B A, φ1, _, ρ2, I2, E3, ?_⟩
  intro φ3 b' H3 I3 X3 rb;have rb : b' = true := rb;subst rb;have hA3 := (X3.old A _ hA2 fun q => I2.blk A q (.inr rfl)).1
  have Xa := X1.trans (X2.trans X3);rw [if_pos rfl];refine ⟨kF B A, φ3, S0 ++ bZ i (.lst []), ρ2, I3, E3.ext X3 I2, ?_⟩
  intro φ4 v4 H4 I4 X4 r4;obtain ⟨a4, rfl, h4⟩ := r4;have hA4 := (X4.old A _ hA3 fun q => I3.blk A q (.inr rfl)).1
  have eS : (S0 ++ bZ i (Cell.lst [])) ++ [Cell.lst []] = S0 ++ bZ (i + 1) (.lst []) := by rw [LQ, dN]
  rw [eS] at I4 X4;have hn : (S0 ++ bZ i (Cell.lst [])).length = S0.length + i := by simp
  rw [hn] at h4;refine ⟨as.map L2.V.ref, hA4, by rw [aP, hul]; omega, hlt, φ4, as ++ [a4], I4.plusPut hA4, ?_, (((E1.ext X2 I1).ext X3 I2).ext X4 I3).plusPut hA4, by rw [upd_same]; simp, by simp [hul], ?_⟩
  ·exact ⟨fun b o h nb => by
    obtain ⟨h1, h2⟩ := (Xa.trans X4).old b o h nb;exact ⟨by rw [upd_ne (fun e => by subst e; rw [hA] at h; cases h)]; exact h1, h2⟩, (Xa.trans X4).ids⟩
  ·rw [NC, cR, cR, zO (X2.trans (X3.trans X4)).ids _ _ hφ]
   simp [h4]
 ·have e : i = ds.length := by omega
  subst e;refine .inl ⟨hstop, ?_⟩
  refine f0 φ1 (.ref A) H' I1.less X1 ⟨A, as, rfl, fun q => ?_, hA1, hφ⟩
  rcases q with q | q
  ·exact nB q
  ·exact I1.blk A q (.inr rfl)
theorem f_lcC {tg iter : Expr} {scope : Scope} {own : List (Str × Nat)} {lpos : Pos} (hc : X.calm = true) (hN : X.N.Nodup) (hi : PI X tg iter (Po X.K W mi)) (ok : BlkOk X.N X.env.scope scope own)
  (hg : ∀ (s : Shared) (H : Hp) (C : Addr) (cl : List (Str × Addr)) (fp : List Addr), PG (X.blk s H scope (compEnvC scope cl C X.env) fp) tg (Pn X.K t)) (hs : ∀ x, foldedSetIterable iter X.env x = pure x := by intro _; rfl) (hv : ∀ i ∈ Tb t, i ∈ own.map (·.2) := by decide) :
  PE X (.ListComp (.List [] lpos) [⟨tg, iter, [], 0⟩] scope pos) (cZ X.K W (Qb mi t (own.map (·.2)))) := dG (pe_lc hc hN hi ok hg (fun _ _ _ _ _ => iN) (fun _ _ _ _ _ => cJ aG) hs) fun σ H Q h => Q5 hv h
def kLcC (t : Tg) (ρ : Ev) (vs : List Nat) (ds : List PH.D) (S : aO) : Res Vl := if ds.length <= sizeLine /\ (∀ d ∈ ds, (pE t (.dat d) (wipeE ρ vs)).isSome = true) then .ok (.cels (fD S.length ds.length)) (S ++ bZ ds.length (.lst [])) else .stuck
theorem g_lcC {ρ : Ev} {S : aO} {vs : List Nat} : Qb mi t vs ρ S = (mi ρ S).bind (kLcC t ρ vs) := rfl
theorem OQ {ρ : Ev} {S : aO} {vs : List Nat} {k : Nat} {ds : List PH.D} (h : ds.length <= sizeLine) : kLcC (.nm k) ρ vs ds S = .ok (.cels (fD S.length ds.length)) (S ++ bZ ds.length (.lst [])) := if_pos ⟨h, fun _ _ => rfl⟩
def EY (g : Int -> Int -> Int) (C f : Str) (o e : FE) : FS := fun ρ S => (o ρ S).toS ρ fun x S1 => match BO S1 C f x with
 | some (.dat (.int u)) => (e ρ S1).toS ρ fun w S2 => (match w with
  | .dat (.int w) => (match IU S2 C f x (.dat (.int (g u w))) with
   | some S3 => .next ρ S3
   | none => .stuck)
  | _ => .stuck)
 | _ => .stuck
theorem N0 {g : Int -> Int -> Int} {r : R2} (c : Cls K (He.ga K C)) (na : NoAttr K (He.ga K C) f) (hr : ∀ i j H Q, Q (.int (g i j)) H -> r (.int i) (.int j) H Q) (h : kP K W (EY g C f mo me) D σ H) : sFldAug K (cZ K W mo) (cZ K W me) (cIp r) f D σ H := by
 obtain ⟨B, φ, S, ρ, I, E, f'⟩ := h;refine cN I E f' fun φ1 S1 d1 v1 H1 I1 X1 E1 r1 f1 => ?_
 split at f1
 ·rename_i u q
  obtain ⟨a, dx, fs, u', rfl, h1, h2, h3⟩ := Hh I1 r1 q;cases h3;refine ⟨a, _, dx, fs, _, rfl, h1, c, na, h2, cN I1 E1 f1 fun φ2 S2 d2 v2 H2 I2 X2 E2 r2 f2 => ?_⟩
  split at f2
  ·rename_i w
   cases r2;split at f2
   ·rename_i S3 q3
    unfold IU at q3;split at q3
    ·rename_i n
     obtain ⟨a', e', h4⟩ := r1.ext X2 I1;cases e';split at q3
     ·rename_i C' fs' q4
      split at q3
      ·rename_i hc
       obtain ⟨e, hl⟩ := hc;subst e;cases q3;obtain ⟨dx2, vs, h5, h6⟩ := I2.ok n _ a q4 h4;refine hr _ _ _ _ ⟨dx2, vs, h5, by rw [h6.len]; exact hl, ?_⟩
       have X3 := Ext.put (H := H2) (o := .ins (He.ga K C') dx2 (putF f (.int (g u w)) vs)) (x := .ins C' (oH f (.dat (.int (g u w))) fs')) q4 (by simp) h4 (by simp)
       have r' : RepV K B φ2 S2 H2 (.dat (.int (g u w))) (.int (g u w)) := rfl;have I3 := I2.put q4 (by simp) h4 (by simp) (x := .ins C' (oH f (.dat (.int (g u w))) fs')) (o := .ins (He.ga K C') dx2 (putF f (.int (g u w)) vs)) ⟨dx2, putF f (.int (g u w)) vs, upd_same, (RepF.put r' h6).ext X3 I2⟩
       exact f2 φ2 σ _ I3 X3 (E2.ext X3 I2)
      ·cases q3
     ·cases q3
    ·cases q3
   ·exact f2.elim
  ·exact f2.elim
 ·exact f1.elim
theorem JL (c : Cls X.K (He.ga X.K C)) (na : NoAttr X.K (He.ga X.K C) f) (ho : PE X o (cZ X.K W mo)) (he : PE X e (cZ X.K W me)) : PS X (.AugAssign (.Attribute o f tpos) .Add e pos) (kP X.K W (EY (fun x y => x + y) C f mo me)) :=
 fT (ps_fldaug ho he Fp) fun D σ H h => N0 c na (fun _ _ _ _ q => q) h
theorem SE {g : Int -> Int -> Int} {ρ : Ev} {S : aO} {n : Nat} {u w : Int} {fs : List (Str × Vl)} (ho : mo ρ S = .ok (.cel n) S) (he : me ρ S = .ok (.dat (.int w)) S) (hn : S[n]? = some (.ins C fs)) (hf : fs.lookup f = some (.dat (.int u))) (hl : fs.length < 1000) : EY g C f mo me ρ S = .next ρ (S.set n (.ins C (oH f (.dat (.int (g u w))) fs))) := by
 simp only [EY, ho, he, mN, BO, hn, if_true, hf, IU, true_and, hl]
def G4 : PH.D := .tup [.int 0, .int 0, .int 1, .int 0, .int 0, .int 0]
def UD (md : FD) (dd : PH.D) (as : FA) : FE := fun ρ S => (as ρ S).bind fun ds S1 => md (ds ++ [.dat dd]) S1
theorem RepVs.snoc {B : Addr -> Prop} {φ : List Addr} {S : aO} {H : Hp} : ∀ {ds : List Vl} {vs : List L2.V} {d : Vl} {v : L2.V}, RepVs K B φ S H ds vs -> RepV K B φ S H d v -> RepVs K B φ S H (ds ++ [d]) (vs ++ [v])
 | [], vs, d, v, h, r => by cases h; exact ⟨v, [], rfl, r, rfl⟩
 | d' :: ds, vs, d, v, ⟨v', ws, e, h1, h2⟩, r => by subst e; exact ⟨v', ws ++ [v], rfl, h1, RepVs.snoc h2 r⟩
def Nt (md : FD) (dd : PH.D) (ds : List Vl) (S : aO) : Res Vl := md (ds ++ [.dat dd]) S
theorem RU {md : FD} {dd : PH.D} {ρ : Ev} {S : aO} : UD md dd mas ρ S = (mas ρ S).bind (Nt md dd) := rfl
theorem OX {md : FD} {dd : PH.D} {ds : List Vl} {S : aO} : Nt md dd ds S = md (ds ++ [.dat dd]) S := rfl
def UC (n : Nat) (md : FD) (as : FA) (a : FE) : FE := fun ρ S => (as ρ S).bind fun ds S1 => if ds.length = n then (a ρ S1).bind fun d S2 => md (ds ++ [d]) S2 else .stuck
def Fm (md : FD) (ds : List Vl) (d : Vl) (S : aO) : Res Vl := md (ds ++ [d]) S
def Nr (n : Nat) (md : FD) (a : FE) (ρ : Ev) (ds : List Vl) (S : aO) : Res Vl := if ds.length = n then (a ρ S).bind (Fm md ds) else .stuck
theorem RT {md : FD} {n : Nat} {ρ : Ev} {S : aO} : UC n md mas ma ρ S = (mas ρ S).bind (Nr n md ma ρ) := rfl
theorem M3 {md : FD} {ρ : Ev} {S : aO} {x y z : Vl} : Nr 3 md ma ρ [x, y, z] S = (ma ρ S).bind (Fm md [x, y, z]) := rfl
theorem M4 {md : FD} {ds : List Vl} {d : Vl} {S : aO} : Fm md ds d S = md (ds ++ [d]) S := rfl
end
section
variable {P : Program} {w : World} {K : aD} {mg : Str -> Option Value} {base : Heap}
abbrev FnK (K : aD) (x : Str) (st : Stmt) (kw : Str) (dv : L2.V) : Prop := ∃ fd, FunD K x x (defArgs st) (defBody st) (defScope st) [] [(kw, dv)] (He.ga K x) fd
end
def EV0 := aF @eL (aF @D0 (aF @mN (aF @Lq (aF @T7 (aF @g_c (aF @g_op (aF @g_op1 (aF @g_1 (aF @g_B (aF @g_unB (aF @OE (aF @g_and (aF @g_or (aF @T8 (aF @OL (aF @OM (aF @Qy (aF @Qz (aF @Uv (aF @VA (aF @g_orV (aF @Lw (aF @Lx (aF @OJ (aF @OK (aF @Um (aF @R8 (aF @g_kNV (aF @g_orT (aF @Ux (aF @ON (aF @OO (aF @OD (aF @RG (aF @g_ch1 (aF @g_ch2 (aF @RH (aF @RJ (aF @g_if (aF @R1 (aF @R3 (aF @OG (aF @JH (aF @Ft (aF @Fs (aF @g_lst (aF @g_tup (aF @JK (aF @Hc (aF @kTup0 (aF @kTup1 (aF @kTup2 (aF @kTup3 (aF @kTup4 (aF @kLst0 (aF @kLst1 (aF @kLst2 (aF @kLst3 (@Uq)))))))))))))))))))))))))))))))))))))))))))))))))))))))))))
def EV1 := aF @Uo (aF @JJ (aF @g_sl (aF @g_sl0 (aF @g_sl1 (aF @g_sl2 (aF @g_noP (aF @Ul (aF @R7 (aF @g_frz (aF @g_app (aF @KG (aF @JG (aF @Lr (aF @Ls (aF @Lv (aF @Lu (aF @Ug (aF @g_ret (aF @Uw (aF @V7 (aF @RC (aF @T9 (aF @OR (aF @OS (aF @TB (aF @V0 (aF @RE (aF @RD (aF @g_for (aF @Uz (aF @g_lc (aF @Ui (aF @Oa (aF @OZ (aF @Uj (aF @Qu (aF @V6 (aF @RA (aF @Ua (aF @HX (aF @JD (aF @JE (aF @VB (aF @Ue (aF @g_ltI (aF @g_leI (aF @g_gtI (aF @g_geI (aF @g_eqI (aF @g_neI (aF @g_eqS (aF @g_neS (aF @g_eqB (aF @g_neB (aF @g_neg (aF @V1 (aF @V2 (aF @Ut (@Uu)))))))))))))))))))))))))))))))))))))))))))))))))))))))))))
def EV2 := aF @Hb (aF @KF (aF @Uc (aF @Ud (aF @HZ (aF @Ha (aF @g_slT (aF @g_slL (aF @g_slS (aF @Qx (aF @Qw (aF @OB (aF @Qv (aF @OF (aF @Lz (aF @Ly (aF @Uh (aF @R5 (aF @Us (aF @Ur (aF @OP (aF @g_fld (aF @R9 (aF @Ub (aF @HY (aF @JF (aF @mR (aF @A6 (aF @RS (aF @RR (aF @RQ (aF @RP (aF @RN (aF @RM (aF @RL (aF @RK (aF @Of (aF @Oe (aF @Od (aF @Oc (aF @Uk (aF @R6 (aF @OH (aF @V4 (aF @g_inO (aF @RV (aF @V5 (aF @RF (aF @OT (aF @g_lcC (aF @OQ (aF @RU (aF @OX (aF @RT (aF @M3 (aF @M4 (@FQ))))))))))))))))))))))))))))))))))))))))))))))))))))))))
end PH
local macro_rules
 | `(tactic| simp! [$xs,*] $[$l:location]?) => `(tactic| simp (config := { implicitDefEqProofs := false }) only [$xs,*, PH.EV0, PH.EV1, PH.EV2, cE, bY, Bool.not_true, Bool.not_false, eq_self, if_true, if_false, Bool.true_or, Bool.false_or, Bool.or_true, II, Ad, Bool.true_and, Bool.and_false, Bool.false_and, eN, aL, bF, beq_self_eq_true, BH, PH.lk, PH.isTy, PH.fIsi, PH.fIsi2, PH.kindOf, PH.wipeE, decide_true, decide_false, Int.reduceEq, Int.reduceLT, Int.reduceLE, Int.reduceSub, Int.reduceAdd, Int.reduceNeg, Int.reduceToNat, Int.reduceNe, Nat.reduceAdd, Nat.reduceLT, Nat.reduceLeDiff, String.reduceEq, String.reduceBEq] $[$l:location]?)
namespace PH
open PySem PySem.Spec PyProof.Rows L2
structure FnG (P : Program) (w : World) (K : aD) (mg : Str -> Option Value) (base : Heap) (CX : CXT) (k : Nat) (f : Addr) (fd : FuncData) (ps : List Str) (sp : Sp) : Prop where
 len : ∀ vs H Q E, sp vs H Q E -> vs.length = ps.length
 run : ∀ (A : Around) (outer : List Env) (s : Shared) (H : Hp) (args : Args) (us : List Value) (vs : List V) (Q : VK) (E : XK), Room k A -> A.guards = some [] -> Env0 P w K mg base A outer s H -> BindsTo s fd args (ps.zip us) -> Vals vs us -> sp vs H Q E ->
  codeAny (model P w) A (.call (.ref f) args) (CR CX outer P w H s Q E) s
section
variable {P : Program} {w : World} {K : aD} {mg mb : Str -> Option Value} {base : Heap} {CX : CXT} {k j : Nat} {f : Addr} {fd : FuncData} {ps : List Str} {sp : Sp}
theorem Oi {name qual : Str} {params : Arguments} {body : List Stmt} {scope : Scope} {dV kV doc pm cdv ct oc : Value} {an od : Option Addr} {osl : Array (Option Value)} {N : List Str} (lk : K.lookup f = some ⟨oc, od, .func (dJ name qual params body scope dV kV doc pm an cdv ct), osl⟩) (hcd : PySem.W.codeIn K cdv qual = true) (S : FnScope N ps scope) (len : ∀ vs H Q E, sp vs H Q E -> vs.length = ps.length)
  (hbody : ∀ (A : Around) (outer : List Env) (s : Shared) (H : Hp) (vs : List V) (Q : VK) (E : XK), Room k (A.deeper (envOfC qual scope s.heap.objs.size f cdv)) -> A.guards = some [] -> sp vs H Q E ->
   ∃ t, PSs (cxOf CX P w K mg base N qual scope f cdv A outer s H E) body t /\ t { nx := fun _ H' => Q .non H', rt := Q } (start N vs) H) :
  FnG P w K mg base CX (k + 1) f (dJ name qual params body scope dV kV doc pm an cdv ct) ps sp := by
 refine ⟨len, fun A outer s H args us vs Q E hr hgd e0 hb rv hsp => ?_⟩
 have KX : K.In s.heap := e0.mod.kin.keeps fun b o e => (e0.bs b o e).1
 have lim : s.heap.NoLimit := e0.mod.nolimit.keeps fun b o e => (e0.bs b o e).1
 have names : ∀ y ∈ ps.zip us, scope.names.lookup y.1 = some .local \/ (scope.names.lookup y.1 = some .cell /\ ((cellsFrom (s.heap.objs.size + 1) scope.names []).lookup y.1).isSome = true) := fun y hy => by
  obtain ⟨n, v⟩ := y;exact (S.par n (List.of_mem_zip hy).1).imp id fun q => ⟨q, GG _ _ _ (.inl q)⟩
 refine codeAny_call_function hr.depth (KX _ _ lk) rfl S.co S.gen rfl (Kh KX hcd) (hb _ _ _ _ (wpAny_newFunctionEnv_cells S.kind names fun env he s1 x => ?_))
 subst he;obtain ⟨t, ht, hq⟩ := hbody A outer s H vs Q E (hr.deeper _) hgd hsp;have I := inv_start (CX := CX) (E := E) S hr.hd e0 (len _ _ _ _ hsp) rv x;refine ⟨lim.keeps x.toInCall.keep, codeAny_func (wpAny_mono (ht.run [] s1 (start N vs) H _ I hq) (fun fl s' hs => ?_) fun e s' hs => hs)⟩
 cases fl with
 | ret u => obtain ⟨v, σ', H', J, r, q⟩ := hs; exact ⟨v, H', J.os, J.bare, J.base, J.hok, r, q⟩
 | next => obtain ⟨σ', H', J, q⟩ := hs; exact ⟨V.non, H', J.os, J.bare, J.base, J.hok, rfl, q⟩
 | brk => obtain ⟨_, _, _, q⟩ := hs; exact q.elim
 | cont => obtain ⟨_, _, _, q⟩ := hs; exact q.elim
end
def OkG (P : Program) (w : World) (K : aD) (mg : Str -> Option Value) (base : Heap) (k : Nat) (x : Str) (ps : List Str) (sp : Sp) : Prop :=
 ∃ fd, FnG P w K mg base (L2.CX P w) k (He.ga K x) fd ps sp /\ mg x = some (.ref (He.ga K x)) /\ iB K (.ref (He.ga K x)) = true /\ Binds K fd ps []
section
variable {X : Cx} {W : WX} {e : Expr} {es : List Expr} {pos p : Pos} {x : Str} {mas : FA} {ps : List Str} {md : FD} {j k : Nat} {fd : FuncData} {f : Addr} {sp : Sp}
theorem QF {pins : List (Addr × Obj)} {σ : L2.St} {H : Hp} {s : Shared} {Q : VK} {us : List Value} {vs : List V} (F : FnG X.prog X.w X.K X.mg X.base (L2.CX X.prog X.w) k f fd ps sp) (hr : Room k X.A) (hgd : X.A.guards = some []) (hb : Binds X.K fd ps []) (tk : Takes X W)
  (I : Inv X pins σ H s) (r : Vals vs us) (h : sp vs H Q (WE W σ)) : wpAny (model X.prog X.w) X.A (call (.ref f) us) (EP X pins σ Q) X.xe s := by
 have hl : us.length = ps.length := r.length.symm.trans (F.len _ _ _ _ h);have b := hb s us I.kIn (by rw [cX]; exact hl)
 rw [cX] at b;refine wpAny_call (codeAny_mono (F.run X.A X.stack s H ⟨us, []⟩ us vs Q (WE W σ) hr hgd I.env0 b r h) fun r s' hq => ?_)
 match r, hq with
 | .error e, hq => exact passAt tk σ pins H s e s' I hq
 | .ok (.ret u), hq => exact I.after hq
 | .ok .next, hq => exact hq.elim
 | .ok .brk, hq => exact hq.elim
 | .ok .cont, hq => exact hq.elim
theorem A9 (F : OkG X.prog X.w X.K X.mg X.base j x ps (spF X.K md)) (hr : Room k X.A) (hgd : X.A.guards = some []) (tk : Takes X W) (ha : PA X (e :: es) (GF X.K W mas)) (hjk : j <= k := by decide) (hg : Gl X x := by rfl) (hdb : (x == ("__debug__" : Str)) = false := by decide)
  (he : starEach (e :: es) X.env = (false, eval e X.env) :: starEach es X.env := by rfl) (hpl : (backTo pos (starEach es X.env)).any (·.1) = false := by rfl) : PE X (.Call (.Name x p) (e :: es) [] pos) (cZ X.K W (bA md mas)) := by
 obtain ⟨fd, F, hm, hk, hb⟩ := F;have h0 : PE X (.Call (.Name x p) (e :: es) [] pos) (tCallS (spF X.K md) (WE W) (GF X.K W mas)) := ⟨fun pins s σ H Q I h => by
  refine wpAny_Call_Name_kw (ld_glob I hg hm ?_ hdb)
  refine yT (h₀ := X.base) I.ok.mod.kin hk (thn (ha.run pos pins s σ H _ I h) fun us s1 ⟨vs, H1, I1, r, q⟩ => ⟨I1.kIn, ?_⟩) he hpl
  exact QF F (hr.mono hjk) hgd hb tk I1 r q⟩
 exact dG h0 fun σ H Q h => cU (k := fun ds _ S => md ds S) h fun B φ S ρ d v H1 I E r f => ⟨B, φ, S, d, I, r, f.toE⟩
end
section
variable {P : Program} {w : World} {K : aD} {mg : Str -> Option Value} {base : Heap}
theorem okG {x : Str} {st : Stmt} {N ps : List Str} {k : Nat} {md : FD} {mb : FS} (F : qU K x st) (g : mg x = some (.ref (He.ga K x))) (S : FnScope N ps (defScope st)) (R : Runs md N.length ps.length mb)
  (bnd : ∀ (kV doc pm : Value) (an : Option Addr) (cdv ct : Value) (us : List Value), us.length = ps.length -> bindArgs (dJ x x (defArgs st) (defBody st) (defScope st) .none kV doc pm an cdv ct) ⟨us, []⟩ = pure (ps.zip us))
  (hbody : ∀ (cdv : Value) (A : Around) (outer : List Env) (s : Shared) (H : Hp) (E : XK), Room k (A.deeper (envOfC x (defScope st) s.heap.objs.size (He.ga K x) cdv)) -> A.guards = some [] ->
   PSs (cxOf (L2.CX P w) P w K mg base N x (defScope st) (He.ga K x) cdv A outer s H E) (defBody st) (kP K (fun c x _ H => E c x H) mb)) : OkG P w K mg base (k + 1) x ps (spF K md) := by
 obtain ⟨fd, F⟩ := F;refine ⟨fd, ?_, g, F.kp, F.bindsN bnd⟩
 obtain ⟨oc, od, dV, kV, doc, pm, an, cdv, ct, osl, e, lk, hc⟩ := F.ex;subst e;exact Oi lk hc.1 S (Bj R) fun A outer s H vs Q E hr hgd hsp => ⟨_, hbody cdv A outer s H E hr hgd, yZ R hsp⟩
theorem Nh {x : Str} {st : Stmt} {N ps : List Str} {k : Nat} {md : FD} {mb : FS} (F : qU K x st) (S : FnScope N ps (defScope st)) (R : Runs md N.length ps.length mb)
  (bnd : ∀ (kV doc pm : Value) (an : Option Addr) (cdv ct : Value) (us : List Value), us.length = ps.length -> bindArgs (dJ x x (defArgs st) (defBody st) (defScope st) .none kV doc pm an cdv ct) ⟨us, []⟩ = pure (ps.zip us))
  (hbody : ∀ (base : Heap) (cdv : Value) (A : Around) (outer : List Env) (s : Shared) (H : Hp) (E : XK), Room k (A.deeper (envOfC x (defScope st) s.heap.objs.size (He.ga K x) cdv)) -> A.guards = some [] ->
   PSs (cxOf (L2.CX P w) P w K mg base N x (defScope st) (He.ga K x) cdv A outer s H E) (defBody st) (kP K (fun c x _ H => E c x H) mb)) :
  ∃ fd, (∀ (s : Shared) (us : List Value), us.length = ps.length -> BindsTo s fd ⟨us, []⟩ (ps.zip us)) /\ ∀ base, FnG P w K mg base (L2.CX P w) (k + 1) (He.ga K x) fd ps (spF K md) := by
 obtain ⟨fd, F⟩ := F;refine ⟨fd, fun s us hl => F.bindsA bnd s us hl, fun base => ?_⟩
 obtain ⟨oc, od, dV, kV, doc, pm, an, cdv, ct, osl, e, lk, hc⟩ := F.ex;subst e;exact Oi lk hc.1 S (Bj R) fun A outer s H vs Q E hr hgd hsp => ⟨_, hbody base cdv A outer s H E hr hgd, yZ R hsp⟩
theorem J9 {H : Hp} {h : Heap} {a : Addr} {vs : List Value} (ha : h.get? a = some { cls := .type "list", data := .seq vs.toArray }) (only : ∀ b, H b ≠ none -> b = a) {b : Addr} {m : Str -> Option Value} (n : h.Ns b m) : (hidT h H).Ns b m := by
 obtain ⟨o, es, ep, e, d, r⟩ := n;refine ⟨o, es, ep, hidT_get e ?_, d, r⟩
 by_cases q : H b = none
 ·exact q
 ·have e' := only b q
  subst e';rw [ha] at e;cases e;cases d
theorem UY {H : Hp} {h : Heap} {a : Addr} (KX : K.In h) (only : ∀ b, H b ≠ none -> b = a) (hK : H a ≠ none -> K.lookup a = none) : K.In (hidT h H) := fun b o e => hidT_get (KX b o e) (by
 by_cases q : H b = none
 ·exact q
 ·have e' := only b q
  subst e';rw [hK q] at e;cases e)
theorem HK {mb : Str -> Option Value} {k : Nat} {fa a : Addr} {fd : FuncData} {x : Str} {sp : Sp} {s : Shared} {vs : List Value} {H : Hp} {vl : List V} (KX : K.In s.heap) (hns : s.heap.Ns mainGlobals mg) (hb : s.heap.Ns builtinsNs mb) (hbb : ∀ x : Str, x ≠ "__name__" -> mb x = bootBuiltins x) (hlim : s.heap.NoLimit) (hg : s.gens = #[])
  (ha : s.heap.get? a = some { cls := .type "list", data := .seq vs.toArray }) (hr : Room k callerA) (F : ∀ base : Heap, K.In base -> base.Ns mainGlobals mg -> FnG P w K mg base (L2.CX P w) k fa fd [x] sp) (hbind : ∀ (s : Shared) (u : Value), BindsTo s fd ⟨[u], []⟩ [(x, u)])
  (hsp : sp [.ref a] H (fun v _ => v = .bl true) fun _ _ _ => False) (hO : Only H) (hok : HOk P w H s.heap) (only : ∀ b, H b ≠ none -> b = a) (hK : H a ≠ none -> K.lookup a = none) :
  codeAny (model P w) callerA (.call (.ref fa) ⟨[.ref a], []⟩) (fun r s' => r = .ok (.ret (.bool true)) /\ OldK s.heap s'.heap /\ s'.os = s.os /\ AllBare s'.gens) s := by
 have hin := UY KX only hK;have hn := J9 ha only hns;obtain ⟨mc, l1, l2⟩ := hlim;have e0 : Env0 P w K mg (hidT s.heap H) callerA [] s H := ⟨rfl, ⟨hin, hn, ⟨mb, J9 ha only hb, hbb⟩, ⟨mc, J9 ha only l1, l2⟩⟩, fun b o e => of_hidT e, Nat.le_of_eq (hidT_size _ _), trivial, fun b hb => absurd (show b ∈ ([] : List Addr) from hb) (by simp), hok, .of_eq hg⟩
 refine codeAny_mono ((F _ hin hn).run callerA [] s H ⟨[.ref a], []⟩ [.ref a] [.ref a] _ _ hr rfl e0 (hbind s (.ref a)) (.cons rfl .nil) hsp) fun r s' h => ?_
 match r, h with
 | .error e, z => obtain ⟨_, _, _, _, _, _, _, _, _, _, _, _, z⟩ := z; exact z.elim
 | .ok .next, z => exact z.elim
 | .ok .brk, z => exact z.elim
 | .ok .cont, z => exact z.elim
 | .ok (.ret u), ⟨v, H', os, bare, un, hok', rv, q⟩ =>
  obtain rfl : v = .bl true := q;obtain rfl : u = Value.bool true := rv;refine ⟨rfl, OldK.of_keep fun b o e => ?_, os, bare⟩
  rcases hO b with z | ⟨ob, xs, z⟩
  ·exact un.keep b o e z (by intro z; exact absurd (show b ∈ ([] : List Addr) from z) (by simp)) (by simp)
  ·obtain ⟨e1, _⟩ := hok b _ z
   obtain ⟨e2, _⟩ := hok' b _ (un.frzs b ob _ z);rw [e] at e1;cases e1;exact e2
theorem Lk {mb : Str -> Option Value} {k : Nat} {fa a : Addr} {fd : FuncData} {x : Str} {sp : Sp} {s : Shared} {vs : List Value} {ns : List Int} (KX : K.In s.heap) (hns : s.heap.Ns mainGlobals mg) (hb : s.heap.Ns builtinsNs mb) (hbb : ∀ x : Str, x ≠ "__name__" -> mb x = bootBuiltins x) (hlim : s.heap.NoLimit) (hg : s.gens = #[])
  (ha : s.heap.get? a = some { cls := .type "list", data := .seq vs.toArray }) (hi : IntsAre vs ns) (hl : ns.length <= sizeLine) (hr : Room k callerA) (F : ∀ base : Heap, K.In base -> base.Ns mainGlobals mg -> FnG P w K mg base (L2.CX P w) k fa fd [x] sp) (hbind : ∀ (s : Shared) (u : Value), BindsTo s fd ⟨[u], []⟩ [(x, u)])
  (hsp : ∀ H : Hp, Only H -> SqL K H a (ns.map V.int) -> sp [.ref a] H (fun v _ => v = .bl true) fun _ _ _ => False) :
  codeAny (model P w) callerA (.call (.ref fa) ⟨[.ref a], []⟩) (fun r s' => r = .ok (.ret (.bool true)) /\ OldK s.heap s'.heap /\ s'.os = s.os /\ AllBare s'.gens) s := by
 have rv := vals_ints hi;cases hk : K.lookup a with
 | some o =>
  obtain rfl : o = { cls := .type "list", data := .seq vs.toArray } := Option.some.inj ((KX a o hk).symm.trans ha);have hO : Only fun _ => none := fun _ => .inl rfl
  exact HK (vl := []) KX hns hb hbb hlim hg ha hr F hbind (hsp _ hO (.inr ⟨_, vs.toArray, _, hk, rfl, rfl, rfl, by rw [tI, hi.length]; exact hl, by simpa using rv⟩)) hO (fun b u z => by cases z) (fun b z => absurd rfl z) fun z => absurd rfl z
 | none =>
  let H : Hp := fun b => if b = a then some (.frz { cls := .type "list", data := .seq vs.toArray } (.lst (ns.map V.int))) else none
  have at_ : H a = some (.frz { cls := .type "list", data := .seq vs.toArray } (.lst (ns.map V.int))) := if_pos rfl;have off : ∀ b, b ≠ a -> H b = none := fun b hb => if_neg hb
  have only : ∀ b, H b ≠ none -> b = a := fun b z => Classical.byContradiction fun q => z (off b q)
  have hO : Only H := fun b => by
   by_cases q : b = a
   ·subst q; exact .inr ⟨_, _, at_⟩
   ·exact .inl (off b q)
  refine HK (vl := []) KX hns hb hbb hlim hg ha hr F hbind (hsp H hO (.inl (.inr ⟨_, at_⟩))) hO (fun b u z => ?_) only fun _ => hk
  by_cases q : b = a
  ·subst q
   rw [at_] at z;cases z;exact ⟨ha, by rw [aP]; exact hl, vs, _, rv, ha⟩
  ·rw [off b q] at z
   cases z
end
theorem walk_g {l : PySem.W.OpenLaw} {n k : Nat} {q : Program} {loose : List Str} {XP : (Str -> Option Value) -> Heap -> Prop} {YP : World -> Heap -> Prop} {d : DefRec} {x : Str} (e1 : l.most = some n) (e2 : n <= sizeLine) (e3 : d.params.defaults = []) (e4 : Room k callerA)
  (e5 : ∀ (w : World) (mg : Str -> Option Value) (fa : Addr) (h : Heap), YP w h -> h.Ns mainGlobals mg -> mg d.name = some (.ref fa) -> ∃ (K : aD) (fd : FuncData) (sp : Sp), K.In h /\ (∀ (s : Shared) (u : Value), BindsTo s fd ⟨[u], []⟩ [(x, u)]) /\
   (∀ (H : Hp) (a : Addr) (ns : List Int), ns.length <= n -> Only H -> SqL K H a (ns.map V.int) -> sp [.ref a] H (fun v _ => v = .bl true) fun _ _ _ => False) /\ ∀ base : Heap, K.In base -> base.Ns mainGlobals mg -> FnG l.prog w K mg base (L2.CX l.prog w) k fa fd [x] sp) :
  PySem.W.WalkO q loose XP YP l.row.toRowW d [] (fun f vs => PySem.call f vs) :=
 Att.attach_call e1 e3 fun w s0 s1 mg mb fa o pm cd doc a vs ns G Y _ _ _ m1 m2 m3 m4 m5 => by
  obtain ⟨K, fd, sp, KX, hb, hs, hF⟩ := e5 w mg fa _ Y G.T.g m1;exact Lk KX G.T.g G.T.b G.T.builtins G.T.nolimit m5 m2 m3 (cA m4 e2) e4 hF hb fun H h1 h2 => hs H a ns m4 h1 h2
section
variable {X : Cx} {W : WX} {e a b c o i : Expr} {es rest : List Expr} {pos pos' p q p2 tpos apos cpos : Pos} {x y z C f : Str} {K : aD} {ma mb mc mo me mi mv : FE} {mt mu : FT} {mas : FA} {B : Addr -> Prop} {φ φ' : List Addr} {S S' : aO} {H H' : Hp} {σ : L2.St} {Q : VK} {m n : FS} {st : Stmt} {gR : List Stmt} {D : Ends} {t t1 : Tg}
theorem GN {k : Str} : ∀ {vs : List (Str × V)}, valV (iV vs) (Sum.inr k) = vs.lookup k
 | [] => rfl
 | (g, v) :: r => by
  have e : iV ((g, v) :: r) = (Sum.inr g, v) :: iV r := rfl;rw [e, eY]
  by_cases h : k = g
  ·subst h
   rw [valV_pos rfl];simp
  ·rw [valV_neg (fun q => h (Sum.inr.inj q).symm), GN, show (k == g) = false from beq_eq_false_iff_ne.mpr h]
theorem Nj {vs : List (Str × V)} : (iV vs).length = vs.length := by simp [iV]
theorem Tv {k : Str} {v : V} : ∀ {vs : List (Str × V)}, (vs.map Prod.fst).Nodup -> putK (iV vs) (Sum.inr k) v = iV (putF k v vs) := by
 have map_no : ∀ {vs : List (Str × V)}, k ∉ vs.map Prod.fst -> (iV vs).map (fun kv => if kv.1 = (Sum.inr k : Key) then (kv.1, v) else kv) = iV vs := fun {vs} h => by
  induction vs with
  | nil => rfl
  | cons g r ih =>
   simp only [aM, bJ, not_or] at h;have e : iV (g :: r) = (Sum.inr g.1, g.2) :: iV r := rfl;rw [e, aM, ih h.2, if_neg fun q => h.1 (Sum.inr.inj q).symm]
 have any_no : ∀ {vs : List (Str × V)}, ((iV vs).any fun kv => decide (kv.1 = (Sum.inr k : Key))) = decide (k ∈ vs.map Prod.fst) := fun {vs} => by
  induction vs with
  | nil => rfl
  | cons g r ih =>
   have e : iV (g :: r) = (Sum.inr g.1, g.2) :: iV r := rfl;rw [e, Ac, ih]
   by_cases q : g.1 = k
   ·simp [q]
   ·have q' : ¬ k = g.1 := fun z => q z.symm
    simp [q, q', Sum.inr.injEq]
 intro vs hn
 induction vs with
 | nil => rfl
 | cons g r ih =>
  obtain ⟨g1, g2⟩ := g;simp only [aM, List.nodup_cons] at hn;have e : iV ((g1, g2) :: r) = (Sum.inr g1, g2) :: iV r := rfl
  by_cases q : g1 = k
  ·subst q
   unfold putK putF;rw [if_pos (by rw [e, Ac]; simp), e, aM, if_pos rfl, map_no hn.1, if_pos rfl]
   rfl
  ·have ih := ih hn.2
   unfold putK at ih ⊢;unfold putF;rw [if_neg q];have e2 : iV ((g1, g2) :: putF k v r) = (Sum.inr g1, g2) :: iV (putF k v r) := rfl;rw [e2, <- ih, e, Ac, show decide ((Sum.inr g1 : Key) = Sum.inr k) = false from decide_eq_false fun z => q (Sum.inr.inj z), Bool.false_or]
   by_cases z : ((iV r).any fun kv => decide (kv.1 = (Sum.inr k : Key))) = true
   ·rw [if_pos z, if_pos z, aM, if_neg fun z => q (Sum.inr.inj z)]
   ·rw [if_neg z, if_neg z]
    rfl
theorem RepF.fsts : ∀ {fs : List (Str × Vl)} {vs : List (Str × V)}, RepF K B φ S H fs vs -> vs.map Prod.fst = fs.map Prod.fst
 | [], vs, h => by cases h; rfl
 | d :: ds, vs, ⟨v, ws, e, _, h2⟩ => by subst e; simp [RepF.fsts h2]
def rDGet : R2 := fun x y H Q => ∃ a v, x = .ref a /\ DGet H a y (some v) /\ Q v H
def dF (x y : Vl) (S : aO) : Res Vl := match x, y with
 | .cel n, .dat (.str k) => (match S[n]? with
  | some (.dct fs) => (match fs.lookup k with
   | some d => .ok d S
   | none => .stuck)
  | _ => .stuck)
 | _, _ => .stuck
theorem KP {n : Nat} {k : Str} {fs : List (Str × Vl)} {d : Vl} {v : V} (I : GInv K B φ S H) (r : RepV K B φ S H (.cel n) v) (h : S[n]? = some (.dct fs)) (hl : fs.lookup k = some d) : ∃ a u, v = .ref a /\ DGet H a (.str k) (some u) /\ RepV K B φ S H d u := by
 obtain ⟨a, rfl, h1⟩ := r;obtain ⟨vs, h2, h3⟩ := I.ok n _ a h h1;obtain ⟨u, h4, h5⟩ := h3.look hl;exact ⟨a, u, rfl, by have := DGet.k (k := Sum.inr k) h2; rw [GN, h4] at this; exact this, h5⟩
theorem Ts : fF K rDGet dF := fun {W σ B φ S H x y d e Q} I r1 r2 f => by
 unfold dF at f;split at f
 ·rename_i n k
  cases r2;split at f
  ·rename_i fs q
   split at f
   ·rename_i d' ql
    obtain ⟨a, u, rfl, g, ru⟩ := KP I r1 q ql;exact ⟨a, u, rfl, g, Fin.now f I ru⟩
   ·exact f.elim
  ·exact f.elim
 ·exact f.elim
theorem dW (hu : X.A.units + 64 < cLine) (ho : PE X o (cZ X.K W mo)) (hi : PE X i (cZ X.K W mi)) (hs : NoSl i := by intro _ _; rfl) : PE X (.Subscript o i pos) (cZ X.K W (aR dF mo mi)) := dG (pe_dget (by omega) ho hi hs) fun σ H Q h => CG Ts h
def GZ (S : aO) (x y d : Vl) : Option aO := match x, y with
 | .cel n, .dat (.str k) => (match S[n]? with
  | some (.dct fs) => if fs.length < 1000 /\ (fs.map Prod.fst).Nodup then some (S.set n (.dct (oH k d fs))) else none
  | _ => none)
 | _, _ => none
theorem Jl {x y d : Vl} {S3 : aO} {vx vy v : V} (I : GInv K B φ S H) (rx : RepV K B φ S H x vx) (ry : RepV K B φ S H y vy) (r : RepV K B φ S H d v) (h : GZ S x y d = some S3) : ∃ a H', vx = .ref a /\ DPut H a vy v H' /\ GInv K B φ S3 H' /\ Ext φ S H φ S3 H' := by
 unfold GZ at h;split at h
 ·rename_i n k
  obtain ⟨a, rfl, h1⟩ := rx;cases ry;split at h
  ·rename_i fs q
   split at h
   ·rename_i hc
    obtain ⟨hl, hn⟩ := hc;cases h;obtain ⟨vs, h4, h5⟩ := I.ok n _ a q h1;have X3 := Ext.put (H := H) (o := .dK (iV (putF k v vs))) (x := .dct (oH k d fs)) q (by simp) h1 (by simp)
    have I3 := I.put q (by simp) h1 (by simp) (x := .dct (oH k d fs)) (o := .dK (iV (putF k v vs))) ⟨putF k v vs, upd_same, (RepF.put r h5).ext X3 I⟩
    have g := DPut.k (k := Sum.inr k) (v := v) h4 (by rw [Nj, h5.len]; exact Nat.lt_trans hl (by decide))
    rw [Tv (by rw [h5.fsts]; exact hn)] at g
    exact ⟨a, _, rfl, g, I3, X3⟩
   ·cases h
  ·cases h
 ·cases h
def Ci (o i v : FE) : FS := fun ρ S => (v ρ S).toS ρ fun d S1 => (o ρ S1).toS ρ fun x S2 => (i ρ S2).toS ρ fun y S3 => match GZ S3 x y d with
 | some S4 => .next ρ S4
 | none => .stuck
theorem A7 (hu : X.A.units + 64 < cLine) (ho : PE X o (cZ X.K W mo)) (hi : PE X i (cZ X.K W mi)) (hv : PE X e (cZ X.K W mv)) (hs : swapsWith e (some (.Subscript o i pos')) pos.line X.env = pure false := by rfl) : PS X (.Assign [.Subscript o i pos'] e pos) (kP X.K W (Ci mo mi mv)) := fT (ps_dput (by omega) ho hi hv hs) fun D σ H h => by
 obtain ⟨B, φ, S, ρ, I, E, f'⟩ := h;refine cN I E f' fun φ1 S1 d1 v1 H1 I1 X1 E1 r1 f1 => cN I1 E1 f1 fun φ2 S2 d2 v2 H2 I2 X2 E2 r2 f2 => cN I2 E2 f2 fun φ3 S3 d3 v3 H3 I3 X3 E3 r3 f3 => ?_
 split at f3
 ·rename_i S4 q
  obtain ⟨a, H4, e1, g, I4, X4⟩ := Jl I3 (r2.ext X3 I2) r3 ((r1.ext X2 I1).ext X3 I2) q;exact ⟨a, H4, e1, g, f3 φ3 σ H4 I4 X4 (E3.ext X4 I3)⟩
 ·exact f3.elim
def BL (g : Vl -> Vl -> aO -> Res Vl) (o i v : FE) : FS := fun ρ S => (o ρ S).toS ρ fun x S1 => (i ρ S1).toS ρ fun y S2 => match dF x y S2 with
 | .ok u _ => (v ρ S2).toS ρ fun w S3 => (match g u w S3 with
  | .ok z S4 => (match GZ S4 x y z with
   | some S5 => .next ρ S5
   | none => .stuck)
  | _ => .stuck)
 | _ => .stuck
theorem Mz {g : Vl -> Vl -> aO -> Res Vl} {rd : R2} (s : fF K rd g) (h : kP K W (BL g mo mi mv) D σ H) : sDAug (cZ K W mo) (cZ K W mi) (cZ K W mv) rd D σ H := by
 obtain ⟨B, φ, S, ρ, I, E, f'⟩ := h;refine cN I E f' fun φ1 S1 d1 v1 H1 I1 X1 E1 r1 f1 => cN I1 E1 f1 fun φ2 S2 d2 v2 H2 I2 X2 E2 r2 f2 => ?_
 split at f2
 ·rename_i u S2' q
  unfold dF at q;split at q
  ·rename_i n k
   have r2' := r2;cases r2;split at q
   ·rename_i fs qn
    split at q
    ·rename_i d' ql
     cases q;obtain ⟨a, uv, ea, gt, ru⟩ := KP I2 (r1.ext X2 I1) qn ql;subst ea;refine ⟨a, uv, rfl, gt, cN I2 E2 f2 fun φ3 S3 d3 v3 H3 I3 X3 E3 r3 f3 => ?_⟩
     split at f3
     ·rename_i z S4 q4
      refine s (W := W) (σ := σ) I3 (ru.ext X3 I2) r3 ?_
      rw [q4];intro φ4 v4 H4 I4 X4 r4;split at f3
      ·rename_i S5 q5
       obtain ⟨a', H5, e1, g5, I5, X5⟩ := Jl I4 (((r1.ext X2 I1).ext X3 I2).ext X4 I3) ((r2'.ext X3 I2).ext X4 I3) r4 q5;cases e1;exact ⟨H5, g5, f3 φ4 σ H5 I5 (X4.trans X5) ((E3.ext X4 I3).ext X5 I4)⟩
      ·exact f3.elim
     ·exact f3.elim
    ·cases q
   ·cases q
  ·cases q
 ·exact f2.elim
def Hn : Vl -> Vl -> aO -> Res Vl
 | .dat (.int i), .dat (.int j), S => .ok (.dat (.int (i + j))) S
 | _, _, _ => .stuck
def Hk : Vl -> Vl -> aO -> Res Vl
 | .dat (.int i), .dat (.int j), S => .ok (.dat (.int (i - j))) S
 | _, _, _ => .stuck
theorem Tt : fF K rAdd Hn := fun {W σ B φ S H x y d e Q} I r1 r2 f => by
 unfold Hn at f;split at f
 ·cases r1; cases r2; exact ⟨_, _, rfl, rfl, Fin.now f I rfl⟩
 ·exact f.elim
theorem Tn : fF K rSub Hk := fun {W σ B φ S H x y d e Q} I r1 r2 f => by
 unfold Hk at f;split at f
 ·cases r1; cases r2; exact ⟨_, _, rfl, rfl, Fin.now f I rfl⟩
 ·exact f.elim
def JM (x y : Vl) (S : aO) : Res Vl := match x, y with
 | .cel n, .dat (.lst es) => (match S[n]? with
  | some (.lst ds) => if ds.length + es.length <= sizeLine then .ok (.cel n) (S.set n (.lst (ds ++ es))) else .stuck
  | _ => .stuck)
 | _, _ => .stuck
theorem N8 : fF K rExt2 JM := fun {W σ B φ S H x y d e Q} I r1 r2 f => by
 unfold JM at f;split at f
 ·rename_i n es
  obtain ⟨a, rfl, h1⟩ := r1;obtain ⟨b, zs, rfl, nb, h2, l2⟩ := r2;split at f
  ·rename_i ds q
   split at f
   ·rename_i hl
    obtain ⟨vs, h3, l3⟩ := I.ok n _ a q h1;refine ⟨a, b, vs, zs, rfl, rfl, h3, h2, by rw [l3.len, l2.len]; exact hl, ?_⟩
    exact DQ (v := .ref a) (d' := .cel n) (vs := vs) I q h1 (RepL.append l3 l2) ⟨a, rfl, h1⟩ f
   ·exact f.elim
  ·exact f.elim
 ·exact f.elim
theorem vZ {op : Operator} {g : Vl -> Vl -> aO -> Res Vl} {rd : R2} (hop : InOp X op rd) (s : fF X.K rd g) (hu : X.A.units + 64 < cLine) (ho : PE X o (cZ X.K W mo)) (hi : PE X i (cZ X.K W mi)) (hv : PE X e (cZ X.K W mv))
  (ha : ∀ ov iv new, augStore i ov iv new = (do holding [new, ov, iv] (setItem ov iv new); release [new, ov, iv] []; pure .next) := by intro _ _ _; rfl) : PS X (.AugAssign (.Subscript o i tpos) op e pos) (kP X.K W (BL g mo mi mv)) := fT (ps_daug (by omega) ho hi hv hop ha) fun D σ H h => Mz s h
theorem J4 : InOp X .Add rExt2 := fun pins s σ H x y u v Q I rx ry h => iop_ext pins s σ H x y u v Q I rx ry h
end
section
variable {X : Cx} {W : WX} {e a b c o i : Expr} {es rest : List Expr} {pos pos' p q p2 tpos apos cpos : Pos} {x y z C f : Str} {K : aD} {ma mb mc mo me mi mv : FE} {mt mu : FT} {mas : FA} {B : Addr -> Prop} {φ φ' : List Addr} {S S' : aO} {H H' : Hp} {σ : L2.St} {Q : VK} {m n : FS} {st : Stmt} {gR : List Stmt} {D : Ends} {t t1 : Tg}
def Sd (K : aD) : V -> Hp -> VK -> Prop := fun x H Q => ∃ d : PyData, Dp K H x d /\ d.showable = true /\ d.hasDict = false /\ isDisplay d = true /\ d.depth <= 64 /\ d.shown.length <= sizeLine /\ Q (.str d.shown) H
theorem MF (hgd : X.A.guards = some []) (hu : X.A.units + 100 < cLine) : CallR X (.type "str") (c1 (Sd X.K)) := by
 intro pins s σ H xs us Q I rv h
 match xs, h with
 | [x], h =>
  obtain ⟨d, hd, h1, h2, h3, h4, h5, q⟩ := h;cases rv with
  | cons ru rn =>
   cases rn;obtain ⟨as, r1⟩ := Dp.reads I d x _ hd ru;obtain ⟨a, rfl⟩ := isRef_of_reads r1 h3;exact str_of_reads r1 h1 (PyData.noDict_hsm h2) hgd (by omega) (fun _ _ e => e) (fun h' u tk hk => ⟨.str d.shown, H, I.kept hk, ⟨u, rfl⟩, q⟩) h5
def Dm (x : Vl) (S : aO) : Res Vl := match uZ S x with
 | some d => if d.showable = true /\ d.hasDict = false /\ isDisplay d = true /\ d.depth <= 64 /\ d.shown.length <= sizeLine then .ok (.dat (.str d.shown)) S else .stuck
 | none => .stuck
theorem s_str : G9 K (Sd K) Dm := fun {W σ B φ S H x d Q} I r f => by
 unfold Dm at f;split at f
 ·rename_i p hp
  split at f
  ·rename_i h
   exact ⟨p, pM I hp r, h.1, h.2.1, h.2.2.1, h.2.2.2.1, h.2.2.2.2, Fin.now f I rfl⟩
  ·exact f.elim
 ·exact f.elim
theorem VH (hm : X.mg "str" = none) (hr : X.A.units + 100 < cLine) (hgd : X.A.guards = some []) (ha : PE X a (cZ X.K W ma)) (hg : Gl X "str" := by rfl) (hs : starEach [a] X.env = [(false, eval a X.env)] := by rfl) : PE X (.Call (.Name "str" p) [a] [] pos) (cZ X.K W (m1 Dm ma)) :=
 dG (pe_callTy (MF hgd hr) hg hm (by decide +kernel) (pa_cons ha pa_nil hs) (he := hs)) fun σ H Q h => Af s_str h
def rInT : R2 := fun x y H Q => ∃ i j, x = .str i /\ y = .str j /\ Q (.bl (!(Builtin.Str.occurrences j i 0 j.length 1).isEmpty)) H
def Ov : Vl -> Vl -> aO -> Res Vl
 | .dat (.str i), .dat (.str j), S => .ok (.dat (.bl (!(Builtin.Str.occurrences j i 0 j.length 1).isEmpty))) S
 | _, _, _ => .stuck
theorem s_inT : fF K rInT Ov := fun {W σ B φ S H x y d e Q} I r1 r2 f => by
 unfold Ov at f;split at f
 ·cases r1; cases r2; exact ⟨_, _, rfl, rfl, Fin.now f I rfl⟩
 ·exact f.elim
def O0 (ds : List PyData) (d : PyData) : Option Nat := (aX ds.length).find? fun j => match ds[j]? with
 | some z => PyData.eqv z d
 | none => false
def yH (x y : Vl) (S : aO) : Res Vl := match uZ S x, uZ S y with
 | some (.list ds), some d => if SeqAt.shaped (.list ds) = true /\ SeqAt.shaped d = true then (match O0 ds d with
   | some j => .ok (.dat (.int (j : Int))) S
   | none => .stuck) else .stuck
 | _, _ => .stuck
theorem Ll {ds : List PyData} {d : PyData} {j : Nat} (h : O0 ds d = some j) : ∃ z, ds[j]? = some z /\ PyData.eqv z d = true /\ ∀ (m : Nat) (z' : PyData), m < j -> ds[m]? = some z' -> PyData.eqv z' d = false := by
 unfold O0 at h;obtain ⟨h1, as, bs, h2, h3⟩ := Dg.mp h;cases q : ds[j]? with
 | none => rw [q] at h1; cases h1
 | some z =>
  rw [q] at h1;refine ⟨z, rfl, h1, fun m z' hm hz => ?_⟩
  have hj : j < ds.length := (aI.mp q).1;have la : as.length = j := by
   have e : (aX ds.length)[as.length]? = some j := by rw [h2]; simp
   rw [aI] at e;obtain ⟨_, e⟩ := e
   simpa using e
  have hma : m ∈ as := by
   have e : (aX ds.length)[m]? = (as ++ j :: bs)[m]? := by rw [h2]
   rw [lJ (by omega), aN (by omega)] at e
   exact bN e.symm
  have := h3 m hma;rw [hz] at this
  simpa using this
def U9 (a b : FE) : FE := fun ρ S => (a ρ S).bind fun x S1 => match oW S1 x with
 | some _ => (b ρ S1).bind fun y S2 => yH x y S2
 | none => .stuck
theorem Rc (hu : X.A.units + 65 < cLine) (ha : PE X a (cZ X.K W ma)) (hb : PE X b (cZ X.K W mb)) (hs : starEach [b] X.env = (false, eval b X.env) :: starEach [] X.env := by rfl) (hbase : attributeBase a "index" X.env (eval a X.env) = eval a X.env := by rfl) (hline : (apos.endLine == cpos.line) = true := by rfl)
  (hfew : ((backTo cpos (starEach [b] X.env)).all (fun x => !x.1) && (backToKw cpos (keywordEach [] X.env)).all (fun x => x.1.isSome)
   && decide ([b].length + ([] : List Keyword).length + (if ([] : List Keyword).isEmpty then 0 else 1) < 30)) = true := by rfl)
  (hpl : (backTo cpos (starEach ([] : List Expr) X.env)).any (·.1) = false := by rfl) : PE X (.Call (.Attribute a "index" apos) [b] [] cpos) (cZ X.K W (U9 ma mb)) :=
 dG (pe_bm PySem.F.plainAttrs_list PySem.F.slot_list_index PySem.F.type_list_index (mt_indexD hu) ha (pa_cons hb pa_nil hs) hbase hfew hline hs hpl) fun σ H Q h =>
  cU (k := fun x ρ S1 => match oW S1 x with | some _ => (mb ρ S1).bind fun y S2 => yH x y S2 | none => .stuck) h fun B φ S ρ d v H1 I E r f => by
   split at f
   ·rename_i ds q
    refine ⟨PR (e := d) I r ⟨ds, q⟩, kU I E f fun φ' S' d2 v2 H2 I2 X2 E2 r2 f2 => ?_⟩
    obtain ⟨a, vs, rfl, _, _⟩ := lZ I q r;have r' := r.ext X2 I;unfold yH at f2;split at f2
    ·rename_i ps pd h1 h2
     split at f2
     ·rename_i hc
      split at f2
      ·rename_i j hj
       obtain ⟨z, g1, g2, g3⟩ := Ll hj;exact ⟨a, v2, pd, ps, j, z, rfl, rfl, pM I2 h1 r', pM I2 h2 r2, hc.1, hc.2, g1, g2, g3, Fin.now f2 I2 rfl⟩
      ·exact f2.elim
     ·exact f2.elim
    ·exact f2.elim
   ·exact f.elim
theorem Kp.plusPutD {a : Addr} {acc : List (Key × V)} {o : HO} (ha : H a = some (.dK acc)) : Kp (lI (kF B a) φ S) H (lI (kF B a) φ S) (upd H a o) :=
 ⟨fun b o' h n => ⟨by
  rw [upd_ne]
  ·exact h
  ·intro e; subst e; exact n (.inl (.inr rfl)), n⟩, fun b w h => by
  have ne : b ≠ a := fun e => by
   subst e;rcases h with h | ⟨o', h⟩
   ·rw [ha] at h; cases h
   ·rw [ha] at h; cases h
  rcases h with h | ⟨o', h⟩
  ·exact .inl (by rw [upd_ne ne]; exact h)
  ·exact .inr ⟨o', by rw [upd_ne ne]; exact h⟩⟩
theorem RepV.plusPutD {a : Addr} {acc : List (Key × V)} {o : HO} (ha : H a = some (.dK acc)) {d : Vl} {v : L2.V} (r : RepV K (kF B a) φ S H d v) : RepV K (kF B a) φ S (upd H a o) d v := by
 have k := Kp.plusPutD (B := B) (φ := φ) (S := S) (o := o) ha;cases d with
 | dat d => exact Rep.kp k d v r
 | cel n => exact r
 | cels ns => obtain ⟨a', as, e1, e2, e3, e4⟩ := r; exact ⟨a', as, e1, (k.old _ _ e3 e2).2, (k.old _ _ e3 e2).1, e4⟩
 | scr ns =>
  obtain ⟨a', e1, e2⟩ := r;refine ⟨a', e1, e2.keep fun o u h => ?_⟩
  rw [upd_ne]
  ·exact h
  ·intro e; subst e; rw [ha] at h; cases h
 | tc xs => obtain ⟨a', vs, e1, e2, e3⟩ := r; exact ⟨a', vs, e1, SqT.kp k.tup e2, e3.kp k (fun _ _ h => h)⟩
theorem RepF.plusPutD {a : Addr} {acc : List (Key × V)} {o : HO} (ha : H a = some (.dK acc)) : ∀ {fs : List (Str × Vl)} {vs : List (Str × L2.V)}, RepF K (kF B a) φ S H fs vs -> RepF K (kF B a) φ S (upd H a o) fs vs
 | [], vs, r => r
 | f :: fs, vs, ⟨v, ws, e, h1, h2⟩ => ⟨v, ws, e, h1.plusPutD ha, RepF.plusPutD ha h2⟩
theorem GInv.plusPutD {a : Addr} {acc : List (Key × V)} {o : HO} (I : GInv K (kF B a) φ S H) (ha : H a = some (.dK acc)) : GInv K (kF B a) φ S (upd H a o) where
 len := I.len
 ok := fun n c b h1 h2 => by
  have q := I.ok n c b h1 h2;have k := Kp.plusPutD (B := B) (φ := φ) (S := S) (o := o) ha;have hb : c ≠ .dead -> upd H a o b = H b := fun hc => upd_ne fun e => by
   subst e;exact I.blk b ⟨n, c, h1, hc, h2⟩ (.inr rfl)
  cases c with
  | dead => trivial
  | lst ds => obtain ⟨vs, e, r⟩ := q; exact ⟨vs, by rw [hb (by simp)]; exact e, RepL.kp k ds vs r⟩
  | ins C fs => obtain ⟨dx, vs, e, r⟩ := q; exact ⟨dx, vs, by rw [hb (by simp)]; exact e, r.plusPutD ha⟩
  | dct fs => obtain ⟨vs, e, r⟩ := q; exact ⟨vs, by rw [hb (by simp)]; exact e, r.plusPutD ha⟩
  | lv xs => obtain ⟨vs, e, r⟩ := q; exact ⟨vs, by rw [hb (by simp)]; exact e, dQ (RepV.plusPutD ha) r⟩
  | dki ks xs => obtain ⟨vs, e, r⟩ := q; exact ⟨vs, by rw [hb (by simp)]; exact e, dQ (RepV.plusPutD ha) r⟩
  | dkt ks xs => obtain ⟨vs, e, r⟩ := q; exact ⟨vs, by rw [hb (by simp)]; exact e, dQ (RepV.plusPutD ha) r⟩
 inj := I.inj
 blk := I.blk
 btr := fun b h => by
  by_cases e : b = a
  ·subst e; exact ⟨o, upd_same⟩
  ·obtain ⟨u, h1⟩ := I.btr b h
   exact ⟨u, by rw [upd_ne e]; exact h1⟩
section
variable {x : Cell} {p : Addr}
theorem cellK (I : GInv K (kF B p) φ S H) : Kp (lI (kF B p) φ S) H (lI B (φ ++ [p]) (S ++ [x])) H := ⟨fun b o h n => ⟨h, fun q => n (by
 rcases q with q | q
 ·exact .inl (.inl q)
 ·rcases (lR I.len).mp q with q | ⟨_, q⟩
  ·exact .inr q
  ·exact .inl (.inr q))⟩, fun _ _ h => h⟩
theorem KU (I : GInv K (kF B p) φ S H) {d : Vl} {v : L2.V} (r : RepV K (kF B p) φ S H d v) : RepV K B (φ ++ [p]) (S ++ [x]) H d v := by
 have k := cellK (x := x) I;have hφ : ∀ (n : Nat) (b : Addr), φ[n]? = some b -> (φ ++ [p])[n]? = some b := fun n b h => by rw [aN (aI.mp h).1]; exact h
 cases d with
 | dat d => exact Rep.kp k d v r
 | cel n => obtain ⟨b, e1, e2⟩ := r; exact ⟨b, e1, hφ _ _ e2⟩
 | cels ns => obtain ⟨a', as, e1, e2, e3, e4⟩ := r; exact ⟨a', as, e1, (k.old _ _ e3 e2).2, e3, zO hφ ns as e4⟩
 | scr ns => exact r
 | tc xs => obtain ⟨a', vs, e1, e2, e3⟩ := r; exact ⟨a', vs, e1, SqT.kp k.tup e2, e3.kp k hφ⟩
theorem KW (I : GInv K (kF B p) φ S H) : ∀ {fs : List (Str × Vl)} {vs : List (Str × L2.V)}, RepF K (kF B p) φ S H fs vs -> RepF K B (φ ++ [p]) (S ++ [x]) H fs vs
 | [], vs, r => r
 | f :: fs, vs, ⟨v, ws, e, h1, h2⟩ => ⟨v, ws, e, KU I h1, KW I h2⟩
theorem GInv.toCell (I : GInv K (kF B p) φ S H) (nB : ¬ B p) (hx : GD K B (φ ++ [p]) (S ++ [x]) H x p) : GInv K B (φ ++ [p]) (S ++ [x]) H where
 len := by simp [I.len]
 ok := fun n c b h1 h2 => by
  have k := cellK (x := x) I
  by_cases hn : n < S.length
  ·rw [aN hn] at h1
   rw [aN (by rw [I.len]; exact hn)] at h2
   have q := I.ok n c b h1 h2;cases c with
   | dead => trivial
   | lst es => obtain ⟨us, e, r⟩ := q; exact ⟨us, e, RepL.kp k es us r⟩
   | ins C fs => obtain ⟨dx, us, e, r⟩ := q; exact ⟨dx, us, e, KW I r⟩
   | dct fs => obtain ⟨us, e, r⟩ := q; exact ⟨us, e, KW I r⟩
   | lv xs => obtain ⟨us, e, r⟩ := q; exact ⟨us, e, dQ (KU I) r⟩
   | dki ks xs => obtain ⟨us, e, r⟩ := q; exact ⟨us, e, dQ (KU I) r⟩
   | dkt ks xs => obtain ⟨us, e, r⟩ := q; exact ⟨us, e, dQ (KU I) r⟩
  ·have e : n = S.length := by
    have := (aI.mp h1).1;simp at this;omega
   subst e;rw [bD (bX _)] at h1;rw [<- I.len, bD (bX _)] at h2;simp at h1 h2;subst h1 h2;exact hx
 inj := fun n m c c' b h1 h2 h3 h4 h5 h6 => by
  have na : ¬ nA φ S p := fun q => I.blk p q (.inr rfl)
  have key : ∀ (n : Nat) (c : Cell), (S ++ [x])[n]? = some c -> (n < S.length /\ S[n]? = some c) \/ n = S.length := fun n c h => by
   by_cases hn : n < S.length
   ·rw [aN hn] at h; exact .inl ⟨hn, h⟩
   ·have := (aI.mp h).1
    simp at this;exact .inr (by omega)
  have kφ : ∀ n : Nat, n < S.length -> (φ ++ [p])[n]? = φ[n]? := fun n hn => aN (by rw [I.len]; exact hn)
  have kp : (φ ++ [p])[S.length]? = some p := by rw [<- I.len]; simp
  rcases key n c h1 with ⟨hn, e1⟩ | e1 <;> rcases key m c' h3 with ⟨hm, e2⟩ | e2
  ·rw [kφ n hn] at h5
   rw [kφ m hm] at h6;exact I.inj n m c c' b e1 h2 e2 h4 h5 h6
  ·subst e2
   rw [kp] at h6;cases h6;rw [kφ n hn] at h5;exact absurd ⟨n, c, e1, h2, h5⟩ na
  ·subst e1
   rw [kp] at h5;cases h5;rw [kφ m hm] at h6;exact absurd ⟨m, c', e2, h4, h6⟩ na
  ·omega
 blk := fun b h => by
  rcases (lR I.len).mp h with h | ⟨_, h⟩
  ·exact fun q => I.blk b h (.inl q)
  ·subst h; exact nB
 btr := fun b h => I.btr b (.inl h)
end
def mH : List (Str × FE) -> Ev -> aO -> Res (List (Str × Vl))
 | [], _, S => .ok [] S
 | k :: r, ρ, S => (k.2 ρ S).bind fun v S1 => (mH r ρ S1).bind fun fs S2 => .ok ((k.1, v) :: fs) S2
def Lh (ks : List (Str × FE)) : FE := fun ρ S => match mH ks ρ S with
 | .ok fs S1 => if (fs.map Prod.fst).Nodup /\ fs.length <= 15 then .ok (.cel S1.length) (S1 ++ [.dct fs]) else .stuck
 | _ => .stuck
theorem E7 : ∀ {ks : List (Str × FE)} {φ : List Addr} {S S1 : aO} {H : Hp} {ρ : Ev} {fs : List (Str × Vl)} {Q : List (V × V) -> Hp -> Prop}, GInv K B φ S H -> RepE K B φ S H ρ σ -> mH ks ρ S = .ok fs S1 -> (∀ φ1 vs H1, GInv K B φ1 S1 H1 -> Ext φ S H φ1 S1 H1 -> RepF K B φ1 S1 H1 fs vs -> Q (vs.map fun p => (V.str p.1, p.2)) H1) ->
  tPairs (ks.map fun k => (cZ K wNo (mC (.str k.1)), cZ K wNo k.2)) σ H Q
 | [], φ, S, S1, H, ρ, fs, Q, I, E, h, q => by cases h; exact q φ [] H I Ext.refl rfl
 | k :: r, φ, S, S1, H, ρ, fs, Q, I, E, h, q => by
  unfold mH at h;cases e1 : k.2 ρ S with
  | stuck => rw [e1] at h; cases h
  | err x S' => rw [e1] at h; cases h
  | ok v S2 =>
   rw [e1] at h;cases e2 : mH r ρ S2 with
   | stuck => rw [show (Res.ok v S2).bind (fun v S1 => (mH r ρ S1).bind fun fs S2 => Res.ok ((k.1, v) :: fs) S2) = (mH r ρ S2).bind fun fs S3 => Res.ok ((k.1, v) :: fs) S3 from rfl, e2] at h; cases h
   | err x S' => rw [show (Res.ok v S2).bind (fun v S1 => (mH r ρ S1).bind fun fs S2 => Res.ok ((k.1, v) :: fs) S2) = (mH r ρ S2).bind fun fs S3 => Res.ok ((k.1, v) :: fs) S3 from rfl, e2] at h; cases h
   | ok fs' S3 =>
    rw [show (Res.ok v S2).bind (fun v S1 => (mH r ρ S1).bind fun fs S2 => Res.ok ((k.1, v) :: fs) S2) = (mH r ρ S2).bind fun fs S3 => Res.ok ((k.1, v) :: fs) S3 from rfl, e2] at h
    cases h;refine ⟨B, φ, S, ρ, I, E, fun φ0 kv H0 I0 X0 r0 => ?_⟩
    obtain rfl : kv = V.str k.1 := r0;refine ⟨B, φ0, S, ρ, I0, E.ext X0 I, ?_⟩
    rw [e1];intro φ2 v2 H2 I2 X2 r2;refine E7 I2 ((E.ext X0 I).ext X2 I0) e2 fun φ3 vs H3 I3 X3 r3 => ?_
    exact q φ3 ((k.1, v2) :: vs) H3 I3 ((X0.trans X2).trans X3) ⟨v2, vs, rfl, r2.ext X3 I2, r3⟩
theorem HA : ∀ {ys xs : List (Str × V)}, ((xs ++ ys).map Prod.fst).Nodup -> mergeK (iV xs) (iV ys) = iV (xs ++ ys)
 | [], xs, _ => by rw [cX]; rfl
 | y :: r, xs, h => by
  have hn : ∀ k ∈ iV xs, k.1 ≠ Sum.inr y.1 := fun k hk q => by
   obtain ⟨u, hu, rfl⟩ := nR.mp hk;have e : u.1 = y.1 := Sum.inr.inj q;rw [cR, aM, List.nodup_append] at h;exact h.2.2 _ (MU hu) _ (aV ..) e
  have ep : putK (iV xs) (Sum.inr y.1) y.2 = iV (xs ++ [y]) := by
   unfold putK;rw [if_neg]
   ·simp [iV]
   ·intro q
    obtain ⟨k, hk, e⟩ := List.any_eq_true.mp q;exact hn k hk (of_decide_eq_true e)
  have ih := HA (ys := r) (xs := xs ++ [y]) (by rw [dN]; exact h)
  rw [dN] at ih
  show mergeK (putK (iV xs) (Sum.inr y.1) y.2) (iV r) = iV (xs ++ y :: r)
  rw [ep, ih];rfl
theorem Q7 {ks : List (Str × FE)} (h : cZ K W (Lh ks) σ H Q) : tDisp (ks.map fun k => (cZ K wNo (mC (.str k.1)), cZ K wNo k.2)) σ H Q := by
 obtain ⟨B, φ, S, ρ, I, E, f⟩ := h;intro p hp;unfold Lh at f;cases e : mH ks ρ S with
 | stuck => rw [e] at f; exact f.elim
 | err x S' => rw [e] at f; exact f.elim
 | ok fs S1 =>
  rw [e] at f;dsimp only at f;split at f
  ·rename_i hc
   have nB : ¬ B p := fun q => by obtain ⟨u, e⟩ := I.btr p q; rw [hp] at e; cases e
   have IA : GInv K (kF B p) φ S (upd H p (.dK [])) := I.plus hp;refine E7 IA (E.plus I hp) e fun φ1 vs H1 I1 X1 r1 => ?_
   have hp1 : H1 p = some (.dK []) := (X1.old p _ upd_same fun q => IA.blk p q (.inr rfl)).1
   have I2 : GInv K (kF B p) φ1 S1 (upd H1 p (.dK (iV vs))) := I1.plusPutD hp1;have r2 : RepF K (kF B p) φ1 S1 (upd H1 p (.dK (iV vs))) fs vs := r1.plusPutD hp1;refine ⟨hp1, iV vs, by simp [iV, kV], by rw [Nj, r1.len]; exact hc.2, ?_⟩
   have em : mergeK [] (iV vs) = iV vs := by
    have := HA (xs := []) (ys := vs) (by rw [bQ, r1.fsts]; exact hc.1)
    exact this
   rw [em];refine f (φ1 ++ [p]) (.ref p) _ (I2.toCell nB ⟨vs, upd_same, KW I2 r2⟩) ⟨fun b o hb nb => ?_, fun n b hb => ?_⟩ ⟨p, rfl, by rw [<- I1.len]; exact oN⟩
   ·have ne : b ≠ p := fun q => by subst q; rw [hp] at hb; cases hb
    obtain ⟨h1, h2⟩ := X1.old b o (by rw [upd_ne ne]; exact hb) nb
    refine ⟨by rw [upd_ne ne]; exact h1, fun q => ?_⟩
    rcases (lR I1.len).mp q with q | ⟨_, q⟩
    ·exact h2 q
    ·exact ne q
   ·have := X1.ids n b hb
    rw [aN (aI.mp this).1]; exact this
  ·exact f.elim
theorem Ra : PPs X pos [] [] (([] : List (Str × FE)).map fun k => (cZ X.K wNo (mC (.str k.1)), cZ X.K wNo k.2)) := pps_nil
theorem qL {k : Str} {ek v : Expr} {ks : List (Option Expr)} {vs : List Expr} {mv : FE} {r : List (Str × FE)} (hk : PE X ek (cZ X.K wNo (mC (.str k)))) (hv : PE X v (cZ X.K wNo mv)) (hr : PPs X pos ks vs (r.map fun k => (cZ X.K wNo (mC (.str k.1)), cZ X.K wNo k.2))) :
  PPs X pos (some ek :: ks) (v :: vs) (((k, mv) :: r).map fun k => (cZ X.K wNo (mC (.str k.1)), cZ X.K wNo k.2)) := pps_cons hk hv hr
theorem VL {keys : List (Option Expr)} {values : List Expr} {r : List (Str × FE)} (h : PPs X pos keys values (r.map fun k => (cZ X.K wNo (mC (.str k.1)), cZ X.K wNo k.2))) (hall : keys.all (·.isSome) = true := by rfl) (hl : keys.length = values.length := by rfl) (h0 : keys ≠ [] := by simp) (h15 : keys.length <= 15 := by decide) : PE X (.Dict keys values pos) (cZ X.K W (Lh r)) :=
 dG (pe_disp h hall hl h0 h15) fun σ H Q h => Q7 h
end
theorem st_hu {k : Nat} {A : Around} (r : Room k A) : A.units + 100 < cLine := by have := r.un; omega
section
variable {o i v a b : FE} {ρ : Ev} {S : aO} {x y d u w : Vl} {g : Vl -> Vl -> aO -> Res Vl}
def vX (ρ : Ev) (d x y : Vl) (S : aO) : Out := match GZ S x y d with
 | some S4 => .next ρ S4
 | none => .stuck
def Iu (i : FE) (ρ : Ev) (d x : Vl) (S : aO) : Out := (i ρ S).toS ρ (vX ρ d x)
def Nn (o i : FE) (ρ : Ev) (d : Vl) (S : aO) : Out := (o ρ S).toS ρ (Iu i ρ d)
theorem V8 : Ci o i v ρ S = (v ρ S).toS ρ (Nn o i ρ) := rfl
theorem OV : Nn o i ρ d S = (o ρ S).toS ρ (Iu i ρ d) := rfl
theorem OU : Iu i ρ d x S = (i ρ S).toS ρ (vX ρ d x) := rfl
def Fl (g : Vl -> Vl -> aO -> Res Vl) (ρ : Ev) (x y u w : Vl) (S : aO) : Out := match g u w S with
 | .ok z S4 => (match GZ S4 x y z with
  | some S5 => .next ρ S5
  | none => .stuck)
 | _ => .stuck
def vY (g : Vl -> Vl -> aO -> Res Vl) (v : FE) (ρ : Ev) (x y : Vl) (S : aO) : Out := match dF x y S with
 | .ok u _ => (v ρ S).toS ρ (Fl g ρ x y u)
 | _ => .stuck
def Np (g : Vl -> Vl -> aO -> Res Vl) (i v : FE) (ρ : Ev) (x : Vl) (S : aO) : Out := (i ρ S).toS ρ (vY g v ρ x)
theorem V9 : BL g o i v ρ S = (o ρ S).toS ρ (Np g i v ρ) := rfl
theorem OW : Np g i v ρ x S = (i ρ S).toS ρ (vY g v ρ x) := rfl
def kIdx (b : FE) (ρ : Ev) (x : Vl) (S : aO) : Res Vl := match oW S x with
 | some _ => (b ρ S).bind (yH x)
 | none => .stuck
theorem g_idx : U9 a b ρ S = (a ρ S).bind (kIdx b ρ) := rfl
theorem Uy {ds : List PH.D} : kIdx b ρ (.dat (.lst ds)) S = (b ρ S).bind (yH (.dat (.lst ds))) := rfl
theorem g_inT {z y : Str} : Ov (.dat (.str z)) (.dat (.str y)) S = .ok (.dat (.bl (!(Builtin.Str.occurrences y z 0 y.length 1).isEmpty))) S := rfl
theorem Az {n : Nat} {k : Str} {fs : List (Str × Vl)} (h : S[n]? = some (.dct fs)) (hl : fs.length < 1000) (hn : (fs.map Prod.fst).Nodup) : GZ S (.cel n) (.dat (.str k)) d = some (S.set n (.dct (oH k d fs))) := by
 unfold GZ;dsimp only;rw [h];exact if_pos ⟨hl, hn⟩
theorem mQ {n : Nat} {k : Str} {fs : List (Str × Vl)} (h : S[n]? = some (.dct fs)) (hl : fs.lookup k = some d) : dF (.cel n) (.dat (.str k)) S = .ok d S := by
 unfold dF;dsimp only;rw [h];dsimp only;rw [hl]
end
def tH := aF @V8 (aF @OV (aF @OU (aF @V9 (aF @OW (aF @g_idx (aF @Uy @g_inT))))))
def isNone {α : Type} : Option α -> Bool
 | none => true
 | some _ => false
end PH
namespace L2
open PySem PySem.Spec PyProof.Rows GenW
section
variable {prog : Program} {w : World} {A : Around} {E : Value -> Shared -> Prop} {s : Shared}
theorem sJ {it l : Addr} {i : Nat} {items : Array Value} {x : Value} {Q : Option Value -> Shared -> Prop} (hit : s.heap.get? it = some (GNX.itObj l i)) (hl : s.heap.IsList l items) (hx : items[i]? = some x)
  (hQ : ∀ h', h'.get? it = some (GNX.itObj l (i + 1)) -> Heap.SameBut it s.heap h' -> Q (some x) { s with heap := h' }) : wpAny (model prog w) A (callSpecial? (.ref it) "__next__") Q E s :=
 wpAny_callSpecial?_slot (name := Str.ofString "__next__") (show s.heap.IsListIter it l i from ⟨_, hit, rfl, rfl⟩).typeIs slot_listiter_next
  (wpAny_call_entry slot_listiter_next (show s.heap.IsListIter it l i from ⟨_, hit, rfl, rfl⟩).typeIs entry_listiter_next (GNX.next_item hit hl hx fun h' e sb => hQ h' e sb) (args_listiter_next _))
theorem uQ {it l : Addr} {i : Nat} {items : Array Value} {Q : Option Value -> Shared -> Prop} (hh : A.handled = none) (ho : s.heap.get? it = some (GNX.itObj l i)) (hl : s.heap.IsList l items) (hx : items[i]? = none)
  (hE : ∀ e h', StopX e h' -> Heap.ExtBut it s.heap h' -> E e { s with heap := h' }) : wpAny (model prog w) A (callSpecial? (.ref it) "__next__") Q E s := by
 obtain ⟨ol, hol, _, nl, hdl⟩ := hl;refine wpAny_callSpecial?_slot (name := Str.ofString "__next__") (show s.heap.IsListIter it l i from ⟨_, ho, rfl, rfl⟩).typeIs slot_listiter_next (wpAny_call_entry slot_listiter_next (show s.heap.IsListIter it l i from ⟨_, ho, rfl, rfl⟩).typeIs entry_listiter_next ?_ (args_listiter_next _))
 show wpAny _ _ (field (.ref it) 0 >>= _) _ _ s
 refine wpAny_bind (wpAny_field ho rfl (x := .ref l) rfl ?_)
 show wpAny _ _ (if (Value.ref l == Value.none) = true then _ else _) _ _ s
 rw [if_neg (show ¬ ((Value.ref l == Value.none) = true) from fZ)]
 show wpAny _ _ (field (.ref it) 1 >>= _) _ _ s
 refine wpAny_bind (wpAny_field ho rfl (x := .int i 0) rfl ?_)
 show wpAny _ _ (seqItems? (.ref l) >>= _) _ _ s
 refine wpAny_bind (wpAny_seqItems hol hdl ?_)
 simp only [gX, hx];refine wpAny_bind (wpAny_rule (wpAny_bind (wpAny_setField ho rfl (by simp) ?_)))
 show wpAny _ _ (newExc (.type "StopIteration") [] >>= _) _ _ _
 refine wpAny_bind ?_
 simp only [newExc, newTuple];refine wpAny_bind (wpAny_newObj_type ?_ (by size_fits))
 refine wpAny_bind (m := firstArgMember _ _) (wpAny_of_eq (a := Value.none) (by first | rfl | (simp only [firstArgMember]; rfl)) ?_)
 refine wpAny_newObj_type ?_ (by size_fits)
 simp only [raiseNew];refine wpAny_bind (wpAny_handled ?_)
 first | rw [show A.in1.handled = none from hh] | rw [hh]
 refine wpAny_bind (wpAny_pure (wpAny_throw ?_))
 refine hE _ _ ⟨_, _, _, rfl, Heap.get?_push_size _ rfl, rfl, rfl, ?_⟩ (((Heap.SameBut.update ..).extBut.push _).push _)
 first
  | rfl
  | (rw [Array.getElem?_append_left (by decide)]; rfl)
  | kernel_rfl
end
def Tc (te : TE) : TYf := fun σ H Q => te σ H fun x H1 => ∃ a xs, x = .ref a /\ H1 a = some (.lst xs) /\ Q xs H1
theorem FB : typeLookup (.type "list_iterator") "close" = pure none := by rw [typeLookup_type, builtinLookup_eq_fast]; kernel_rfl
section
variable {X : Cx} {e : Expr} {te : TE}
theorem TU (he : PE X e te) : YfE X e (Tc te) := by
 refine ⟨fun pins s σ H Q I h => ?_⟩
 refine thn (he.run pins s σ H _ I h) fun v s1 ⟨x, H1, I1, r1, a, xs, ex, ha, hq⟩ => ?_
 subst ex;obtain rfl : v = Value.ref a := r1;obtain ⟨its, rits, ht, hlen⟩ := I1.list (.inl (.inl ha));have hl := ht.isList;refine ⟨"list", hl.typeIs, by decide, wpAny_pyIter_list hl ?_⟩
 have ksz : ∀ b o, s1.heap.get? b = some o -> b ≠ s1.heap.objs.size := fun b o e => C4 (Heap.lt_size e)
 have kp : ∀ b o, s1.heap.get? b = some o -> (s1.heap.push (GNX.itObj a 0)).get? b = some o := fun b o e => Heap.get?_push_of_some _ e
 have hne : a ≠ s1.heap.objs.size := by obtain ⟨o, ho, _⟩ := hl; exact ksz a o ho
 refine ⟨s1.heap.objs.size, H1, xs, fun j h => h.get? s1.heap.objs.size = some (GNX.itObj a j) /\ h.IsList a its.toArray, rfl, I1.kept (t' := s1.toks) kp, .inr I1.sz, C5 I1.lt, fun y c hy => ?_, I1.hok.fresh (bX _), fun p hp => ?_,
  ⟨Heap.get?_push_size _ rfl, hl.push _⟩, ⟨⟨"list_iterator", fun j h q => ⟨_, q.1, rfl⟩, FB, by decide⟩, fun j h h' q hk => ?_, fun A' j x s2 Q' E' hA hx q hQ => ?_, fun A' s2 Q' E' hA q hE => ?_⟩, hq⟩
 ·obtain ⟨v, o, ho, _⟩ := I1.cell y c hy
  exact ksz c o ho
 ·exact ksz p.1 _ (I1.pin p hp).1
 ·obtain ⟨q1, o2, ho2, r2⟩ := q
  exact ⟨hk _ _ (.inl rfl) q1, o2, hk _ o2 (.inr (by rw [ha]; exact fun z => by cases z)) ho2, r2⟩
 ·obtain ⟨q1, q2⟩ := q
  obtain ⟨u, hu, ru⟩ := rits.get hx;exact sJ q1 q2 (x := u) (by simpa using hu) fun h' q1' hs => hQ u h' s2.toks ru ⟨q1', q2.extBut hs.extBut hne⟩ fun b o hb eb => hs.extBut b o hb eb
 ·obtain ⟨q1, q2⟩ := q
  have hnone : its.toArray[xs.length]? = none := by
   have e := rits.length;have e2 : its[xs.length]? = none := gO.mpr (by omega)
   simpa using e2
  exact uQ hA q1 q2 hnone fun e h' hS hk => hE e h' s2.toks hS fun b o hb eb => hk b o hb eb
end
end L2
namespace PH
open PySem PySem.Spec PyProof.Rows L2
abbrev Dd := Ev -> aO -> Res (List PH.D)
abbrev Ds := List Vl -> aO -> Res (List PH.D)
section
variable {X : Cx} {W : WX} {e a : Expr} {es : List Expr} {rest gR : List Stmt} {st : Stmt} {pos p yp : Pos} {x kw : Str} {K : aD} {ma me : FE} {mas : FA} {B : Addr -> Prop} {φ φ' : List Addr} {S S' : aO} {H H' : Hp} {σ : L2.St} {Q : VK} {m : FS} {n : Dd}
def FinG (K : aD) (D : GEnds) (B : Addr -> Prop) (φ : List Addr) (S : aO) (H : Hp) (r : Res (List PH.D)) : Prop := match r with
 | .ok zs S' => ∀ φ' ws σ' H', GInv K B φ' S' H' -> Ext φ S H φ' S' H' -> RepL K (lI B φ' S') H' zs ws -> D.nx ws σ' H'
 | _ => False
theorem FinG.ext {D : GEnds} {r : Res (List PH.D)} (f : FinG K D B φ S H r) (e : Ext φ S H φ' S' H') : FinG K D B φ' S' H' r := by
 cases r with
 | ok d S1 => exact fun φ1 v σ1 H1 I1 X r => f φ1 v σ1 H1 I1 (e.trans X) r
 | err x S1 => exact f
 | stuck => exact f
def rdG (K : aD) (W : WX) (m : Dd) : TGn := fun D ys σ H => ys = [] /\ ∃ B φ S ρ, GInv K B φ S H /\ RepE K B φ S H ρ σ /\ FinG K D B φ S H (m ρ S)
theorem Kf {t u : TGn} (h : GSs X gR t) (i : ∀ D ys σ H, u D ys σ H -> t D ys σ H) : GSs X gR u :=
 ⟨fun A S ip R n ys s₀ c fs K J gd lv s σ H D g hn k hI ht => h.run A S ip R n ys s₀ c fs K J gd lv s σ H D g hn k hI (i D ys σ H ht)⟩
def EV (m : FS) (n : Dd) : Dd := fun ρ S => match m ρ S with
 | .next ρ' S' => n ρ' S'
 | _ => .stuck
theorem Fx (a : PS X st (kP X.K W m)) (b : GSs X rest (rdG X.K W n)) : GSs X (st :: rest) (rdG X.K W (EV m n)) := Kf (gss_cons (gs_ps a) b) fun D ys σ H h => by
 obtain ⟨rfl, B, φ, S, ρ, I, E, f⟩ := h;refine ⟨B, φ, S, ρ, I, E, ?_⟩
 unfold EV at f;cases q : m ρ S with
 | next ρ' S' => rw [q] at f; exact fun φ' σ' H' I' X' E' => ⟨rfl, B, φ', S', ρ', I', E', FinG.ext f X'⟩
 | ret d S' => rw [q] at f; exact f.elim
 | brk ρ' S' => rw [q] at f; exact f.elim
 | cnt ρ' S' => rw [q] at f; exact f.elim
 | err e' ρ' S' => rw [q] at f; exact f.elim
 | stuck => rw [q] at f; exact f.elim
def Sq (x : Vl) (S : aO) : Res (List PH.D) := match x with
 | .dat (.lst zs) => if zs.length <= 1000000 then .ok zs S else .stuck
 | _ => .stuck
def U5 (me : FE) : Dd := fun ρ S => (me ρ S).bind Sq
theorem fg_yf (he : PE X e (cZ X.K W me)) (hc : X.A.handled = none) (hi : interactive X.env = false := by rfl) : GSs X [.Expr (.YieldFrom e yp) pos] (rdG X.K W (U5 me)) := Kf (gss_cons (gs_yieldFrom (TU he) hc hi) gss_nil) fun D ys σ H h => by
 obtain ⟨rfl, B, φ, S, ρ, I, E, f⟩ := h;refine ⟨B, φ, S, ρ, I, E, ?_⟩
 unfold U5 at f;cases q : me ρ S with
 | stuck => rw [q] at f; exact f.elim
 | err x' S' => rw [q] at f; exact f.elim
 | ok x' S' =>
  rw [q] at f;intro φ' v H' I' X' r;have f : FinG X.K D B φ S H (Sq x' S') := f;unfold Sq at f;split at f
  ·rename_i zs
   split at f
   ·rename_i hz
    obtain ⟨b, ws, rfl, nb, hb, rl⟩ := r;refine ⟨b, ws, rfl, hb, ?_, ?_⟩
    ·have := rl.len
     show 0 + ws.length <= sizeLine
     rw [this, kZ];exact cA hz (by decide)
    ·show D.nx ([] ++ ws) σ H'
     rw [bQ];exact f φ' ws σ H' I' X' rl
   ·exact f.elim
  ·exact f.elim
def spG (K : aD) (md : Ds) : SpG := fun vs H Q E => ∃ B φ S ds, GInv K B φ S H /\ RepVs K B φ S H ds vs /\ match md ds S with
 | .ok zs S' => ∀ φ' ws H', GInv K B φ' S' H' -> Ext φ S H φ' S' H' -> RepL K (lI B φ' S') H' zs ws -> Q ws H'
 | _ => False
def Dk (n np : Nat) (mb : Dd) : Ds := fun ds S => if ds.length = np then mb (envOf n ds) S else .stuck
def A2 (md : Ds) (ds : List Vl) (d : Vl) (S2 : aO) : Res Vl := match md (ds ++ [d]) S2 with
 | .ok zs S3 => .ok (.dat (.lst zs)) S3
 | _ => .stuck
end
section
variable {ρ : Ev} {S : aO} {m : FS} {n : Dd} {me ma : FE} {mas : FA} {md : Ds}
def Sw (n : Dd) (o : Out) : Res (List PH.D) := match o with
 | .next ρ' S' => n ρ' S'
 | _ => .stuck
theorem V3 : EV m n ρ S = Sw n (m ρ S) := rfl
theorem g_yf : U5 me ρ S = (me ρ S).bind Sq := rfl
end
end PH
namespace L2
open PySem PySem.Spec PyProof.Rows GenW
abbrev Be := End -> Shared -> Prop
def dP (M : Model) (A : Around) (F : Be) (c : Code) (t : Sem PySem.Fin) (fs : List Frame) (s : Shared) : Prop :=
 ∀ Γ p, Γ.code = c -> Γ.Woken A -> ∃ e s', Runs M Γ p t fs s e s' /\ F e s'
section
variable {M : Model} {A : Around} {F F' : Be} {c : Code} {t : Sem PySem.Fin} {fs : List Frame} {s : Shared}
theorem wO {α : Type} {m : Sem α} {K : α -> Sem PySem.Fin} {J : Value -> Sem PySem.Fin} {gd : Bool -> Bool} {lv : List Value -> List Value}
  (h : wpAny M (A.over c fs) m (fun a s' => dP M A F c (K a) fs s') (fun x s' => dP M A F c (J x) fs s') s) : dP M A F c (m.wrap K J gd lv) fs s := by
 rintro Γ p rfl hΓ
 exact runs_wrap_of_wp K J gd lv m (h (Γ.over fs) p (hΓ.over fs)) (fun a p' s' q => q Γ p' rfl hΓ) (fun x p' s' q => q Γ p' rfl hΓ)
theorem fU {α : Type} {m : Sem α} {K : α -> Sem PySem.Fin} (h : wpAny M (A.over c fs) m (fun a s' => dP M A F c (K a) fs s') (fun x s' => dP M A F c (.raise x) fs s') s) : dP M A F c (m >>= K) fs s := by
 rw [Sem.bind_eq_wrap']; exact wO h
theorem CC {α β : Type} {m : Sem α} {f : α -> Sem β} {K : β -> Sem PySem.Fin} {J : Value -> Sem PySem.Fin} {gd : Bool -> Bool} {lv : List Value -> List Value}
  (h : wpAny M (A.over c fs) m (fun a s' => dP M A F c ((f a).wrap K J gd lv) fs s') (fun x s' => dP M A F c (J x) fs s') s) : dP M A F c ((m >>= f).wrap K J gd lv) fs s := by
 rw [Sem.bind_eq_wrap', Sem.wrap_wrap]; exact wO h
theorem Ku {α β γ : Type} {m : Sem α} {f : α -> Sem β} {f2 : β -> Sem γ} {K : γ -> Sem PySem.Fin} {J : Value -> Sem PySem.Fin} {gd : Bool -> Bool} {lv : List Value -> List Value}
  (h : wpAny M (A.over c fs) m (fun a s' => dP M A F c ((f a).wrap (fun b => (f2 b).wrap K J gd lv) J gd lv) fs s') (fun x s' => dP M A F c (J x) fs s') s) : dP M A F c (((m >>= f) >>= f2).wrap K J gd lv) fs s := by
 rw [Sem.bind_eq_wrap' (m >>= f) f2, Sem.wrap_wrap]; exact CC h
theorem SS {p' : Pos} {k : Unit -> Sem PySem.Fin} (h : dP M A F c (k ()) fs s) : dP M A F c (.at p' k) fs s :=
 wO (m := standAt p') (K := k) (J := .raise) (gd := id) (lv := id) (wpAny_standAt h)
theorem Mj {l : List Value} {k : Unit -> Sem PySem.Fin} (h : dP M A F c (k ()) fs s) : dP M A F c (.point l k) fs s :=
 wO (m := point) (K := k) (J := .raise) (gd := id) (lv := fun _ => l) (wpAny_point h)
theorem Px {c' : Code} {g : Bool} {l : List Value} {k : Result -> Sem PySem.Fin} (hc : ∀ p, dP M A F c' (M.den c') (.ret k none g l c p [] :: fs) s) : dP M A F c (.call c' none g l k) fs s := by
 rintro Γ p rfl hΓ
 obtain ⟨e, s', hr, he⟩ := hc p (Γ.goto c') p rfl (hΓ.goto c');exact ⟨e, s', runs_call_seg hr, he⟩
theorem Jf {k : Result -> Sem PySem.Fin} {g : Bool} {l kp : List Value} {c₁ : Code} {p₁ : Pos} (r : Result) (hk : dP M A F c₁ (k r) fs s) : dP M A F c (leafOf r) (.ret k none g l c₁ p₁ kp :: fs) s := by
 rintro Γ p rfl hΓ
 obtain ⟨e, s', hr, he⟩ := hk (Γ.goto c₁) p₁ rfl (hΓ.goto c₁);exact ⟨e, s', Runs.pop r hr, he⟩
theorem Mm {c' : Code} (hq : c'.quiet = true) (hc : dP M A F c' (M.den c') fs s) : dP M A F c (.pure (.again c')) fs s := by
 rintro Γ p rfl hΓ
 obtain ⟨e, s', hr, he⟩ := hc (Γ.goto c') p rfl (hΓ.goto c');exact ⟨e, s', Runs.head (c₁ := c') (fun _ _ x => .again hq x) hr, he⟩
theorem Ml (r : Result) (h : F (.ret r) s) : dP M A F c (leafOf r) [] s := by
 rintro Γ p rfl _
 exact ⟨.ret r, s, Runs.leaf r, h⟩
theorem Mi {v : Value} {g : Bool} {l : List Value} {k : Resume -> Sem PySem.Fin} (hfs : splitAtGen fs = none) (h : ∀ p, F (.susp v g l k c p fs) s) : dP M A F c (.yield v g l k) fs s := by
 rintro Γ p rfl _
 exact ⟨_, s, Runs.yield' fs hfs, h p⟩
def Ke (M : Model) (A : Around) (F : Be) (gs : GenState) (s : Shared) : Prop := match gs with
 | .fresh c => dP M A F c (M.den c) [] s
 | .suspended k _ c _ fs _ => dP M A F c (k (.send .none)) fs s
 | _ => False
theorem Dh {E : Value -> Shared -> Prop} {g : Nat} {gs : GenState} {l : List Value} {α : Type} {k : GenResult -> Sem α} {Q : α -> Shared -> Prop} (hg : s.gens[g]? = some gs)
  (hgo : Ke M A F gs (s.setGen g .running)) (hF : ∀ e s₁, F e s₁ -> e.quiet = true /\ wpAny M A (k e.result) Q E (s₁.setGen g e.genState)) : wpAny M A (.resume g (.send .none) l k) Q E s := by
 intro Γ p hΓ;rw [Sem.wp_resume];have hB : ∀ c, (Γ.wake c p).Woken A := fun c => hΓ.wake c p
 cases gs with
 | fresh c =>
  obtain ⟨e₁, s₁, hr, he⟩ := hgo (Γ.wake c p) p rfl (hB c);exact ⟨_, _, by unfold Wakes; rw [hg]; exact ⟨e₁, s₁, hr, (hF e₁ s₁ he).1, rfl, rfl⟩, (hF e₁ s₁ he).2 Γ p hΓ⟩
 | suspended k₀ l₀ c₀ p₀ fs₀ cl =>
  obtain ⟨e₁, s₁, hr, he⟩ := hgo (Γ.wake c₀ p) p₀ rfl (hB c₀);exact ⟨_, _, by unfold Wakes; rw [hg]; exact ⟨e₁, s₁, hr, (hF e₁ s₁ he).1, rfl, rfl⟩, (hF e₁ s₁ he).2 Γ p hΓ⟩
 | running => exact hgo.elim
 | finished => exact hgo.elim
end
section
variable {P : Program} {w : World} {A : Around} {E : Value -> Shared -> Prop} {s : Shared}
def NextT (P : Program) (w : World) (a : Addr) (g : Nat) (Q : Option Value -> Shared -> Prop) (E : Value -> Shared -> Prop) (e : End) (s₁ : Shared) : Prop := match e with
 | .ret r => ((r = .ok (.ret .none) \/ r = .ok .next) /\ ∀ h', (∀ b o, s₁.heap.get? b = some o -> h'.get? b = some o) -> Q none { s₁.setGen g .finished with heap := h' }) \/
   ∃ x, r = .error x /\ s₁.heap.IsGen a g /\ NotStop (model P w) x s₁.heap /\ E x (s₁.setGen g .finished)
 | .susp v g0 l k c p fs => (End.susp v g0 l k c p fs).quiet = true /\ Q (some v) (s₁.setGen g (End.susp v g0 l k c p fs).genState)
theorem NU {a : Addr} {g : Nat} {gs : GenState} {F : Be} {Q : Option Value -> Shared -> Prop} (hh : A.handled = none)
  (hl : s.heap.NoLimit) (hroom : A.depth < recursionLimit) (hg : s.heap.IsGen a g) (hgs : s.gens[g]? = some gs)
  (hgo : Ke (model P w) A.in1 F gs (s.setGen g .running)) (hF : ∀ e s₁, F e s₁ -> NextT P w a g Q E e s₁) : wpAny (model P w) A (pyNext (.ref a)) Q E s := by
 unfold pyNext;refine wpAny_bind (wpAny_attempt (wpAny_callSpecial?_slot (name := Str.ofString "__next__") hg.typeIs slot_gen_next (wpAny_call_entry slot_gen_next hg.typeIs entry_gen_next ?_ (args_gen_next _))))
 show wpAny _ A.in1 (Builtin.Generator.genWake (.ref a) (.send .none)) _ _ s
 unfold Builtin.Generator.genWake;refine wpAny_bind (wpAny_holding (wpAny_genNumber hg (wpAny_bind (wpAny_genState hgs ?_))))
 cases gs with
 | running => exact hgo.elim
 | finished => exact hgo.elim
 | _ =>
  refine wpAny_bind (wpAny_roomToWake hl hroom ?_)
  show wpAny _ A.in1 (.resume g (.send .none) [] _) _ _ s
  refine Dh hgs hgo (fun e s₁ hx => ?_)
  have hn := hF e s₁ hx;cases e with
  | susp v g0 l k c p fs =>
   obtain ⟨q, hv⟩ := hn;exact ⟨q, wpAny_pure ⟨v, rfl, wpAny_pure hv⟩⟩
  | ret x =>
   refine ⟨rfl, ?_⟩
   rcases hn with ⟨hr, hp⟩ | ⟨e, rfl, hg1, hns, hq⟩
   ·have hres : End.result (.ret x) = .returned .none := by
     rcases hr with hr | hr <;> rw [hr] <;> rfl
    first | rw [hres] | simp only [hres]
    show wpAny _ A.in1 (newExc (.type "StopIteration") [] >>= _) _ _ _
    refine wpAny_bind ?_
    simp only [newExc, newTuple];refine wpAny_bind (wpAny_newObj_type ?_ (by size_fits))
    refine wpAny_bind (m := firstArgMember _ _) (wpAny_of_eq (a := Value.none) (by first | rfl | (simp only [firstArgMember]; rfl)) ?_)
    refine wpAny_newObj_type ?_ (by size_fits)
    simp only [raiseNew];refine wpAny_bind (wpAny_bind (wpAny_handled ?_))
    first | rw [show A.in1.handled = none from hh] | rw [hh]
    refine wpAny_throw ?_
    refine wpAny_bind (wpAny_isInstance (T := "StopIteration") (b := true) ⟨_, Heap.get?_push_size _ rfl, rfl⟩ isSubtype_stop ?_)
    exact wpAny_pure (hp _ fun b o hb => Heap.get?_push_of_some _ (Heap.get?_push_of_some _ hb))
   ·obtain ⟨o, nm, qn, ho, hc, hd, hsl⟩ := hg1
    show wpAny _ A.in1 (Builtin.Generator.genLeft (.ref a) e) _ _ _
    unfold Builtin.Generator.genLeft Builtin.Generator.madeByALambda;refine wpAny_bind (wpAny_bind (wpAny_load (o := o) ho (wpAny_pure ?_)))
    refine wpAny_bind (hns _ _ _ _ rfl ?_)
    rw [Bool.and_false, if_neg fZ];unfold Builtin.Generator.genEscaped
    first
     | refine wpAny_bind (hns _ _ _ _ rfl ?_)
     | refine wpAny_bind (wpAny_pure (wpAny_bind (hns _ _ _ _ rfl ?_)))
    rw [if_pos (show (!false) = true from rfl)]
    first
     | refine wpAny_throw ?_
     | refine wpAny_bind (wpAny_throw ?_)
    refine wpAny_bind (hns _ _ _ _ rfl ?_)
    rw [if_neg fZ];exact wpAny_throw hq
end
def KB (it : Addr) (s s' : Shared) : Prop := s'.os = s.os /\ s'.gens = s.gens /\ ∀ b o, b ≠ it -> s.heap.get? b = some o -> s'.heap.get? b = some o
def FR (M : Model) (A : Around) (it a : Addr) (its : Array Value) : Nat -> Shared -> Be
 | 0, s => fun e s' => e = .ret (.ok (.ret .none)) /\ KB it s s'
 | r + 1, s => fun e s' => match e with
  | .ret _ => False
  | .susp v g l k c p fs => (End.susp v g l k c p fs).quiet = true /\ its[its.size - (r + 1)]? = some v /\ KB it s s' /\ s'.heap.get? it = some (GNX.itObj a (its.size - r)) /\
    ∀ s'' : Shared, s''.heap.get? it = some (GNX.itObj a (its.size - r)) -> s''.heap.IsList a its -> dP M A (FR M A it a its r s'') c (k (.send .none)) fs s''
abbrev IL (it : Addr) : Code := .builtin "proto.yield_from" ⟨[.ref it, .bool false, .none], []⟩
section
variable {P : Program} {w : World} {A : Around} {F : Be} {fs : List Frame} {s : Shared} {it a : Addr} {its : Array Value} {j : Nat} {x : Value}
theorem KQ {it : Value} : (model P w).den (.builtin "proto.yield_from" ⟨[it, .bool false, .none], []⟩) = Builtin.«proto.yield_from» ⟨[it, .bool false, .none], []⟩ := by
 show (match entryFor table "proto.yield_from" with | some b => b ⟨[it, .bool false, .none], []⟩ | none => unsupported ((withoutEnding? "proto.yield_from" "#data").getD "proto.yield_from")) = _
 rw [entry_yf]
theorem Iz : typeLookup (.type "list_iterator") "close" = pure none := FB
theorem Jc (hsp : splitAtGen fs = none) (hgd : fs.any Frame.guarded = false) (hit : s.heap.get? it = some (GNX.itObj a j)) (hl : s.heap.IsList a its) (hx : its[j]? = some x)
  (hF : ∀ h' l k p, h'.get? it = some (GNX.itObj a (j + 1)) -> Heap.SameBut it s.heap h' -> (End.susp x false l k (IL it) p fs).quiet = true ->
   (∀ (F' : Be) (s'' : Shared), s''.heap.get? it = some (GNX.itObj a (j + 1)) -> dP (model P w) A F' (IL it) ((model P w).den (IL it)) fs s'' -> dP (model P w) A F' (IL it) (k (.send .none)) fs s'') ->
   F (.susp x false l k (IL it) p fs) { s with heap := h' }) :
  dP (model P w) A F (IL it) ((model P w).den (IL it)) fs s := by
 rw [KQ];unfold Builtin.«proto.yield_from»
 try dsimp only
 refine fU (wpAny_pure ?_)
 try dsimp only
 refine fU (wpAny_attempt (wpAny_holding ?_))
 rw [if_neg fZ, if_pos (show (Value.none == Value.none) = true from rfl)]
 refine wpAny_bind (wpAny_rule (wpAny_bind ?_))
 refine sJ hit hl hx fun h' q1 hs => ?_
 refine wpAny_pure ?_
 try dsimp only
 refine fU (wpAny_typeOf (T := "list_iterator") ⟨_, q1, rfl⟩ ?_)
 try dsimp only
 first
  | (refine fU (wpAny_of_eq Iz ?_); refine fU (wpAny_pure ?_))
  | refine fU (wpAny_bind (wpAny_of_eq Iz (wpAny_pure ?_)))
  | refine fU (wpAny_of_eq Iz ?_)
 try dsimp only
 refine fU (wpAny_sleptOver q1 rfl (by decide) ?_)
 refine Mi hsp fun p => ?_
 refine hF h' _ _ p q1 hs (by simp [End.quiet, hgd]) fun F' s'' q2 hd => ?_
 show dP _ _ _ _ (Builtin.Generator.sleptOver (.ref it) false >>= fun _ => _) fs s''
 refine fU (wpAny_sleptOver q2 rfl (by decide) ?_)
 try dsimp only
 refine fU (wpAny_pure ?_)
 exact Mm (plainId_quiet plain_yf _) hd
theorem MW (ho : (A.over (IL it) fs).handled = none) (hit : s.heap.get? it = some (GNX.itObj a j)) (hl : s.heap.IsList a its) (hx : its[j]? = none)
  (hF : ∀ h', (∀ b o, b ≠ it -> s.heap.get? b = some o -> h'.get? b = some o) -> dP (model P w) A F (IL it) (.pure (.done (.ret .none))) fs { s with heap := h' }) :
  dP (model P w) A F (IL it) ((model P w).den (IL it)) fs s := by
 rw [KQ];unfold Builtin.«proto.yield_from»
 try dsimp only
 refine fU (wpAny_pure ?_)
 try dsimp only
 refine fU (wpAny_attempt (wpAny_holding ?_))
 rw [if_neg fZ, if_pos (show (Value.none == Value.none) = true from rfl)]
 refine wpAny_bind (wpAny_rule (wpAny_bind ?_))
 refine uQ ho hit hl hx fun e h' hS hk => ?_
 obtain ⟨c, o, vs, rfl, hoa, hcls, hdat, h5⟩ := hS
 try dsimp only
 refine fU (wpAny_endsTurn hoa hcls ?_)
 try dsimp only
 rw [if_pos rfl]
 first
  | refine fU (wpAny_rule ?_)
  | (rw [if_neg fZ]; refine fU (wpAny_rule ?_))
  | (rw [if_neg fZ]; refine fU (wpAny_pure ?_); refine fU (wpAny_rule ?_))
 refine fU (wpAny_field hoa hdat h5 ?_)
 exact hF h' fun b o hb e => hk b o hb e
theorem Pr (hsp : splitAtGen fs = none) (hgd : fs.any Frame.guarded = false) (ho : (A.over (IL it) fs).handled = none)
  (hfin : ∀ (F' : Be) (s' : Shared), F' (.ret (.ok (.ret .none))) s' -> dP (model P w) A F' (IL it) (.pure (.done (.ret .none))) fs s') :
  ∀ (r : Nat), r <= its.size -> ∀ s : Shared, s.heap.get? it = some (GNX.itObj a (its.size - r)) -> s.heap.IsList a its -> dP (model P w) A (FR (model P w) A it a its r s) (IL it) ((model P w).den (IL it)) fs s := by
 intro r
 induction r with
 | zero =>
  intro _ s hit hl;refine MW ho hit hl (by simp) fun h' hk => hfin _ _ ⟨rfl, rfl, rfl, hk⟩
 | succ r ih =>
  intro hr s hit hl;have hj : its.size - (r + 1) < its.size := by omega
  obtain ⟨x, hx⟩ : ∃ x, its[its.size - (r + 1)]? = some x := ⟨its[its.size - (r + 1)], by simp [hj]⟩
  have e : its.size - (r + 1) + 1 = its.size - r := by omega
  refine Jc hsp hgd hit hl hx fun h' l k p q1 hs hq hres => ?_
  rw [e] at q1 hres;exact ⟨hq, hx, ⟨rfl, rfl, fun b o hb eb => hs.extBut b o hb eb⟩, q1, fun s'' q2 hl2 => hres _ s'' q2 (ih (by omega) s'' q2 hl2)⟩
theorem Pw {body : List Stmt} {env : Env}
  (h : dP (model P w) A F (.func body env) ((execs body env).wrap (fun f => .pure (.done (.ret (match f with | .ret v => v | _ => .none)))) (fun e => (leaving env e).wrap (fun _ => .raise e) .raise id id) id id) fs s) :
  dP (model P w) A F (.func body env) ((model P w).den (.func body env)) fs s := by
 show dP _ A F _ (.point [] fun _ => ((execs body env).onRaise (leaving env)) >>= _) fs s
 refine Mj ?_
 rw [Sem.onRaise_eq_wrap, Sem.bind_eq_wrap', Sem.wrap_wrap];rw [Sem.wrap_congr (execs body env) _ _ (K' := fun f => .pure (.done (.ret (match f with | .ret v => v | _ => .none)))) (H' := fun e => (leaving env e).wrap (fun _ => .raise e) .raise id id) (fun f => by cases f <;> rfl)
  (fun e => by rw [Sem.bind_eq_wrap, Sem.wrap_wrap]; rfl)]
 exact h
end
structure GCt (X : Cx) (A : Around) (c : Code) (fs : List Frame) (gd : Bool -> Bool) : Prop where
 over : A.over c fs = X.A
 split : splitAtGen fs = none
 guard : fs.any Frame.guarded = false
 gd : gd false = false
abbrev TQ := Addr -> List V -> Hp -> Prop
structure GKt (X : Cx) (A : Around) (F : Be) (c : Code) (fs : List Frame) (K : Flow -> Sem PySem.Fin) (J : Value -> Sem PySem.Fin) (Q : TQ) : Prop where
 exc : ∀ (x : Value) (s : Shared), X.xe x s -> dP (model X.prog X.w) A F c (J x) fs s
 fin : ∀ (F' : Be) (s : Shared), F' (.ret (.ok (.ret .none))) s -> dP (model X.prog X.w) A F' c (K .next) fs s
 end0 : ∀ (a : Addr) (σ : St) (H : Hp) (s : Shared), Inv X [] σ H s -> H a = some (.lst []) -> Q a [] H -> F (.ret (.ok (.ret .none))) s
 first : ∀ (v : Value) (l : List Value) (k : Resume -> Sem PySem.Fin) (c' : Code) (p : Pos) (fs' : List Frame) (it a : Addr) (its : Array Value) (ws : List V) (σ : St) (H : Hp) (s : Shared), (End.susp v false l k c' p fs').quiet = true -> Inv X [] σ H s -> H a = some (.lst ws) ->
  s.heap.IsList a its -> X.s_0.heap.objs.size <= it -> H it = none -> s.heap.get? it = some (GNX.itObj a 1) -> its[0]? = some v -> Q a ws H ->
  (∀ s'' : Shared, s''.heap.get? it = some (GNX.itObj a 1) -> s''.heap.IsList a its -> dP (model X.prog X.w) A (FR (model X.prog X.w) A it a its (its.size - 1) s'') c' (k (.send .none)) fs' s'') -> F (.susp v false l k c' p fs') s
abbrev TY := TQ -> St -> Hp -> Prop
structure YSs (X : Cx) (gR : List Stmt) (t : TY) : Prop where
 run : ∀ (A : Around) (F : Be) (c : Code) (fs : List Frame) (K : Flow -> Sem PySem.Fin) (J : Value -> Sem PySem.Fin) (gd : Bool -> Bool) (lv : List Value -> List Value) (s : Shared) (σ : St) (H : Hp) (Q : TQ), GCt X A c fs gd -> GKt X A F c fs K J Q -> Inv X [] σ H s -> t Q σ H ->
  dP (model X.prog X.w) A F c ((execs gR X.env).wrap K J gd lv) fs s
section
variable {X : Cx} {st : Stmt} {rest : List Stmt} {e : Expr} {te : TE} {yp pos : Pos}
theorem Kc {t u : TY} (h : YSs X rest t) (i : ∀ Q σ H, u Q σ H -> t Q σ H) : YSs X rest u := ⟨fun A F c fs K J gd lv s σ H Q g k I q => h.run A F c fs K J gd lv s σ H Q g k I (i Q σ H q)⟩
theorem Pq {t : TS} {u : TY} (a : PS X st t) (b : YSs X rest u) : YSs X (st :: rest) (fun Q σ H => t { nx := fun σ' H' => u Q σ' H', rt := fun _ _ => False } σ H) := by
 refine ⟨fun A F c fs K J gd lv s σ H Q g k I q => ?_⟩
 rw [execs_cons_wrap];refine wO ?_
 rw [g.over];refine wpAny_mono (a.run [] s σ H _ I q) (fun f s' hs => ?_) fun x s' hx => k.exc x s' hx
 cases f with
 | next =>
  obtain ⟨σ', H', I', q'⟩ := hs;exact b.run A F c fs K J gd lv s' σ' H' Q g k I' q'
 | brk => obtain ⟨_, _, _, q'⟩ := hs; exact q'.elim
 | cont => obtain ⟨_, _, _, q'⟩ := hs; exact q'.elim
 | ret u => obtain ⟨_, _, _, _, _, q'⟩ := hs; exact q'.elim
theorem ys_yf (he : PE X e te) (hc : X.A.handled = none) (hi : interactive X.env = false := by rfl) : YSs X [.Expr (.YieldFrom e yp) pos] (fun Q σ H => te σ H fun x H1 => ∃ a xs, x = .ref a /\ H1 a = some (.lst xs) /\ Q a xs H1) := by
 refine ⟨fun A F c fs K J gd lv s σ H Q g k I ht => ?_⟩
 rw [execs_cons_wrap, exec_Expr X.env _ pos hi rfl]
 show dP _ _ _ c (.at pos fun _ => ((eval e X.env >>= fun v => (standAt yp >>= fun _ => yieldFrom X.env v)) >>= fun x => dropValue (.YieldFrom e yp) pos x).wrap _ J gd lv) fs s
 refine SS ?_
 refine Ku ?_
 rw [g.over];refine wpAny_mono (he.run [] s σ H _ I ht) (fun v s1 hv => ?_) fun x s' hx => k.exc x s' hx
 obtain ⟨x, H1, I1, r1, a, xs, ex, ha, hq⟩ := hv;subst ex;obtain rfl : v = Value.ref a := r1;obtain ⟨its, rits, ht, hlen⟩ := I1.list (.inl (.inl ha));have hl := ht.isList;have hne' : ¬ ((Value.type "list" == Value.type "coroutine") = true) := by decide
 refine SS ?_
 show dP _ _ _ c ((yieldFrom X.env (.ref a)).wrap (fun b => (dropValue (.YieldFrom e yp) pos b).wrap _ J gd lv) J gd lv) fs s1
 unfold yieldFrom;refine CC (wpAny_typeOf hl.typeIs ?_)
 rw [if_neg hne'];refine CC (wpAny_holding ?_)
 rw [g.over];refine wpAny_pyIter_list hl ?_
 refine Px fun p => ?_
 have ksz : ∀ b o, s1.heap.get? b = some o -> b ≠ s1.heap.objs.size := fun b o e => C4 (Heap.lt_size e)
 have kp : ∀ b o, s1.heap.get? b = some o -> (s1.heap.push (GNX.itObj a 0)).get? b = some o := fun b o e => Heap.get?_push_of_some _ e
 have I2 : Inv X [] σ H1 { s1 with heap := s1.heap.push (GNX.itObj a 0) } := I1.kept (t' := s1.toks) kp
 have hit : (s1.heap.push (GNX.itObj a 0)).get? s1.heap.objs.size = some (GNX.itObj a 0) := Heap.get?_push_size _ rfl
 have hl2 : (s1.heap.push (GNX.itObj a 0)).IsList a its.toArray := hl.push _;have hn : H1 s1.heap.objs.size = none := I1.hok.fresh (bX _);have turned : ∀ h', Heap.SameBut s1.heap.objs.size (s1.heap.push (GNX.itObj a 0)) h' -> Inv X [] σ H1 { s1 with heap := h' } := fun h' hs =>
  Inv.turned (s := { s1 with heap := s1.heap.push (GNX.itObj a 0) }) I2 (t' := s1.toks) (it := s1.heap.objs.size) (fun b o hb eb => hs.extBut b o hb eb) hn (C5 I1.lt) (.inr I1.sz) (fun y c hy => by
   obtain ⟨v, o, ho, _⟩ := I1.cell y c hy;exact ksz c o ho) fun p hp => ksz p.1 _ (I1.pin p hp).1
 have sp2 : ∀ F : Frame -> Frame, True := fun _ => trivial
 have hlen2 : its.toArray.size = xs.length := by
  have := rits.length;simp only [tI];omega
 have hsplit : ∀ (kk : Result -> Sem PySem.Fin) (l : List Value), splitAtGen (.ret kk none (gd false) l c p [] :: fs) = none := fun kk l => by
  show (splitAtGen fs).map _ = none
  rw [g.split]; rfl
 have hguard : ∀ (kk : Result -> Sem PySem.Fin) (l : List Value), (Frame.ret kk none (gd false) l c p [] :: fs).any Frame.guarded = false := fun kk l => by
  show (gd false || fs.any Frame.guarded) = false
  rw [g.gd, g.guard]; rfl
 have hhand : ∀ (kk : Result -> Sem PySem.Fin) (l : List Value), (A.over (IL s1.heap.objs.size) (.ret kk none (gd false) l c p [] :: fs)).handled = none := fun kk l => by
  show (A.over c fs).handled = none
  rw [g.over]; exact hc
 by_cases hz : xs = []
 ·subst hz
  refine MW (a := a) (its := its.toArray) (j := 0) (hhand _ _) hit hl2 (Array.getElem?_eq_none (by rw [hlen2]; exact bX 0)) fun h' hk => ?_
  refine Jf (.ok (.ret .none)) (k.fin F _ (k.end0 a σ H1 _ ?_ ha hq))
  refine Inv.turned (s := { s1 with heap := s1.heap.push (GNX.itObj a 0) }) I2 (t' := s1.toks) (it := s1.heap.objs.size) (fun b o hb eb => hk b o hb eb) hn (C5 I1.lt) (.inr I1.sz) (fun y c hy => by
   obtain ⟨v, o, ho, _⟩ := I1.cell y c hy;exact ksz c o ho) fun p hp => ksz p.1 _ (I1.pin p hp).1
 ·have hpos : 0 < its.toArray.size := by
   rw [hlen2];cases xs with
   | nil => exact absurd rfl hz
   | cons _ _ => simp
  obtain ⟨x, hx⟩ : ∃ x, its.toArray[0]? = some x := ⟨its.toArray[0], by simp [hpos]⟩
  refine Jc (a := a) (its := its.toArray) (j := 0) (hsplit _ _) (hguard _ _) hit hl2 hx fun h' l kk p' q1 hs hq' hres => ?_
  have hne : a ≠ s1.heap.objs.size := by obtain ⟨o, ho, _⟩ := hl; exact ksz a o ho
  refine k.first x l kk _ p' _ s1.heap.objs.size a its.toArray xs σ H1 _ hq' (turned h' hs) ha ?_ I1.sz hn q1 hx hq fun s'' q2 hl3 => ?_
  ·exact hl2.extBut hs.extBut hne
  ·refine hres _ s'' q2 (Pr (hsplit _ _) (hguard _ _) (hhand _ _) (fun F' s' hF' => Jf (.ok (.ret .none)) (k.fin F' s' hF')) (its.toArray.size - 1) (Nat.sub_le _ _) s'' ?_ hl3)
   have : its.toArray.size - (its.toArray.size - 1) = 1 := by omega
   rw [this]; exact q2
end
def VZ (P : Program) (w : World) (A : Around) (outer : List Env) (H : Hp) (sc : Shared) (Q : TQ) (E : XK) (ga : Addr) (g : Nat) : Be := fun e s' => match e with
 | .ret r => (r = .ok (.ret .none) /\ ∃ a H1, s'.os = sc.os /\ AllBare s'.gens /\ Un (frs outer) [] H H1 sc.heap s'.heap /\ HOk P w H1 s'.heap /\ H1 a = some (.lst []) /\ Q a [] H1) \/
   ∃ x, r = .error x /\ CX P w outer H sc E x s' /\ s'.heap.IsGen ga g
 | .susp v g0 l k c p fs => (End.susp v g0 l k c p fs).quiet = true /\ ∃ it a its ws H1, s'.os = sc.os /\ AllBare s'.gens /\ Un (frs outer) [] H H1 sc.heap s'.heap /\ HOk P w H1 s'.heap /\ H1 a = some (.lst ws) /\ s'.heap.IsList a its /\ sc.heap.objs.size <= it /\ H1 it = none /\
   s'.heap.get? it = some (GNX.itObj a 1) /\ its[0]? = some v /\ Q a ws H1 /\ s'.heap.IsGen ga g /\ H1 ga = none /\
   ∀ s'' : Shared, s''.heap.get? it = some (GNX.itObj a 1) -> s''.heap.IsList a its -> dP (model P w) A (FR (model P w) A it a its (its.size - 1) s'') c (k (.send .none)) fs s''
def JS (P : Program) (w : World) (k : Nat) (outer : List Env) (H : Hp) (s : Shared) (Q : TQ) (E : XK) (u : Value) (s' : Shared) : Prop :=
 ∃ (a : Addr) (g : Nat) (c : Code), u = .ref a /\ s.heap.objs.size <= a /\ a < s'.heap.objs.size /\ s'.heap.IsGen a g /\ s'.gens[g]? = some (.fresh c) /\ s'.os = s.os /\ AllBare s'.gens /\ s'.heap.NoLimit /\ (∀ b o, s.heap.get? b = some o -> s'.heap.get? b = some o) /\
  ∀ (A : Around) (s2 : Shared), Room k A -> A.frames = some outer -> (∀ b o, s'.heap.get? b = some o -> s2.heap.get? b = some o) -> s2.os = s.os -> AllBare s2.gens -> dP (model P w) A (VZ P w A outer H s Q E a g) c ((model P w).den c) [] s2
abbrev SpT := List V -> Hp -> TQ -> XK -> Prop
structure GFnT (P : Program) (w : World) (K : aD) (mg : Str -> Option Value) (base : Heap) (k : Nat) (f : Addr) (fd : FuncData) (ps : List Str) (sp : SpT) : Prop where
 len : ∀ vs H Q E, sp vs H Q E -> vs.length = ps.length
 run : ∀ (A : Around) (outer : List Env) (s : Shared) (H : Hp) (args : Args) (us : List Value) (vs : List V) (Q : TQ) (E : XK), Room k A -> Env0 P w K mg base A outer s H -> BindsTo s fd args (ps.zip us) -> Vals vs us -> sp vs H Q E ->
  codeAny (model P w) A (.call (.ref f) args) (fun r s' => match r with | .ok (.ret u) => JS P w k outer H s Q E u s' | _ => False) s
theorem Qs {P : Program} {w : World} {K : aD} {mg : Str -> Option Value} {base : Heap} {k : Nat} {f : Addr} {name qual : Str} {params : Arguments} {body : List Stmt} {scope : Scope} {dV kV doc pm cdv ct oc : Value} {an od : Option Addr}
  {osl : Array (Option Value)} {N ps : List Str} {sp : SpT} (lk : K.lookup f = some ⟨oc, od, .func (dJ name qual params body scope dV kV doc pm an cdv ct), osl⟩) (hcd : PySem.W.codeIn K cdv qual = true) (S : GScope N ps scope)
  (len : ∀ vs H Q E, sp vs H Q E -> vs.length = ps.length)
  (hbody : ∀ (A : Around) (outer : List Env) (s : Shared) (H : Hp) (vs : List V) (Q : TQ) (E : XK) (pn : List (Addr × Obj)), Room k (A.deeper (envOfC qual scope s.heap.objs.size f cdv)) -> sp vs H Q E ->
   ∃ t, YSs (gcxOf P w K mg base N qual scope f cdv A outer s H E pn) body t /\ t Q (start N vs) H) :
  GFnT P w K mg base (k + 1) f (dJ name qual params body scope dV kV doc pm an cdv ct) ps sp := by
 refine ⟨len, fun A outer s H args us vs Q E hr e0 hb r hsp => ?_⟩
 have hl := len _ _ _ _ hsp;have KX : K.In s.heap := e0.mod.kin.keeps fun b o e => (e0.bs b o e).1
 have lim : s.heap.NoLimit := e0.mod.nolimit.keeps fun b o e => (e0.bs b o e).1
 have hkind : ∀ y ∈ ps.zip us, scope.names.lookup y.1 = some .local \/ (scope.names.lookup y.1 = some .cell /\ ((cellsFrom (s.heap.objs.size + 1) scope.names []).lookup y.1).isSome = true) := fun ⟨n, v⟩ hy => by
  rcases S.par n (List.of_mem_zip hy).1 with q | q
  ·exact .inl q
  ·exact .inr ⟨q, GG _ _ _ (.inl q)⟩
 refine codeAny_call_generator hr.depth (KX _ _ lk) rfl S.co S.gen rfl (Kh KX hcd) (hb _ _ _ _ ?_)
 refine wpAny_newFunctionEnv_cells S.kind hkind fun env he s1 x => ?_
 subst he;have lim1 : s1.heap.NoLimit := lim.keeps x.toInCall.keep;refine ⟨lim1, ?_⟩
 obtain ⟨h1, tk, es1, hk1⟩ := x.done;have os1 : s1.os = s.os := by rw [es1]
 have gen1 : s1.gens = s.gens := by rw [es1]
 have lt1 : s.heap.objs.size < s1.heap.objs.size := x.toInCall.ns.lt;have sz1 : s.heap.objs.size <= s1.heap.objs.size := xE lt1;have kp1 : ∀ b o, s.heap.get? b = some o -> s1.heap.get? b = some o := x.toInCall.keep;have main : ∀ (go : Obj) (nm qn : Value) (tk2 : Nat), go.cls = .type "generator" -> go.data = .fields #[.int s1.gens.size 0, nm, qn] -> go.slots = #[] -> (∀ h : Heap, (h.push go).get? h.objs.size = some go) ->
   JS P w (k + 1) outer H s Q E (.ref s1.heap.objs.size) { s1 with gens := s1.gens.push (.fresh (.func body (envOfC qual scope s.heap.objs.size f cdv))), toks := tk2, heap := s1.heap.push go } := by
  intro go nm qn tk2 hgc hgd0 hgs hgp;have hgen : ∀ h : Heap, h.get? s1.heap.objs.size = some go -> h.IsGen s1.heap.objs.size s1.gens.size := fun h e => ⟨go, nm, qn, e, hgc, hgd0, hgs⟩
  have hpushed : (s1.heap.push go).get? s1.heap.objs.size = some go := hgp _;refine ⟨s1.heap.objs.size, s1.gens.size, _, rfl, sz1, ?_, hgen _ hpushed, Array.getElem?_push_size .., os1, ?_, lim1.keeps fun b o e => Heap.get?_push_of_some _ e, fun b o e => Heap.get?_push_of_some _ (kp1 b o e), ?_⟩
  ·show _ < (s1.heap.push _).objs.size
   rw [Heap.size_push]; exact Df _
  ·exact AllBare.push (by rw [gen1]; exact e0.bare) rfl
  intro Aw s2 hrw hfr hk2 hos hba;have e0w : Env0 P w K mg base Aw outer s H := ⟨hfr, e0.mod, e0.bs, e0.bsz, e0.funs, e0.frf, e0.hok, e0.bare⟩;obtain ⟨t, ht, hq⟩ := hbody Aw outer s H vs Q E [(s1.heap.objs.size, go)] (hrw.deeper _) hsp;have I1 : Inv (gcxOf P w K mg base N qual scope f cdv Aw outer s H E []) [] (start N vs) H s1 := inv_startG S hrw.hd e0w hl r x;have kp2 : ∀ b o, s1.heap.get? b = some o -> s2.heap.get? b = some o := fun b o e => hk2 b o (Heap.get?_push_of_some _ e)
  have I2 : Inv (gcxOf P w K mg base N qual scope f cdv Aw outer s H E []) [] (start N vs) H s2 :=
   I1.call' (ch := []) (hos.trans os1.symm) (Un.kept kp2) (I1.hok.kept kp2) hba fun b z => by simp at z
  have hea : s2.heap.get? s1.heap.objs.size = some go := hk2 s1.heap.objs.size go hpushed;have I3 : Inv (gcxOf P w K mg base N qual scope f cdv Aw outer s H E [(s1.heap.objs.size, go)]) [] (start N vs) H s2 := Inv.pinnedG I2 fun p hp => by
   rw [cX] at hp;rw [bK.mp hp];exact ⟨hea, I1.hok.fresh (bX _), C5 lt1, I1.nofs (bX _), fun v q => by rw [hgd0] at q; cases q⟩
  have pinned : ∀ {s' : Shared} {σ' : L2.St} {H' : Hp}, Inv (gcxOf P w K mg base N qual scope f cdv Aw outer s H E [(s1.heap.objs.size, go)]) [] σ' H' s' -> s'.heap.IsGen s1.heap.objs.size s1.gens.size /\ H' s1.heap.objs.size = none := fun J =>
   ⟨hgen _ (J.pin (s1.heap.objs.size, go) (pV _ (bK.mpr rfl))).1, (J.pin (s1.heap.objs.size, go) (pV _ (bK.mpr rfl))).2.1⟩
  refine Pw ?_
  refine ht.run Aw _ _ [] _ _ id id s2 (start N vs) H Q ⟨over_func, rfl, rfl, rfl⟩ ⟨fun x' s' hx => ?_, fun F' s' hF => Ml (.ok (.ret .none)) hF, fun a σ' H' s' J ha q => ?_, fun v l kk c' p fs' it a its ws σ' H' s' hq' J ha hl' hit hn h1 h0 q hrest => ?_⟩ I3 hq
  ·refine wO ?_
   rw [over_func];refine wpAny_mono (show wpAny (model P w) (Aw.deeper (envOfC qual scope s.heap.objs.size f cdv)) (leaving (envOfC qual scope s.heap.objs.size f cdv) x') (fun _ s'' => CX P w outer H s E x' s'' /\ ∀ p ∈ [(s1.heap.objs.size, go)], s''.heap.get? p.1 = some p.2) (fun _ _ => False) s' from hx) (fun _ s'' q => ?_) fun _ s'' q => q.elim
   exact Ml (.error x') (.inr ⟨x', rfl, q.1, hgen _ (q.2 (s1.heap.objs.size, go) (bK.mpr rfl))⟩)
  ·exact .inl ⟨rfl, a, H', J.os, J.bare, J.base, J.hok, ha, q⟩
  ·exact ⟨hq', it, a, its, ws, H', J.os, J.bare, J.base, J.hok, ha, hl', hit, hn, h1, h0, q, (pinned J).1, (pinned J).2, hrest⟩
 exact main _ _ _ _ rfl rfl rfl fun h => Heap.get?_push_size _ rfl
section
variable {X : Cx} {pins : List (Addr × Obj)} {σ : St} {H : Hp} {s : Shared}
theorem Inv.stored {i : Nat} {x : Str} {v : V} {u : Value} {m : Str -> Option Value} {h' : Heap} {t' : Nat} (I : Inv X pins σ H s) (hN : X.N.Nodup) (hi : X.N[i]? = some x) (hk : X.env.scope.names.lookup x = some .local) (r : RelV v u)
  (hm : s.heap.Ns X.env.locals m) (hl : ∀ (i : Nat) (y : Str) (v : V), X.N[i]? = some y -> σ[i]? = some (some v) -> Vis X.env.scope y -> ∃ u, RelV v u /\ Look X.env s.heap m y u)
  (hn' : h'.Ns X.env.locals (fun y => if y = x then some u else m y)) (hs : Heap.SameBut X.env.locals s.heap h') : Inv X pins (σ.set i (some v)) H { s with heap := h', toks := t' } := by
 have hiσ : i < σ.length := by rw [I.len]; exact (aI.mp hi).1
 have cne := I.cne;obtain ⟨oL, _, _, hoL, _⟩ := id hm;have above : ∀ {b o}, X.s_0.heap.get? b = some o -> h'.get? b = s.heap.get? b := fun {b o} e => hs.2 b (C4 (Nat.lt_of_lt_of_le (Heap.lt_size e) I.ok.above))
 refine ⟨I.ok, I.os, I.bare, ⟨fun b o e n hb hx => (above e).trans (I.base.keep b o e n hb hx), fun b o e n hb hx => ?_, I.base.free, fun b o e hx => ?_, I.base.tups, I.base.frzs, I.base.tbls⟩, ⟨_, hn', fun j y v' e1 e2 e3 => ?_⟩, fun y c e => ?_, I.free, I.freeC, fun p hp => ?_, fun b ob e => ?_, by simpa using I.len⟩
 ·obtain ⟨sl, e1⟩ := I.base.slot b o e n hb hx
  exact ⟨sl, (above e).trans e1⟩
 ·obtain ⟨o', e1⟩ := I.base.there b o e hx
  exact ⟨o', (above e).trans e1⟩
 ·by_cases hj : j = i
  ·subst hj
   rw [hi] at e1; cases e1;rw [JZ hiσ] at e2;cases e2;exact ⟨u, r, .inl ⟨hk, by simp⟩⟩
  ·rw [yP (Ne.symm hj)] at e2
   obtain ⟨u', r', q⟩ := hl j y v' e1 e2 e3;refine ⟨u', r', ?_⟩
   rcases q with ⟨k, e⟩ | ⟨k, c, e, z⟩
   ·refine .inl ⟨k, ?_⟩
    have : y ≠ x := fun e => hj (nodup_ix hN e1 (e ▸ hi))
    simp [this, e]
   ·exact .inr ⟨k, c, e, z.sameBut hs (cne y c e)⟩
 ·obtain ⟨w', z⟩ := I.cell y c e
  exact ⟨w', z.sameBut hs (cne y c e)⟩
 ·obtain ⟨e, n, ne, nf, d⟩ := I.pin p hp
  exact ⟨(hs.2 p.1 ne).trans e, n, ne, nf, d⟩
 ·refine (I.hok b ob e).stay (fun c w' hc q => (hs.2 c ?_).trans q) (fun _ q => q) fun _ _ q => q
  rintro rfl
  rcases hc with rfl | hc
  ·rw [I.free] at e; cases e
  ·rw [I.free] at hc; cases hc
theorem Inv.setG {g : Nat} {x : GenState} (I : Inv X pins σ H s) (hx : x.bare = true) : Inv X pins σ H (s.setGen g x) :=
 ⟨I.ok, I.os, allBare_setGen I.bare hx, I.base, I.loc, I.cell, I.free, I.freeC, I.pin, I.hok, I.len⟩
theorem Me {H : Hp} {a : Addr} {o : HO} (h : H a = some o) : upd H a o = H := by
 funext b; unfold upd; split
 ·rename_i e; rw [e, h]
 ·rfl
end
structure PGenT (X : Cx) (k : Nat) (e : Expr) (tg : St -> Hp -> TQ -> Prop) (W : WX) : Prop where
 run : ∀ (pins : List (Addr × Obj)) (s : Shared) (σ : St) (H : Hp) (Q : TQ), Inv X pins σ H s -> tg σ H Q -> wpAny (model X.prog X.w) X.A (eval e X.env) (fun u s' => ∃ H1 sc, Inv X pins σ H1 sc /\ JS X.prog X.w k X.stack H1 sc Q (WE W σ) u s') X.xe s
def qX (σ : St) (ix : Nat) (ws : List V) : St := match ws.getLast? with
 | none => σ
 | some z => σ.set ix (some z)
theorem IW {σ : St} {ix : Nat} {ws : List V} {z : V} : (qX σ ix ws).set ix (some z) = qX σ ix (ws ++ [z]) := by
 unfold qX;rw [List.getLast?_append]
 cases ws.getLast? <;> simp
theorem NA {σ : St} {ix il : Nat} {ws : List V} (h : ix ≠ il) : (qX σ ix ws)[il]? = σ[il]? := by
 unfold qX;split
 ·rfl
 ·rw [yP h]
def SV (ix il : Nat) (tg : St -> Hp -> TQ -> Prop) : TS := fun D σ H => tg σ H fun a ws H1 => ∃ S xs, σ[il]? = some (some (.ref S)) /\ H1 S = some (.lst xs) /\ a ≠ S /\ xs.length + ws.length <= sizeLine /\ D.nx (qX σ ix ws) (upd H1 S (.lst (xs ++ ws)))
section
variable {X : Cx} {k : Nat} {x l : Str} {ix il : Nat} {iter : Expr} {tg : St -> Hp -> TQ -> Prop} {px pl px2 : Pos} {pa pc pe pos : Pos}
theorem M7 {pins : List (Addr × Obj)} {σ : St} {H : Hp} {s : Shared} {S : Addr} {xs : List V} {z : V} {v itv : Value} {Q : Flow -> Shared -> Prop} {E1 E2 E3 : Value -> Shared -> Prop} (I : Inv X pins σ H s) (hN : X.N.Nodup) (hix : X.N[ix]? = some x) (hil : X.N[il]? = some l) (hne : ix ≠ il)
  (hlx : X.env.scope.names.lookup x = some .local) (hll : X.env.scope.names.lookup l = some .local) (hS : σ[il]? = some (some (.ref S))) (hH : H S = some (.lst xs)) (hlen : xs.length < sizeLine) (r : RelV z v)
  (hbase : attributeBase (.Name l pl) "append" X.env (eval (.Name l pl) X.env) = eval (.Name l pl) X.env)
  (hfew : ((backTo pc (starEach [.Name x px2] X.env)).all (fun x => !x.1) && (backToKw pc (keywordEach [] X.env)).all (fun x => x.1.isSome) && decide (([.Name x px2] : List Expr).length + ([] : List Keyword).length + (if ([] : List Keyword).isEmpty then 0 else 1) < 30)) = true)
  (hline : (pa.endLine == pc.line) = true) (htrees : backTo pc (starEach [.Name x px2] X.env) = [(false, eval (.Name x px2) X.env)]) (hdx : (x == ("__debug__" : Str)) = false) (hdl : (l == ("__debug__" : Str)) = false)
  (hsw : swapsWith (.Call (.Attribute (.Name l pl) "append" pa) [.Name x px2] [] pc) none pe.line X.env = pure false)
  (hQ : ∀ h' t', Inv X pins (σ.set ix (some z)) (upd H S (.lst (xs ++ [z]))) { s with heap := h', toks := t' } -> (∀ b o, b ≠ S -> b ≠ X.env.locals -> s.heap.get? b = some o -> h'.get? b = some o) -> Q .next { s with heap := h', toks := t' }) :
  wpAny (model X.prog X.w) X.A (letOwnedTupleGo (.Name x px) itv v) (fun _ s1 => wpAny (model X.prog X.w) X.A (assign (.Name x px) X.env v) (fun _ s2 =>
   wpAny (model X.prog X.w) X.A (execs [.Expr (.Call (.Attribute (.Name l pl) "append" pa) [.Name x px2] [] pc) pe] X.env) Q E3 s2) E2 s1) E1 s := by
 show wpAny _ _ (pure ()) _ _ s
 refine wpAny_pure ?_
 refine wpAny_assign_Name ?_
 obtain ⟨m, hm, hl⟩ := id I.loc;have hcls : (X.env.scope.kind == .class || (X.env.scope.kind == .module && X.env.locals != X.env.globals)) = false := by rw [I.ok.kind]; rfl
 refine wpAny_storeName_local hlx hm (fun h1 hn1 hs1 => ?_) hcls
 have I1 := I.stored (t' := s.toks + 1) hN hix hlx r hm hl hn1 hs1;have e1 : (σ.set ix (some z))[il]? = some (some (.ref S)) := by rw [yP hne]; exact hS
 have hiσ : ix < σ.length := by rw [I.len]; exact (aI.mp hix).1
 obtain ⟨m1, hm1, hl1⟩ := id I1.loc;obtain ⟨uS, rS, lS⟩ := hl1 il l _ hil e1 (.inl hll);obtain ⟨ux, rx, lx⟩ := hl1 ix x z hix (by rw [JZ hiσ]) (.inl hlx)
 obtain rfl : uS = Value.ref S := rS;have mS : m1 l = some (.ref S) := by
  rcases lS with ⟨_, q⟩ | ⟨q, _⟩
  ·exact q
  ·have q' : X.env.scope.names.lookup l = some .cell \/ X.env.scope.names.lookup l = some .free := q
   rw [hll] at q';rcases q' with q' | q' <;> cases q'
 have mx : m1 x = some ux := by
  rcases lx with ⟨_, q⟩ | ⟨q, _⟩
  ·exact q
  ·have q' : X.env.scope.names.lookup x = some .cell \/ X.env.scope.names.lookup x = some .free := q
   rw [hlx] at q';rcases q' with q' | q' <;> cases q'
 obtain ⟨zl, its, n, rv, hlv, e⟩ := I1.lstM hH;refine wpAny_execs_cons (wpAny_Expr (wpAny_Call_append hbase hfew hline htrees ?_) I1.quiet hsw)
 refine wpAny_Name (wpAny_loadName_local I1.ok.kind hll hm1 mS ?_) hdl
 refine ⟨S, its.toArray, rfl, ⟨_, n, e, rfl, rfl, rfl⟩, ?_⟩
 refine wpAny_Name (wpAny_loadName_local I1.ok.kind hlx hm1 mx ?_) hdx
 refine call_meets F.slot_list_append ⟨_, e, rfl⟩ F.entry_list_append (F.args_list_append_2 _ _) (PySem.list_append S its.toArray n ux (by rw [tI]; omega)) ⟨e, ?_⟩
 refine wpAny_execs_nil (hQ _ _ (I1.lset (its' := its ++ [ux]) (t' := s.toks + 1) hH e (by simp) (rv.append (.cons rx .nil)) ?_) fun b o hb hL eb => ?_)
 ·rw [bL, List.length_singleton]
  omega
 ·exact (Heap.get?_update_other _ _ (Ne.symm hb)).trans ((hs1.2 b hL).trans eb)
end
def LJ (X : Cx) (pins : List (Addr × Obj)) (σ : St) (D : Ends) (ix il : Nat) (ga g : Nat) (m : Nat) (s : Shared) : Prop := ∃ (it a S : Addr) (its : Array Value) (ws xs : List V) (H1 : Hp) (j : Nat),
 m = its.size + 1 - j /\ j <= its.size /\ Vals ws its.toList /\ σ[il]? = some (some (.ref S)) /\ H1 a = some (.lst ws) /\ H1 S = some (.lst xs) /\ a ≠ S /\ xs.length + ws.length <= sizeLine /\ FpOk X pins H1 it /\ FpOk X pins H1 ga /\ it ≠ ga /\
 D.nx (qX σ ix ws) (upd H1 S (.lst (xs ++ ws))) /\ Inv X pins (qX σ ix (ws.take j)) (upd H1 S (.lst (xs ++ ws.take j))) s /\ s.heap.IsGen ga g /\ s.heap.get? it = some (GNX.itObj a j) /\ s.heap.IsList a its /\
 ∃ gs, s.gens[g]? = some gs /\ ∀ s'' : Shared, s''.heap.get? it = some (GNX.itObj a j) -> s''.heap.IsList a its -> Ke (model X.prog X.w) X.A.in1 (FR (model X.prog X.w) X.A.in1 it a its (its.size - j) s'') gs s''
section
variable {X : Cx} {k : Nat} {x l : Str} {ix il : Nat} {iter : Expr} {tg : St -> Hp -> TQ -> Prop} {W : WX} {px pl px2 : Pos} {pa pc pe pos : Pos} {pins : List (Addr × Obj)} {σ : St} {H H1 : Hp} {s : Shared} {D : Ends} {ga g m : Nat}
theorem take_snoc {α : Type} {ws : List α} {j : Nat} {z : α} (h : ws[j]? = some z) : ws.take j ++ [z] = ws.take (j + 1) := by
 rw [List.take_add_one, h]; rfl
theorem HV {h : Heap} {a : Addr} {i1 i2 : Array Value} (a1 : h.IsList a i1) (a2 : h.IsList a i2) : i1 = i2 := by
 obtain ⟨o, e, c, n, d⟩ := a1;obtain ⟨o', e', c', n', d'⟩ := a2;rw [e] at e'; cases e';rw [d] at d'; cases d'; rfl
structure ForGT (X : Cx) (x l : Str) (ix il : Nat) (pl px2 : Pos) (pa pc pe : Pos) : Prop where
 nd : X.N.Nodup
 hix : X.N[ix]? = some x
 hil : X.N[il]? = some l
 ne : ix ≠ il
 lx : X.env.scope.names.lookup x = some .local
 ll : X.env.scope.names.lookup l = some .local
 base : attributeBase (.Name l pl) "append" X.env (eval (.Name l pl) X.env) = eval (.Name l pl) X.env
 few : ((backTo pc (starEach [.Name x px2] X.env)).all (fun x => !x.1) && (backToKw pc (keywordEach [] X.env)).all (fun x => x.1.isSome) && decide (([.Name x px2] : List Expr).length + ([] : List Keyword).length + (if ([] : List Keyword).isEmpty then 0 else 1) < 30)) = true
 line : (pa.endLine == pc.line) = true
 trees : backTo pc (starEach [.Name x px2] X.env) = [(false, eval (.Name x px2) X.env)]
 dx : (x == ("__debug__" : Str)) = false
 dl : (l == ("__debug__" : Str)) = false
 sw : swapsWith (.Call (.Attribute (.Name l pl) "append" pa) [.Name x px2] [] pc) none pe.line X.env = pure false
theorem Ek {it a S : Addr} {its : Array Value} {ws xs : List V} {j : Nat} {v itv : Value} {gs : GenState} {Q : Flow -> Shared -> Prop} {E1 E2 E3 : Value -> Shared -> Prop} (T : ForGT X x l ix il pl px2 pa pc pe)
  (hj : j < its.size) (rv : Vals ws its.toList) (hS : σ[il]? = some (some (.ref S))) (ha : H1 a = some (.lst ws)) (hHS : H1 S = some (.lst xs)) (hne : a ≠ S) (hsz : xs.length + ws.length <= sizeLine) (fit : FpOk X pins H1 it) (fga : FpOk X pins H1 ga) (hig : it ≠ ga)
  (hD : D.nx (qX σ ix ws) (upd H1 S (.lst (xs ++ ws)))) (I : Inv X pins (qX σ ix (ws.take j)) (upd H1 S (.lst (xs ++ ws.take j))) s) (hg : s.heap.IsGen ga g) (hit : s.heap.get? it = some (GNX.itObj a (j + 1))) (hl : s.heap.IsList a its) (hv : its[j]? = some v)
  (hgs : s.gens[g]? = some gs) (hgo : ∀ s'' : Shared, s''.heap.get? it = some (GNX.itObj a (j + 1)) -> s''.heap.IsList a its -> Ke (model X.prog X.w) X.A.in1 (FR (model X.prog X.w) X.A.in1 it a its (its.size - (j + 1)) s'') gs s'')
  (hQ : ∀ s', LJ X pins σ D ix il ga g (its.size + 1 - (j + 1)) s' -> Q .next s') :
  wpAny (model X.prog X.w) X.A (letOwnedTupleGo (.Name x px) itv v) (fun _ s1 => wpAny (model X.prog X.w) X.A (assign (.Name x px) X.env v) (fun _ s2 =>
   wpAny (model X.prog X.w) X.A (execs [.Expr (.Call (.Attribute (.Name l pl) "append" pa) [.Name x px2] [] pc) pe] X.env) Q E3 s2) E2 s1) E1 s := by
 have hlen : ws.length = its.size := by rw [rv.length]; simp
 obtain ⟨z, hz⟩ : ∃ z, ws[j]? = some z := ⟨ws[j]'(by omega), by rw [bO]⟩
 obtain ⟨u, hu, ru⟩ := rv.get hz;have huv : u = v := by
  have : its.toList[j]? = some v := by simpa using hv
  rw [this] at hu; cases hu; rfl
 subst huv;have hSit : it ≠ S := fun e => by have := fit.1; rw [e, hHS] at this; cases this
 have hSga : ga ≠ S := fun e => by have := fga.1; rw [e, hHS] at this; cases this
 have haL : a ≠ X.env.locals := fun e => by
  have q := I.free;rw [upd_ne (show X.env.locals ≠ S from fun e2 => by have q2 := I.free; rw [e2, upd_same] at q2; cases q2)] at q
  rw [<- e, ha] at q; cases q
 refine M7 (xs := xs ++ ws.take j) (z := z) I T.nd T.hix T.hil T.ne T.lx T.ll (by rw [NA T.ne]; exact hS) upd_same (by rw [bL, iU]; omega) ru T.base T.few T.line T.trees T.dx T.dl T.sw fun h' t' I' hk => hQ _ ?_
 rw [IW, take_snoc hz, upd_upd, dN, take_snoc hz] at I';obtain ⟨og, nm, qn, eg, rg⟩ := hg;obtain ⟨ol, el, rl⟩ := hl;have hg' : h'.IsGen ga g := ⟨og, nm, qn, hk ga og hSga fga.2.1 eg, rg⟩;exact ⟨it, a, S, its, ws, xs, H1, j + 1, rfl, hj, rv, hS, ha, hHS, hne, hsz, fit, fga, hig, hD, I', hg', hk it _ hSit fit.2.1 hit, ⟨ol, hk a ol hne haL el, rl⟩, gs, hgs, hgo⟩
theorem Inv.like {s' : Shared} (I : Inv X pins σ H { s with heap := s'.heap, toks := s'.toks }) (ho : s'.os = s.os) (hb : AllBare s'.gens) : Inv X pins σ H s' :=
 ⟨I.ok, ho.trans I.os, hb, I.base, I.loc, I.cell, I.free, I.freeC, I.pin, I.hok, I.len⟩
theorem QJ (T : ForGT X x l ix il pl px2 pa pc pe) (hp : PassesOwn (model X.prog X.w) X.A X.env X.xe) (hr : Room (k + 2) X.A) (tk : Takes X W) (hns : ∀ σ, NoStop X.K (WE W σ)) (h : PGenT X k iter tg W)
  (hs : ∀ x, foldedSetIterable iter X.env x = pure x := by intro _; rfl) :
  PS X (.For (.Name x px) iter [.Expr (.Call (.Attribute (.Name l pl) "append" pa) [.Name x px2] [] pc) pe] [] pos) (SV ix il tg) := by
 refine ⟨fun pins s σ H D I h0 => ?_⟩
 refine wpAny_For (thn (h.run pins s σ H _ I h0) fun u s1 ⟨H0, sc, I0, hG⟩ => ?_) hs
 obtain ⟨ga, g, c, rfl, h1, h2, hgen, hgs, hos, hb, hl, hkp, wake⟩ := hG;refine wpAny_pyIter_gen hgen ?_
 have room1 : Room k X.A.in1 := ⟨hr.hd, by have := hr.dp; show X.A.depth + 3 * k + 5 < _; omega, by have := hr.un; show X.A.units + 1 + 16 * k + 200 < _; omega⟩
 have hdep : X.A.depth < recursionLimit := by have := hr.dp; omega
 refine codeAny_forLoop_any (fun m s' => (m = sizeLine + 2 /\ s' = s1) \/ (m < sizeLine + 2 /\ LJ X pins σ D ix il ga g m s')) ?_ (sizeLine + 2) (.inl ⟨rfl, rfl⟩)
 rintro m s3 (⟨rfl, rfl⟩ | ⟨hm, hJ⟩)
 ·have hw := wake X.A.in1 (s3.setGen g .running) room1 I0.ok.frames (fun b o e => e) hos (allBare_setGen hb rfl)
  have hgl : g < s3.gens.size := (Array.getElem?_eq_some_iff.mp hgs).1
  refine wpAny_passesOwn hp (wpAny_gsz (n := g + 1) hgl (NU hr.hd hl hdep hgen hgs hw fun e s4 hF => ?_))
  cases e with
  | susp v g0 l0 k0 c0 p0 fs0 =>
   obtain ⟨hq, it, a, its, ws, H2, o1, b1, un, hok, ha, hls, hit1, hn, hget, hv, ⟨S, xs, q1, q2, q3, q4, q5⟩, hgen', hgan, hrest⟩ := hF;refine ⟨hq, fun hsz => ?_⟩
   have hsz1 : g < s4.gens.size := by
    have q : (s4.setGen g (End.susp v g0 l0 k0 c0 p0 fs0).genState).gens.size = s4.gens.size := setGen_size _ _ _;omega
   have I1 : Inv X pins σ H2 s4 := I0.call' (ch := []) o1 un hok b1 fun b z => by simp at z
   obtain ⟨its', rits, ht, hle⟩ := I1.list (.inl (.inl ha));obtain rfl := HV hls ht.isList;have I2 := I1.setG (g := g) (End.bare_of_quiet hq);have fit : FpOk X pins H2 it := I0.fpOk hit1 hn;have fga : FpOk X pins H2 ga := I0.fpOk h1 hgan;have hpos : 0 < its'.toArray.size := by
    rcases Nat.eq_zero_or_pos its'.toArray.size with z | z
    ·rw [Array.getElem?_eq_none (by omega)] at hv; cases hv
    ·exact z
   have hig : it ≠ ga := fun z => by
    obtain ⟨og, nm, qn, eg, cg, _⟩ := hgen';rw [<- z, hget] at eg; cases eg; exact absurd (show Value.type "list_iterator" = Value.type "generator" from cg) (by decide)
   have hle2 : its'.toArray.size <= sizeLine := by
    have := rits.length; simp only [tI]; omega
   have I3 : Inv X pins (qX σ ix (ws.take 0)) (upd H2 S (.lst (xs ++ ws.take 0))) (s4.setGen g (End.susp v g0 l0 k0 c0 p0 fs0).genState) := by
    rw [List.take_zero, cX, Me q2];exact I2
   refine Ek (j := 0) (gs := (End.susp v g0 l0 k0 c0 p0 fs0).genState) T hpos (by simpa using rits) q1 ha q2 q3 q4 fit fga hig q5 I3 hgen' hget hls hv (setGen_at hsz1) hrest fun s' hJ => ⟨_, ?_, .inr ⟨?_, hJ⟩⟩
   ·omega
   ·omega
  | ret r =>
   rcases hF with ⟨rfl, a, H2, o1, b1, un, hok, ha, S, xs, q1, q2, q3, q4, q5⟩ | ⟨x', rfl, hcx, hg1⟩
   ·refine .inl ⟨.inl rfl, fun h' hk _ => ?_⟩
    have I1 : Inv X pins σ H2 s4 := I0.call' (ch := []) o1 un hok b1 fun b z => by simp at z
    rw [cX, Me q2] at q5;exact wpAny_execs_nil ⟨σ, H2, (I1.setG (g := g) (x := .finished) rfl).kept (t' := s4.toks) hk, q5⟩
   ·have kin : X.K.In s4.heap := by
     obtain ⟨a, B, H', cls, d, _, fl, _, ub, _⟩ := id hcx;refine I0.ok.mod.kin.keeps fun b o eb => fl.1 b o (ub.keep b o (I0.bs b o eb).1 (I0.bs b o eb).2 fun hm => ?_)
     rcases bJ.mp (I0.stkSub b hm) with z | z
     ·have h1 := Heap.lt_size eb
      have h2 := cA I0.ok.bsz I0.ok.above;rw [z] at h1;exact absurd (Nat.lt_of_lt_of_le h1 h2) (Nat.lt_irrefl _)
     ·exact I0.ok.nofr eb z
    refine .inr ⟨x', rfl, hg1, notStop_of (hns σ) kin hcx, ?_⟩
    refine fun _ => passAt tk σ pins H0 sc x' _ I0 ?_
    obtain ⟨a, B, H', cls, d, z1, fl, z2, ub, z3, z4, z5, z6⟩ := hcx;exact ⟨a, B, H', cls, d, z1, fl, z2, ub, z3, z4, allBare_setGen z5 rfl, z6⟩
 ·obtain ⟨it, a, S, its, ws, xs, H2, j, rfl, hj, rv, hS, ha, hHS, hne, hsz, fit, fga, hig, hD, I2, hg2, hit2, hl2, gs, hgs2, hgo⟩ := hJ
  have hgo' := hgo (s3.setGen g .running) hit2 hl2;have hgl : g < s3.gens.size := (Array.getElem?_eq_some_iff.mp hgs2).1
  have hSit : it ≠ S := fun e => by have := fit.1; rw [e, hHS] at this; cases this
  have hnu : upd H2 S (.lst (xs ++ ws.take j)) it = none := by rw [upd_ne hSit]; exact fit.1
  have turned : ∀ s4 : Shared, KB it (s3.setGen g .running) s4 -> Inv X pins (qX σ ix (ws.take j)) (upd H2 S (.lst (xs ++ ws.take j))) s4 := fun s4 kb =>
   Inv.like (Inv.turned (h' := s4.heap) (t' := s4.toks) I2 (fun b o hb e => kb.2.2 b o hb e) hnu fit.2.1 fit.2.2.2.1 fit.2.2.2.2.1 fit.2.2.2.2.2) kb.1 (by rw [kb.2.1]; exact allBare_setGen I2.bare rfl)
  refine wpAny_passesOwn hp (wpAny_gsz (n := g + 1) hgl (NU hr.hd I2.nolimit hdep hg2 hgs2 hgo' fun e s4 hF => ?_))
  by_cases hjn : j < its.size
  ·have er : its.size - j = (its.size - (j + 1)) + 1 := by omega
   have e1 : its.size - (its.size - (j + 1) + 1) = j := by omega
   have e2 : its.size - (its.size - (j + 1)) = j + 1 := by omega
   rw [er] at hF;cases e with
   | ret r => exact hF.elim
   | susp v g0 l0 k0 c0 p0 fs0 =>
    obtain ⟨hq, hv, kb, hget, hrest⟩ := hF;rw [e1] at hv;rw [e2] at hget hrest;refine ⟨hq, fun hsz' => ?_⟩
    have hsz1 : g < s4.gens.size := by
     have q : (s4.setGen g (End.susp v g0 l0 k0 c0 p0 fs0).genState).gens.size = s4.gens.size := setGen_size _ _ _;omega
    have I3 := (turned s4 kb).setG (g := g) (End.bare_of_quiet hq);obtain ⟨og, nm, qn, eg, rg⟩ := hg2;obtain ⟨ol, el, rl⟩ := hl2;have hait : a ≠ it := fun z => by have := fit.1; rw [<- z, ha] at this; cases this
    refine Ek (j := j) (gs := (End.susp v g0 l0 k0 c0 p0 fs0).genState) T hjn rv hS ha hHS hne hsz fit fga hig hD I3 ⟨og, nm, qn, kb.2.2 ga og (Ne.symm hig) eg, rg⟩ hget ⟨ol, kb.2.2 a ol hait el, rl⟩ hv (setGen_at hsz1) hrest fun s' hJ => ⟨_, ?_, .inr ⟨?_, hJ⟩⟩
    ·omega
    ·omega
  ·have ej : j = its.size := by omega
   subst ej;rw [Nat.sub_self] at hF;obtain ⟨rfl, kb⟩ := hF;have hw : ws.take its.size = ws := wL (by rw [rv.length]; simp)
   refine .inl ⟨.inl rfl, fun h' hk _ => ?_⟩
   have I3 := ((turned s4 kb).setG (g := g) (x := .finished) rfl).kept (t' := s4.toks) hk;rw [hw] at I3;exact wpAny_execs_nil ⟨_, _, I3, hD⟩
end
end L2
namespace PH
open PySem PySem.Spec PyProof.Rows L2
section
variable {X : Cx} {W : WX} {e a : Expr} {es : List Expr} {rest gR : List Stmt} {st : Stmt} {pos p yp : Pos} {x kw : Str} {K : aD} {ma me : FE} {mas : FA} {B : Addr -> Prop} {φ φ' : List Addr} {S S' : aO} {H H' : Hp} {σ : L2.St} {Q : TQ} {m : FS} {n : Dd} {D : Ends} {EX : XK}
def FinY (K : aD) (W : WX) (Q : TQ) (B : Addr -> Prop) (φ : List Addr) (S : aO) (H : Hp) (r : Res (List PH.D)) : Prop := match r with
 | .ok zs S' => ∀ φ' a ws H', GInv K B φ' S' H' -> Ext φ S H φ' S' H' -> H' a = some (.lst ws) -> ¬ lI B φ' S' a -> RepL K (lI B φ' S') H' zs ws -> Q a ws H'
 | .err e S' => ∀ φ' σ' c x H', GInv K B φ' S' H' -> Ext φ S H φ' S' H' -> RepX K B φ' S' H' e c x -> W c x σ' H'
 | .stuck => False
theorem FinY.ext {r : Res (List PH.D)} (f : FinY K W Q B φ S H r) (e : Ext φ S H φ' S' H') : FinY K W Q B φ' S' H' r := by
 cases r with
 | ok d S1 => exact fun φ1 a v H1 I1 X h nb r => f φ1 a v H1 I1 (e.trans X) h nb r
 | err x S1 => exact fun φ1 σ1 c x H1 I1 X r => f φ1 σ1 c x H1 I1 (e.trans X) r
 | stuck => exact f
def rdY (K : aD) (W : WX) (m : Dd) : TY := fun Q σ H => ∃ B φ S ρ, GInv K B φ S H /\ RepE K B φ S H ρ σ /\ FinY K W Q B φ S H (m ρ S)
def K8 (n : Dd) (o : Out) : Res (List PH.D) := match o with
 | .next ρ' S' => n ρ' S'
 | .err e _ S' => .err e S'
 | _ => .stuck
def ET (m : FS) (n : Dd) : Dd := fun ρ S => K8 n (m ρ S)
theorem Fv (a : PS X st (kP X.K (fun c x _ H => EX c x H) m)) (b : YSs X rest (rdY X.K (fun c x _ H => EX c x H) n)) : YSs X (st :: rest) (rdY X.K (fun c x _ H => EX c x H) (ET m n)) := Kc (Pq a b) fun Q σ H h => by
 obtain ⟨B, φ, S, ρ, I, E, f⟩ := h;refine ⟨B, φ, S, ρ, I, E, ?_⟩
 unfold ET at f;cases q : m ρ S with
 | next ρ' S' => rw [q] at f; exact fun φ' σ' H' I' X' E' => ⟨B, φ', S', ρ', I', E', FinY.ext f X'⟩
 | ret d S' => rw [q] at f; exact f.elim
 | brk ρ' S' => rw [q] at f; exact f.elim
 | cnt ρ' S' => rw [q] at f; exact f.elim
 | err e' ρ' S' => rw [q] at f; exact fun φ' σ' c x H' I' X' E' r => f φ' σ' c x H' I' X' r
 | stuck => rw [q] at f; exact f.elim
theorem fy_yf (he : PE X e (cZ X.K (fun c x _ H => EX c x H) me)) (hc : X.A.handled = none) (hi : interactive X.env = false := by rfl) : YSs X [.Expr (.YieldFrom e yp) pos] (rdY X.K (fun c x _ H => EX c x H) (U5 me)) := Kc (ys_yf he hc hi) fun Q σ H h => by
 obtain ⟨B, φ, S, ρ, I, E, f⟩ := h;refine ⟨B, φ, S, ρ, I, E, ?_⟩
 unfold U5 at f;cases q : me ρ S with
 | stuck => rw [q] at f; exact f.elim
 | err x' S' => rw [q] at f; exact fun φ' c x H' I' X' r => f φ' σ c x H' I' X' r
 | ok x' S' =>
  rw [q] at f;intro φ' v H' I' X' r;have f : FinY X.K (fun c x _ H => EX c x H) Q B φ S H (Sq x' S') := f
  unfold Sq at f;split at f
  ·rename_i zs
   split at f
   ·rename_i hz
    obtain ⟨b, ws, rfl, nb, hb, rl⟩ := r;exact ⟨b, ws, rfl, hb, f φ' b ws H' I' X' hb nb rl⟩
   ·exact f.elim
  ·exact f.elim
def L3 (K : aD) (md : Ds) : SpT := fun vs H Q E => ∃ B φ S ds, GInv K B φ S H /\ RepVs K B φ S H ds vs /\ FinY K (fun c x _ H => E c x H) Q B φ S H (md ds S)
def SL (P : Program) (w : World) (K : aD) (mg : Str -> Option Value) (base : Heap) (k : Nat) (x : Str) (ps : List Str) (n : Nat) (kw : Str) (sp : SpT) : Prop :=
 ∃ fd, GFnT P w K mg base k (He.ga K x) fd ps sp /\ mg x = some (.ref (He.ga K x)) /\ iB K (.ref (He.ga K x)) = true /\ KBn K fd ps n [kw] (fun us ws => us ++ ws) (fun vs zs => vs ++ zs)
def SM (K : aD) (cs : List Str) : Prop := ∀ c ∈ cs, oV K (.ref (He.ga K c)) (.type "StopIteration") = some false
theorem U1 {K : aD} {cs : List Str} (h : nsB K cs = true) : SM K cs := fun c hc => of_decide_eq_true (bT.mp h c hc)
def wNS (K : aD) (W : WX) : WX := fun c d σ H => W c d σ H /\ oV K c (.type "StopIteration") = some false
def tGKT (K : aD) (W : WX) (n : Nat) (md : Ds) (mas : FA) (ma : FE) : L2.St -> Hp -> TQ -> Prop := fun σ H Q => GF K W mas σ H fun vs H1 => tCons (cZ K W ma) tNil σ H1 fun zs H2 => vs.length = n /\ zs.length = 1 /\ L3 K md (vs ++ zs) H2 Q (WE (wNS K W) σ)
theorem QL {j k nn : Nat} {ps : List Str} {md : Ds} {kpos : Pos} (F : SL X.prog X.w X.K X.mg X.base j x ps nn kw (L3 X.K md)) (hr : Room k X.A) (ha : PA X (e :: es) (GF X.K W mas)) (hv : PE X a (cZ X.K W ma)) (hjk : j <= k) (hg : Gl X x) (hdb : (x == ("__debug__" : Str)) = false)
  (hall : (backToKw pos (keywordEach [⟨some kw, a, kpos⟩] X.env)).all (·.1.isSome) = true) (hks : (backToKw pos (keywordEach [⟨some kw, a, kpos⟩] X.env)).filterMap (·.1) = [kw])
  (he : starEach (e :: es) X.env = (false, eval e X.env) :: starEach es X.env) (hpl : ((backTo pos (starEach (e :: es) X.env)).any (·.1) || (backToKw pos (keywordEach [⟨some kw, a, kpos⟩] X.env)).any (·.1.isNone)) = false) :
  PGenT X j (.Call (.Name x p) (e :: es) [⟨some kw, a, kpos⟩] pos) (tGKT X.K W nn md mas ma) (wNS X.K W) := by
 obtain ⟨fd, F, hm, hk, hb⟩ := F;refine ⟨fun pins s σ H Q I h => ?_⟩
 refine wpAny_Call_Name_kw (ld_glob I hg hm ?_ hdb)
 refine PySem.W.callWith_KW (h₀ := X.base) I.ok.mod.kin hk hall (thn (ha.run pos pins s σ H _ I h) fun us s1 ⟨vs, H1, I1, r, q⟩ => ?_) hpl he
 refine thn ((pk_cons hv pk_nil : PK X [⟨some kw, a, kpos⟩] _).run pos pins s1 σ H1 _ I1 q) fun ws s2 ⟨zs, H2, I2, rz, l1, l2, q2⟩ => ⟨I2.kIn, ?_⟩
 rw [hks];have r2 := hb.rel r rz;refine wpAny_call (codeAny_mono (F.run X.A X.stack s2 H2 ⟨us, [kw].zip ws⟩ (us ++ ws) (vs ++ zs) Q _ (hr.mono hjk) I2.env0 (hb.to s2 us ws I2.kIn (r.length.symm.trans l1) (rz.length.symm.trans l2)) r2 q2) fun r s' hq => ?_)
 cases r with
 | error e => exact False.elim hq
 | ok fl =>
  cases fl with
  | ret u => exact ⟨H2, s2, I2, hq⟩
  | next => exact False.elim hq
  | brk => exact False.elim hq
  | cont => exact False.elim hq
def Es (ρ : Ev) (ix : Nat) (zs : List PH.D) : Ev := match zs.getLast? with
 | none => ρ
 | some z => ρ.set ix (some (.dat z))
theorem EI {Bk : Addr -> Prop} : ∀ {zs : List PH.D} {ws : List L2.V}, RepL K Bk H zs ws -> (zs.getLast? = none /\ ws.getLast? = none) \/ ∃ d v, zs.getLast? = some d /\ ws.getLast? = some v /\ Rep K Bk H d v
 | [], _, h => by
  cases h; exact .inl ⟨rfl, rfl⟩
 | d :: ds, _, ⟨v, ws, rfl, h1, h2⟩ => by
  refine .inr ?_
  rcases EI h2 with ⟨q1, q2⟩ | ⟨d', v', q1, q2, r⟩
  ·exact ⟨d, v, by rw [sH, q1]; rfl, by rw [sH, q2]; rfl, h1⟩
  ·exact ⟨d', v', by rw [sH, q1]; rfl, by rw [sH, q2]; rfl, r⟩
theorem RepE.last {ρ : Ev} {ix : Nat} {zs : List PH.D} {ws : List L2.V} (E : RepE K B φ S H ρ σ) (r : RepL K (lI B φ S) H zs ws) : RepE K B φ S H (Es ρ ix zs) (qX σ ix ws) := by
 unfold Es qX;rcases EI r with ⟨q1, q2⟩ | ⟨d', v', q1, q2, r⟩
 ·rw [q1, q2]; exact E
 ·rw [q1, q2]; exact E.set (d := .dat d') r ix
def Cr (cs : List Str) (ix il : Nat) (ρ : Ev) (r : Res (List PH.D)) : Out := match r with
 | .ok zs S3 => (match ρ[il]? with
  | some (some (.cel c)) => (match S3[c]? with
   | some (.lst xs) => if xs.length + zs.length <= sizeLine then .next (Es ρ ix zs) (S3.set c (.lst (xs ++ zs))) else .stuck
   | _ => .stuck)
  | _ => .stuck)
 | .err e S3 => if e.cls ∈ cs then .err e ρ S3 else .stuck
 | .stuck => .stuck
def Fi (cs : List Str) (ix il : Nat) (md : Ds) (ρ : Ev) (ds : List Vl) (d : Vl) (S2 : aO) : Out := Cr cs ix il ρ (md (ds ++ [d]) S2)
def Fj (cs : List Str) (ix il n : Nat) (md : Ds) (ma : FE) (ρ : Ev) (ds : List Vl) (S1 : aO) : Out := if ds.length = n then (ma ρ S1).toS ρ (Fi cs ix il md ρ ds) else .stuck
def Jy (cs : List Str) (ix il n : Nat) (md : Ds) (mas : FA) (ma : FE) : FS := fun ρ S => (mas ρ S).toS ρ (Fj cs ix il n md ma ρ)
theorem My {cs : List Str} {ix il nn : Nat} {md : Ds} (N : SM K cs) (h : kP K W (Jy cs ix il nn md mas ma) D σ H) : SV ix il (tGKT K W nn md mas ma) D σ H := by
 obtain ⟨B, φ, S, ρ, I, E, f⟩ := h;refine cN I E f fun φ' S' ds vs H1 I1 X1 E1 r1 f1 => ?_
 unfold Fj at f1;split at f1
 case isFalse => exact f1.elim
 rename_i hl;refine cN I1 E1 f1 fun φ2 S2 d v H2 I2 X2 E2 r2 f2 => ?_
 refine ⟨by rw [r1.len]; exact hl, rfl, B, φ2, S2, ds ++ [d], I2, RepVs.snoc (r1.ext X2 I1) r2, ?_⟩
 unfold Fi Cr at f2;cases q : md (ds ++ [d]) S2 with
 | stuck => rw [q] at f2; exact f2.elim
 | err e S3 =>
  rw [q] at f2;dsimp only at f2;split at f2
  ·rename_i hc
   exact fun φ3 σ' c x H3 I3 X3 rx => ⟨f2 φ3 σ c x H3 I3 X3 (E2.ext X3 I2) rx, by rw [rx.1]; exact N _ hc⟩
  ·exact f2.elim
 | ok zs S3 =>
  rw [q] at f2;dsimp only at f2;intro φ3 a ws H3 I3 X3 ha nb rl;cases q1 : ρ[il]? with
  | none => rw [q1] at f2; exact f2.elim
  | some o =>
   rw [q1] at f2;cases o with
   | none => exact f2.elim
   | some vl =>
    cases vl with
    | dat _ => exact f2.elim
    | cels _ => exact f2.elim
    | scr _ => exact f2.elim
    | tc _ => exact f2.elim
    | cel c =>
     dsimp only at f2;obtain ⟨v2, hv2, ad, rfl, hφ⟩ := E2.2 il _ q1;have hφ3 := X3.ids _ _ hφ;cases q2 : S3[c]? with
     | none => rw [q2] at f2; exact f2.elim
     | some cl =>
      rw [q2] at f2;cases cl with
      | lst xs =>
       dsimp only at f2;split at f2
       ·rename_i hz
        obtain ⟨vs2, h2, l⟩ := I3.ok c _ ad q2 hφ3;have hne : a ≠ ad := fun e => nb (.inr ⟨c, _, q2, by simp, by rw [e]; exact hφ3⟩)
        have X4 := Ext.put (H := H3) (o := .lst (vs2 ++ ws)) (x := .lst (xs ++ zs)) q2 (by simp) hφ3 (by simp)
        have I4 : GInv K B φ3 (S3.set c (.lst (xs ++ zs))) (upd H3 ad (.lst (vs2 ++ ws))) := I3.put q2 (by simp) hφ3 (by simp) ⟨_, upd_same, X4.repL I3 (l.append rl)⟩
        exact ⟨ad, vs2, hv2, h2, hne, by rw [l.len, rl.len]; exact hz, f2 φ3 _ _ I4 (X3.trans X4) (RepE.last ((E2.ext X3 I2).ext X4 I3) (X4.repL I3 rl))⟩
       ·exact f2.elim
      | dead => exact f2.elim
      | ins _ _ => exact f2.elim
      | dct _ => exact f2.elim
      | lv _ => exact f2.elim
      | dki _ _ => exact f2.elim
      | dkt _ _ => exact f2.elim
theorem RZ {j k nn ix il : Nat} {ps cs : List Str} {md : Ds} {kpos px pl px2 : Pos} {pa pc pe spos : Pos} {z l : Str} (T : ForGT X z l ix il pl px2 pa pc pe) (N : SM X.K cs) (tk : Takes X W) (hp : PassesOwn (model X.prog X.w) X.A X.env X.xe)
  (F : SL X.prog X.w X.K X.mg X.base j x ps nn kw (L3 X.K md)) (hr : Room k X.A) (ha : PA X (e :: es) (GF X.K W mas)) (hv : PE X a (cZ X.K W ma)) (hjk : j + 2 <= k := by decide) (hg : Gl X x := by rfl) (hdb : (x == ("__debug__" : Str)) = false := by decide)
  (hall : (backToKw pos (keywordEach [⟨some kw, a, kpos⟩] X.env)).all (·.1.isSome) = true := by rfl) (hks : (backToKw pos (keywordEach [⟨some kw, a, kpos⟩] X.env)).filterMap (·.1) = [kw] := by rfl)
  (he : starEach (e :: es) X.env = (false, eval e X.env) :: starEach es X.env := by rfl) (hpl : ((backTo pos (starEach (e :: es) X.env)).any (·.1) || (backToKw pos (keywordEach [⟨some kw, a, kpos⟩] X.env)).any (·.1.isNone)) = false := by rfl)
  (hs : ∀ v, foldedSetIterable (.Call (.Name x p) (e :: es) [⟨some kw, a, kpos⟩] pos) X.env v = pure v := by intro _; rfl) :
  PS X (.For (.Name z px) (.Call (.Name x p) (e :: es) [⟨some kw, a, kpos⟩] pos) [.Expr (.Call (.Attribute (.Name l pl) "append" pa) [.Name z px2] [] pc) pe] [] spos) (kP X.K W (Jy cs ix il nn md mas ma)) :=
 fT (QJ T hp (hr.mono hjk) (tk.imp fun _ _ _ _ h => h.1) (fun σ c d H h => h.2) (QL F hr ha hv (by omega) hg hdb hall hks he hpl) hs) fun D σ H h => My N h
end
section
variable {P : Program} {w : World} {K : aD} {mg : Str -> Option Value} {base : Heap}
theorem okGT {x kw : Str} {dv : L2.V} {st : Stmt} {N ps : List Str} {k n : Nat} {mb : Dd} (F : FnK K x st kw dv) (g : mg x = some (.ref (He.ga K x))) (S : GScope N ps (defScope st)) (hn : n + 1 = ps.length)
  (b1 : ∀ (kV doc pm : Value) (an : Option Addr) (cdv ct : Value) (us ws : List Value), us.length = n -> ws.length = 1 -> bindArgs (dJ x x (defArgs st) (defBody st) (defScope st) .none kV doc pm an cdv ct) ⟨us, [kw].zip ws⟩ = pure (ps.zip (us ++ ws)))
  (hbody : ∀ (cdv : Value) (A : Around) (outer : List Env) (s : Shared) (H : Hp) (E : XK) (pn : List (Addr × Obj)), Room k (A.deeper (envOfC x (defScope st) s.heap.objs.size (He.ga K x) cdv)) -> YSs (gcxOf P w K mg base N x (defScope st) (He.ga K x) cdv A outer s H E pn) (defBody st) (rdY K (fun c x _ H => E c x H) mb)) : SL P w K mg base (k + 1) x ps n kw (L3 K (Dk N.length ps.length mb)) := by
 obtain ⟨fd, F⟩ := F;have kp := F.kp;obtain ⟨oc, od, dV, kV, doc, pm, an, cdv, ct, osl, rfl, lk, hcd, hD, hK⟩ := F.ex;have hlen : ∀ vs H Q E, L3 K (Dk N.length ps.length mb) vs H Q E -> vs.length = ps.length := fun vs H Q E ⟨B, φ, S, ds, I, r, f⟩ => by
  rw [r.len]
  by_cases h : ds.length = ps.length
  ·exact h
  ·unfold Dk at f
   rw [if_neg h] at f;exact f.elim
 refine ⟨_, Qs lk hcd S hlen fun A outer s H vs Q E pn hr hsp => ⟨_, hbody cdv A outer s H E pn hr, ?_⟩, g, kp, ⟨fun s us ws _ l1 l2 => ?_, fun r1 r2 => r1.append r2⟩⟩
 ·have hv := hlen _ _ _ _ hsp
  obtain ⟨B, φ, S, ds, I, r, f⟩ := hsp;refine ⟨B, φ, S, envOf N.length ds, I, DG r, ?_⟩
  unfold Dk at f;rw [if_pos (by rw [<- r.len]; exact hv)] at f
  exact f
 ·rcases hD with ⟨_, rfl⟩ | ⟨e, _⟩
  ·exact .of_eq (b1 kV doc pm an cdv ct us ws l1 l2)
  ·exact absurd rfl e
end
section
variable {ρ : Ev} {S : aO} {m : FS} {n : Dd} {me ma : FE} {mas : FA} {md : Ds} {cs : List Str} {ix il nn : Nat}
theorem OA : ET m n ρ S = K8 n (m ρ S) := rfl
theorem Ob : Jy cs ix il nn md mas ma ρ S = (mas ρ S).toS ρ (Fj cs ix il nn md ma ρ) := rfl
theorem KI {x y z : Vl} : Fj cs ix il 3 md ma ρ [x, y, z] S = (ma ρ S).toS ρ (Fi cs ix il md ρ [x, y, z]) := rfl
theorem KH {x y z d : Vl} : Fi cs ix il md ρ [x, y, z] d S = Cr cs ix il ρ (md [x, y, z, d] S) := rfl
end
end PH
namespace L2
open PySem PySem.Spec PyProof.Rows
abbrev IG := Value × Option Nat × (Addr -> Value -> Option Addr -> TS)
def Ends.gone (D : Ends) (i : Nat) : Ends := { nx := fun σ H => D.nx (σ.set i none) H, rt := D.rt, bk := fun σ H => D.bk (σ.set i none) H, ct := fun σ H => D.ct (σ.set i none) H }
def wishA (ts : Addr -> Value -> Option Addr -> TS) (o : Option Nat) (D : Ends) (a : Addr) (cls : Value) (d : Option Addr) (σ : St) (H : Hp) : Prop := match o with
 | none => ts a cls d D σ H
 | some i => ts a cls d (D.gone i) (σ.set i (some (.ref a))) H
def Ae (K : aD) (Wout : WX) (D : Ends) : List IG -> WX
 | [] => Wout
 | z :: r => fun cls d σ H => ∃ b, De K cls z.1 = some b /\ (b = true -> ∀ a, H a = none -> wishA z.2.2 z.2.1 D a cls d σ H) /\ (b = false -> Ae K Wout D r cls d σ H)
inductive HdsA (X : Cx) : List ExceptHandler -> List IG -> Prop
 | nil : HdsA X [] []
 | cons {x : Str} {c : Value} {ts : Addr -> Value -> Option Addr -> TS} {b₀ : Stmt} {suite : List Stmt} {np pos' : Pos} {hds : List ExceptHandler} {l : List IG} (hc : Names X x c)
   (hsu : ∀ (a : Addr) (oe : Obj) (cls : Value) (d : Option Addr) (pn : List (Addr × Obj)), Zc cls d oe -> (∃ vs, oe.data = .fields vs) -> PSs (X.suite a ((a, oe) :: pn)) (b₀ :: suite) (ts a cls d)) (r : HdsA X hds l) :
   HdsA X (.ExceptHandler (some (.Name x np)) none (b₀ :: suite) pos' :: hds) ((c, none, ts) :: l)
 | consA {x n : Str} {i : Nat} {c : Value} {ts : Addr -> Value -> Option Addr -> TS} {b₀ : Stmt} {suite : List Stmt} {np pos' : Pos} {hds : List ExceptHandler} {l : List IG} (hc : Names X x c) (hN : X.N.Nodup) (hi : X.N[i]? = some n) (hln : X.env.kindOf n = some .local)
   (hsu : ∀ (a : Addr) (oe : Obj) (cls : Value) (d : Option Addr) (pn : List (Addr × Obj)), Zc cls d oe -> (∃ vs, oe.data = .fields vs) -> PSs (X.suite a ((a, oe) :: pn)) (b₀ :: suite) (ts a cls d)) (r : HdsA X hds l) :
   HdsA X (.ExceptHandler (some (.Name x np)) (some n) (b₀ :: suite) pos' :: hds) ((c, some i, ts) :: l)
section
variable {X : Cx} {body : List Stmt} {h₀ : ExceptHandler} {hds : List ExceptHandler} {l : List IG} {pos : Pos} {tb : WX -> TS} {Wout : WX}
theorem FZ (hs : X.stack = X.env :: X.outer) (hf : X.env.frame = some X.env.locals) (tk : Takes X Wout)
  (hb : ∀ (W : WX) (pn : List (Addr × Obj)) (xe : Value -> Shared -> Prop), Takes (X.tr pn xe) W -> PassesOwn (model X.prog X.w) X.A X.env xe -> PSs (X.tr pn xe) body (tb W))
  (hh : HdsA X (h₀ :: hds) l) : PS X (.Try body (h₀ :: hds) [] [] pos) (fun D σ H => tb (Ae X.K Wout D l) D σ H) := by
 refine ⟨fun pins s σ H D I hq => ?_⟩
 have okX := I.ok;have frm : X.A.frames = some (X.env :: X.outer) := by rw [okX.frames, hs]
 refine wpAny_Try_except ?_
 refine wpAny_mono ((hb (Ae X.K Wout D l) (X.pn ++ pins) (fun x s₁ => wpAny (model X.prog X.w) X.A (noteFrame x X.env) (fun _ s₂ => wpAny (model X.prog X.w) X.A (setFlight x none) (fun _ s₃ =>
  wpAny (model X.prog X.w) X.A (handleBy x X.env (h₀ :: hds)) (SP X pins D) X.xe s₃) X.xe s₂) X.xe s₁) (fun u s' xx => ?_) PassesOwn.looking).run [] s σ H D (I.toTry _) hq) (fun fl s1 hsp => ?_) (fun _ _ z => z)
 ·obtain ⟨ea, G, sI, pinT, σT, HT, cls, ed, rfl, JT, keepG, upT, skyT, noneA, osT, bareT, wish⟩ := xx
  have JI : Inv X pins σT HT sI := JT.ofTry okX;have skyE : Sky G (X.env :: X.outer) ea (Zc cls ed) X.env.locals s'.heap := by rw [<- hs]; exact skyT
  show wpAny (model X.prog X.w) X.A (noteFrame (.ref ea) X.env) _ _ _
  refine Sky.land Zc.steady frm hf skyE fun hA flA upA => ?_
  have JA : Inv X pins σT HT { s' with heap := hA } := JI.landed keepG flA.1 (upT.trans upA) osT bareT
  obtain ⟨oA, vA, atA, zA, dA⟩ := flA.there;have ea_fr : ea ∉ frs (X.env :: X.outer) := fun hm => by
   obtain ⟨_, o', e', hnf⟩ := flA.2.2.1.mem hm;rw [atA] at e'; cases e';exact hnf _ dA
  have ea_L : ea ≠ X.env.locals := fun z => ea_fr (BI.mpr ⟨X.env, aV, by rw [hf, z]⟩)
  have ea_F : ea ∉ X.fs := fun hm => by
   obtain ⟨e1, he1, q1⟩ := BI.mp hm;exact ea_fr (BI.mpr ⟨e1, aK _ he1, q1⟩)
  have SA := JA.suite atA dA noneA ea_L ea_F;have tested : ∀ {x : Str} {c : Value} {np : Pos} (hc : Names X x c) {Q : Value -> Shared -> Prop} {E : Value -> Shared -> Prop}, Q c { s' with heap := hA } -> wpAny (model X.prog X.w) (X.A.mark (some (.ref ea))) (eval (.Name x np) X.env) Q E { s' with heap := hA } := fun {x c np} hc {Q E} q => by
   obtain ⟨hg, hdbg, hm | ⟨hm, hv, hnn⟩⟩ := hc
   ·exact ld_glob (X := X.suite ea ((ea, oA) :: (X.pn ++ pins))) SA hg hm q hdbg
   ·exact ld_blt (X := X.suite ea ((ea, oA) :: (X.pn ++ pins))) SA hg hm hv q hnn hdbg
  have lookA : PySem.W.Looks (model X.prog X.w) hA (typeOf (.ref ea)) cls := fun A Q E s k q => wpAny_typeOf_ref (k _ _ atA) (by rw [zA.1]; exact q)
  have clauses : ∀ {hds' : List ExceptHandler} {l' : List IG}, HdsA X hds' l' -> Ae X.K Wout D l' cls ed σT HT -> wpAny (model X.prog X.w) X.A (handleBy (.ref ea) X.env hds') (SP X pins D) X.xe { s' with heap := hA } := by
   intro hds' l' hk
   induction hk with
   | nil =>
    intro w;refine wpAny_handleBy_nil ?_
    obtain ⟨_, _, _, oB, vB, T, oT, tB, atB, zB, dB, h1B, _⟩ := id flA;unfold PySem.passOn;refine wpAny_bind (wpAny_field atB dB h1B ?_)
    rw [if_neg (show ¬ ((Value.ref T == Value.none) = true) from by simp)]
    have on : wpAny (model X.prog X.w) X.A (setFlight (.ref ea) X.env.frame) (fun _ sB => wpAny (model X.prog X.w) X.A (throw (.ref ea) : Sem Flow) (SP X pins D) X.xe sB) X.xe { s' with heap := hA } := by
     rw [hf];refine HandSPX.setFlight_upZ flA fun hB landB upB => wpAny_throw (tk _ _ ?_)
     exact ⟨ea, G, sI, pins, σT, HT, cls, ed, rfl, JI, keepG, (upT.trans upA).trans upB, .inr (.inr (by rw [hs]; exact landB)), noneA, osT, bareT, w⟩
    first
     | exact wpAny_bind (wpAny_pure (wpAny_bind on))
     | exact wpAny_bind on
   | @cons x c ts b₀ suite np pos' hds2 l2 hc hsu r ih =>
    intro w;obtain ⟨b, hb1, hyes, hno⟩ := w;refine wpAny_handleBy_cons (codeAny_handlers_test (tested hc ((PySem.W.exm_one (M := model X.prog X.w) JA.kIn lookA hb1).here ?_))) (by intro q; cases q)
    cases b with
    | true =>
     refine codeAny_handlers_suite (HandSPX.lands_againZ flA fun hB flB upB => ?_)
     obtain ⟨oB, vB, atB, zB, dB⟩ := flB.there;have JB : Inv X pins σT HT { s' with heap := hB } := JI.landed keepG flB.1 ((upT.trans upA).trans upB) osT bareT
     have SB := JB.suite atB dB noneA ea_L ea_F;refine wpAny_mono ((hsu ea oB cls ed (X.pn ++ pins) zB ⟨_, dB⟩).run [] _ _ HT _ SB (hyes rfl ea noneA)) (fun fl s6 hsp => ?_) (fun _ _ z => False.elim z)
     cases fl with
     | next => obtain ⟨σ6, H6, S6, q6⟩ := hsp; exact ⟨_, _, S6.unsuite okX, q6⟩
     | brk => obtain ⟨σ6, H6, S6, q6⟩ := hsp; exact ⟨_, _, S6.unsuite okX, q6⟩
     | cont => obtain ⟨σ6, H6, S6, q6⟩ := hsp; exact ⟨_, _, S6.unsuite okX, q6⟩
     | ret u => obtain ⟨v6, σ6, H6, S6, r6, q6⟩ := hsp; exact ⟨_, _, _, S6.unsuite okX, r6, q6⟩
    | false => exact ih (hno rfl)
   | @consA x n i c ts b₀ suite np pos' hds2 l2 hc hN hi hln hsu r ih =>
    intro w;obtain ⟨b, hb1, hyes, hno⟩ := w;refine wpAny_handleBy_cons (codeAny_handlers_test (tested hc ((PySem.W.exm_one (M := model X.prog X.w) JA.kIn lookA hb1).here ?_))) (by intro q; cases q)
    cases b with
    | true =>
     refine codeAny_handlers_suite_as (HandSPX.lands_againZ flA fun hB flB upB => ?_)
     obtain ⟨oB, vB, atB, zB, dB⟩ := flB.there;have JB : Inv X pins σT HT { s' with heap := hB } := JI.landed keepG flB.1 ((upT.trans upA).trans upB) osT bareT
     have SB := JB.suite atB dB noneA ea_L ea_F;refine store_ok (X := X.suite ea ((ea, oB) :: (X.pn ++ pins))) (v := .ref ea) SB hN hi (.inl hln) rfl (fun s5 S5 => ?_) (.inr hln)
     refine wpAny_mono ((hsu ea oB cls ed (X.pn ++ pins) zB ⟨_, dB⟩).run [] s5 _ HT _ S5 (hyes rfl ea noneA)) (fun fl s6 hsp => ?_) (fun _ _ z => False.elim z)
     have unbound : ∀ {σ6 : St} {H6 : Hp} {Q : Shared -> Prop}, Inv (X.suite ea ((ea, oB) :: (X.pn ++ pins))) [] σ6 H6 s6 -> (∀ s7, Inv X pins (σ6.set i none) H6 s7 -> Q s7) ->
       wpAny (model X.prog X.w) X.A (do bindName X.env n .none; unbindBehindTheSuite X.env n pos') (fun _ s7 => Q s7) X.xe s6 := fun {σ6 H6 Q} S6 hq => gone_ok (S6.unsuite okX) hN hi hln hq
     cases fl with
     | next => obtain ⟨σ6, H6, S6, q6⟩ := hsp; exact unbound S6 fun s7 J7 => ⟨_, _, J7, q6⟩
     | brk => obtain ⟨σ6, H6, S6, q6⟩ := hsp; exact unbound S6 fun s7 J7 => ⟨_, _, J7, q6⟩
     | cont => obtain ⟨σ6, H6, S6, q6⟩ := hsp; exact unbound S6 fun s7 J7 => ⟨_, _, J7, q6⟩
     | ret u => obtain ⟨v6, σ6, H6, S6, r6, q6⟩ := hsp; exact unbound S6 fun s7 J7 => ⟨_, _, _, J7, r6, q6⟩
    | false => exact ih (hno rfl)
  exact clauses hh wish
 ·cases fl with
  | next => obtain ⟨σ1, H1, J1, q1⟩ := hsp; exact wpAny_execs_nil ⟨σ1, H1, J1.ofTry okX, q1⟩
  | brk => obtain ⟨σ1, H1, J1, q1⟩ := hsp; exact ⟨σ1, H1, J1.ofTry okX, q1⟩
  | cont => obtain ⟨σ1, H1, J1, q1⟩ := hsp; exact ⟨σ1, H1, J1.ofTry okX, q1⟩
  | ret u => obtain ⟨v1, σ1, H1, J1, r1, q1⟩ := hsp; exact ⟨v1, σ1, H1, J1.ofTry okX, r1, q1⟩
end
end L2
namespace PH
open PySem PySem.Spec PyProof.Rows L2
inductive XJ where
 | c (v : L2.V) (d : PH.D) | f (n : Str) | v (i : Nat) | fl (n : Str) (i : Nat)
def jR (K : aD) (a : Addr) (cls : Value) (d : Option Addr) (C : Addr) (k : Nat) : List XJ -> TA
 | [] => tNil
 | .c v _ :: r => tCons (tC v) (jR K a cls d C k r)
 | .f n :: r => tCons (tXf a cls d C n (uI k)) (jR K a cls d C k r)
 | .v i :: r => tCons (uI i) (jR K a cls d C k r)
 | .fl n i :: r => tCons (fun σ H Q => tXf a cls d C n (uI k) σ H fun x H1 => tCB (c1 (Rw K)) (tCons (uI i) tNil) σ H1 fun y H2 => Ry K x y H2 Q) (jR K a cls d C k r)
def jF (e : Er) (ρ : Ev) (S : aO) : List XJ -> Option (List PH.D × aO)
 | [] => some ([], S)
 | .c _ d :: r => (match jF e ρ S r with
  | some (ds, S') => some (d :: ds, S')
  | none => none)
 | .f n :: r => (match (e.ns.zip e.xs).lookup n, jF e ρ S r with
  | some d, some (ds, S') => some (d :: ds, S')
  | _, _ => none)
 | .v i :: r => (match ρ[i]? with
  | some (some (.cel m)) => (match S[m]? with
   | some (.lst xs) => (match jF e ρ (S.set m .dead) r with
    | some (ds, S') => some (.lst xs :: ds, S')
    | none => none)
   | _ => none)
  | _ => none)
 | .fl n i :: r => (match (e.ns.zip e.xs).lookup n, ρ[i]? with
  | some (.int z), some (some (.cel m)) => (match S[m]? with
   | some (.lst xs) => (match jF e ρ S r with
    | some (ds, S') => some (.int (z + xs.length) :: ds, S')
    | none => none)
   | _ => none)
  | _, _ => none)
def jOk : List XJ -> Prop
 | [] => True
 | .c v d :: r => (∀ (K : aD) (Bk : Addr -> Prop) (H : Hp), Rep K Bk H d v) /\ jOk r
 | _ :: r => jOk r
section
variable {X : Cx} {W : WX} {e : Expr} {es : List Expr} {pos : Pos} {K : aD} {B : Addr -> Prop} {φ φ' : List Addr} {S S' : aO} {H H' : Hp} {σ : L2.St} {m : FS} {D : Ends} {cs : List Str} {x : Str}
theorem SZ {er : Er} {cl : Value} {xd : Option Addr} {C : Str} {k : Nat} {a : Addr} {n : Str} {z : PH.D} {Q : L2.VK} (rx : RepX K B φ S H er cl xd) (hC : er.cls = C) (hσ : sl σ k = some (.ref a)) (q0 : (er.ns.zip er.xs).lookup n = some z)
  (q : ∀ v, Rep K (lI B φ S) H z v -> Q v H) : tXf a cl xd (He.ga K C) n (uI k) σ H Q := by
 obtain ⟨ec, rest⟩ := rx;subst hC;rcases rest with ⟨e1, _⟩ | ⟨dd, us, e1, e2, l⟩
 ·rw [e1] at q0; simp at q0
 ·obtain ⟨v, h2, h3⟩ := C7 l q0
  show (match sl σ k with | some v => _ | none => False)
  rw [hσ];exact ⟨rfl, ec, dd, _, v, e1, e2, h2, q v h3⟩
theorem RepX.kill {er : Er} {cl : Value} {xd : Option Addr} {n : Nat} (rx : RepX K B φ S H er cl xd) (I : GInv K B φ S H) : RepX K B φ (S.set n .dead) H er cl xd := by
 obtain ⟨h1, h2⟩ := rx;refine ⟨h1, ?_⟩
 rcases h2 with h2 | ⟨dd, us, e1, e2, l⟩
 ·exact .inl h2
 ·exact .inr ⟨dd, us, e1, e2, Ext.kill.repL I l⟩
theorem HQ {er : Er} {cl : Value} {xd : Option Addr} {C : Str} {k : Nat} {a : Addr} {ρ : Ev} (hC : er.cls = C) (hσ : sl σ k = some (.ref a)) : ∀ {its : List XJ} {S : aO} {ds : List PH.D} {S' : aO} {Q : List L2.V -> Hp -> Prop}, jOk its -> RepX K B φ S H er cl xd -> GInv K B φ S H -> RepE K B φ S H ρ σ -> jF er ρ S its = some (ds, S') ->
  (∀ vs, GInv K B φ S' H -> Ext φ S H φ S' H -> RepL K (lI B φ S') H ds vs -> Q vs H) -> jR K a cl xd (He.ga K C) k its σ H Q
 | [], S, ds, S', Q, ok, rx, I, E, h, q => by
  cases h; exact q [] I Ext.refl rfl
 | .c v d :: r, S, ds, S', Q, ok, rx, I, E, h, q => by
  unfold jF at h;cases q1 : jF er ρ S r with
  | none => rw [q1] at h; cases h
  | some o =>
   obtain ⟨es, T⟩ := o;rw [q1] at h;cases h
   show jR K a cl xd (He.ga K C) k r σ H fun vs H' => Q (v :: vs) H'
   exact HQ (Q := fun vs H' => Q (v :: vs) H') hC hσ ok.2 rx I E q1 fun vs I' X' l => q (v :: vs) I' X' ⟨v, vs, rfl, ok.1 _ _ _, l⟩
 | .f n :: r, S, ds, S', Q, ok, rx, I, E, h, q => by
  unfold jF at h;cases q0 : (er.ns.zip er.xs).lookup n with
  | none => rw [q0] at h; cases h
  | some z =>
   cases q1 : jF er ρ S r with
   | none => rw [q0, q1] at h; cases h
   | some o =>
    obtain ⟨es, T⟩ := o;rw [q0, q1] at h;cases h
    show tXf a cl xd (He.ga K C) n (uI k) σ H fun v H3 => jR K a cl xd (He.ga K C) k r σ H3 fun vs H' => Q (v :: vs) H'
    refine SZ rx hC hσ q0 fun v rv => ?_
    show jR K a cl xd (He.ga K C) k r σ H fun vs H' => Q (v :: vs) H'
    exact HQ (Q := fun vs H' => Q (v :: vs) H') hC hσ ok rx I E q1 fun vs I' X' l => q (v :: vs) I' X' ⟨v, vs, rfl, Rep.kp (X'.kp I) _ _ rv, l⟩
 | .v i :: r, S, ds, S', Q, ok, rx, I, E, h, q => by
  unfold jF at h;split at h
  ·rename_i mm q0
   split at h
   ·rename_i xs q2
    split at h
    ·rename_i es T q1
     cases h;obtain ⟨v, hv, ad, rfl, hφ⟩ := E.2 i _ q0;obtain ⟨ws, h2, l2⟩ := I.ok mm _ ad q2 hφ;have X1 := Ext.kill (φ := φ) (S := S) (H := H) (n := mm);have I1 := I.kill (n := mm);have nb := I.killed q2 (by simp) hφ
     show (match sl σ i with | some v => _ | none => False)
     rw [Jj hv];exact HQ (Q := fun vs H' => Q (.ref ad :: vs) H') hC hσ ok (rx.kill I) I1 (E.ext X1 I) q1 fun vs I' X' l => q (.ref ad :: vs) I' (X1.trans X') ⟨.ref ad, vs, rfl, ⟨ad, ws, rfl, ((X'.kp I1).old _ _ h2 nb).2, h2, X'.repL I1 (X1.repL I l2)⟩, l⟩
    ·cases h
   ·cases h
  ·cases h
 | .fl n i :: r, S, ds, S', Q, ok, rx, I, E, h, q => by
  unfold jF at h;split at h
  ·rename_i z mm q0 q3
   split at h
   ·rename_i xs q2
    split at h
    ·rename_i es T q1
     cases h;obtain ⟨v, hv, ad, rfl, hφ⟩ := E.2 i _ q3;obtain ⟨ws, h2, l2⟩ := I.ok mm _ ad q2 hφ
     show tXf a cl xd (He.ga K C) n (uI k) σ H fun x H1 => tCB (c1 (Rw K)) (tCons (uI i) tNil) σ H1 fun y H2 => Ry K x y H2 fun v H3 => jR K a cl xd (He.ga K C) k r σ H3 fun vs H' => Q (v :: vs) H'
     refine SZ rx hC hσ q0 fun v rv => ?_
     cases rv
     show (match sl σ i with | some v => _ | none => False)
     rw [Jj hv];refine ⟨ws, .inl (SqL.of h2), ?_⟩
     show jR K a cl xd (He.ga K C) k r σ H fun vs H' => Q (.int (z + ws.length) :: vs) H'
     rw [l2.len];exact HQ (Q := fun vs H' => Q (.int (z + xs.length) :: vs) H') hC hσ ok rx I E q1 fun vs I' X' l => q (.int (z + xs.length) :: vs) I' X' ⟨.int (z + xs.length), vs, rfl, rfl, l⟩
    ·cases h
   ·cases h
  ·cases h
theorem US {a : Addr} {cls : Value} {d : Option Addr} {C : Addr} {k : Nat} : PA X [] (jR X.K a cls d C k []) := pa_nil
theorem jx_c {a : Addr} {cls : Value} {d : Option Addr} {C : Addr} {k : Nat} {v : L2.V} {dd : PH.D} {its : List XJ} (h : PE X e (tC v)) (r : PA X es (jR X.K a cls d C k its)) (hs : starEach (e :: es) X.env = (false, eval e X.env) :: starEach es X.env := by rfl) : PA X (e :: es) (jR X.K a cls d C k (.c v dd :: its)) := pa_cons h r hs
theorem jx_v {a : Addr} {cls : Value} {d : Option Addr} {C : Addr} {k i : Nat} {its : List XJ} (h : PE X e (uI i)) (r : PA X es (jR X.K a cls d C k its)) (hs : starEach (e :: es) X.env = (false, eval e X.env) :: starEach es X.env := by rfl) : PA X (e :: es) (jR X.K a cls d C k (.v i :: its)) := pa_cons h r hs
theorem jx_f {a : Addr} {oe : Obj} {cls : Value} {d : Option Addr} {C : Addr} {k : Nat} {pn : List (Addr × Obj)} {nm : Str} {its : List XJ} (T : XfC X.K C) (hno : jS X.K (.ref C) nm = some none) (hz : Zc cls d oe) (hf : ∃ vs, oe.data = .fields vs) (he : PE (X.suite a ((a, oe) :: pn)) e (uI k)) (r : PA (X.suite a ((a, oe) :: pn)) es (jR X.K a cls d C k its))
  (hb : attributeBase e nm X.env (eval e X.env) = eval e X.env := by rfl) (hs : starEach (.Attribute e nm pos :: es) X.env = (false, eval (.Attribute e nm pos) X.env) :: starEach es X.env := by rfl) : PA (X.suite a ((a, oe) :: pn)) (.Attribute e nm pos :: es) (jR X.K a cls d C k (.f nm :: its)) := pa_cons (pe_xf T hno hz hf he hb) r hs
inductive HJ where
 | m (f : FS) | j (k : Nat) (its : List XJ)
def rC (cs : List Str) : List (Str × HJ) -> Er -> Ev -> aO -> Out
 | [], e, ρ, S => .err e ρ S
 | (c, .m m) :: r, e, ρ, S => if e.cls = c then (match m ρ S with
   | .err _ _ _ => .stuck
   | o => o) else rC cs r e ρ S
 | (c, .j k its) :: r, e, ρ, S => if e.cls = c then (if k < ρ.length then (match jF e (ρ.set k none) S its with
   | some (ds, S') => if ds.length <= sizeLine then .ret (.dat (.tup ds)) S' else .stuck
   | none => .stuck) else .stuck) else rC cs r e ρ S
def O4 : List (Str × HJ) -> Prop
 | [] => True
 | (_, .m _) :: r => O4 r
 | (_, .j _ its) :: r => jOk its /\ O4 r
def EU (cs : List Str) (m : FS) (hs : List (Str × HJ)) : FS := fun ρ S => match m ρ S with
 | .err e ρ' S' => if e.cls ∈ cs /\ ∀ h ∈ hs, h.1 ∈ cs then rC cs hs e ρ' S' else .stuck
 | o => o
def hjR (K : aD) : Str × HJ -> IG
 | (c, .m m) => (.ref (He.ga K c), none, fun _ _ _ => kP K wNo m)
 | (c, .j k its) => (.ref (He.ga K c), some k, fun a cls d => tRet (tTup (jR K a cls d (He.ga K c) k its)))
def hsJ (K : aD) (hs : List (Str × HJ)) : List IG := hs.map (hjR K)
theorem RepE.wipe1 {ρ : Ev} {v : L2.V} (E : RepE K B φ S H ρ σ) (k : Nat) : RepE K B φ S H (ρ.set k none) (σ.set k (some v)) := by
 refine ⟨by simp [E.1], fun i d h => ?_⟩
 by_cases e : k = i
 ·subst e
  rw [aW, if_pos rfl] at h;split at h
  ·cases h
  ·cases h
 ·rw [aW, if_neg e] at h ⊢
  exact E.2 i d h
theorem yE {e : Er} {c : Value} {d : Option Addr} {Wout : WX} (M : XMs K cs) (he : e.cls ∈ cs) (rx : RepX K B φ S H e c d) (I : GInv K B φ S H) {ρ : Ev} (E : RepE K B φ S H ρ σ) : ∀ {hs : List (Str × HJ)}, O4 hs -> (∀ h ∈ hs, h.1 ∈ cs) -> FinS K Wout D B φ S H (rC cs hs e ρ S) -> Ae K Wout D (hsJ K hs) c d σ H
 | [], _, _, f => f φ σ c d H I Ext.refl E rx
 | (c', .m m) :: r, ok, hc, f => by
  unfold rC at f;have q := M e.cls he c' (hc _ (aV ..));have ec : c = .ref (He.ga K e.cls) := rx.1;refine ⟨decide (e.cls = c'), by rw [ec]; exact q, fun h a na => ?_, fun h => ?_⟩
  ·rw [if_pos (of_decide_eq_true h)] at f
   exact ⟨B, φ, S, ρ, I, E, f.wNo⟩
  ·rw [if_neg (of_decide_eq_false h)] at f
   exact yE M he rx I E (hs := r) ok (fun h hh => hc h (aK _ hh)) f
 | (c', .j k its) :: r, ok, hc, f => by
  unfold rC at f;have q := M e.cls he c' (hc _ (aV ..));have ec : c = .ref (He.ga K e.cls) := rx.1;refine ⟨decide (e.cls = c'), by rw [ec]; exact q, fun h a na => ?_, fun h => ?_⟩
  ·have ecl := of_decide_eq_true h
   rw [if_pos ecl] at f;split at f
   ·rename_i hk
    split at f
    ·rename_i ds T qd
     split at f
     ·rename_i hsz
      have hl : k < σ.length := by rw [<- E.1]; exact hk
      refine HQ (σ := σ.set k (some (.ref a))) ecl (Jj (by rw [aW, if_pos rfl, if_pos hl])) ok.1 rx I (E.wipe1 k) qd fun vs I' X' l => ⟨by rw [l.len]; exact hsz, fun p hp => ?_⟩
      have X2 := Ext.new (o := .tup vs) I' hp;exact f φ _ _ (I'.new hp) (X'.trans X2) ⟨p, vs, rfl, .inl (.inl upd_same), X2.repL I' l⟩
     ·exact f.elim
    ·exact f.elim
   ·exact f.elim
  ·rw [if_neg (of_decide_eq_false h)] at f
   exact yE M he rx I E (hs := r) ok.2 (fun h hh => hc h (aK _ hh)) f
theorem Mw {hs : List (Str × HJ)} (M : XMs K cs) (ok : O4 hs) (h : kP K W (EU cs m hs) D σ H) : kP K (Ae K W D (hsJ K hs)) m D σ H := by
 obtain ⟨B, φ, S, ρ, I, E, f⟩ := h;refine ⟨B, φ, S, ρ, I, E, ?_⟩
 unfold EU at f;cases q : m ρ S with
 | err e ρ' S' =>
  rw [q] at f;dsimp only at f;split at f
  ·rename_i hh
   exact fun φ' σ' c x H' I' X' E' r => yE M hh.1 r I' E' ok hh.2 (FinS.ext f X')
  ·exact f.elim
 | next ρ S' => rw [q] at f; exact f
 | ret d S' => rw [q] at f; exact f
 | brk ρ S' => rw [q] at f; exact f
 | cnt ρ S' => rw [q] at f; exact f
 | stuck => rw [q] at f; exact f
theorem RW {body : List Stmt} {h₀ : ExceptHandler} {hds : List ExceptHandler} {hs' : List (Str × HJ)} (M : XMs X.K cs) (ok : O4 hs') (hs : X.stack = X.env :: X.outer) (hf : X.env.frame = some X.env.locals) (tk : Takes X W)
  (hb : ∀ (W : WX) (pn : List (Addr × Obj)) (xe : Value -> Shared -> Prop), Takes (X.tr pn xe) W -> PassesOwn (model X.prog X.w) X.A X.env xe -> PSs (X.tr pn xe) body (kP X.K W m))
  (hh : HdsA X (h₀ :: hds) (hsJ X.K hs')) : PS X (.Try body (h₀ :: hds) [] [] pos) (kP X.K W (EU cs m hs')) := fT (FZ (tb := fun W => kP X.K W m) hs hf tk hb hh) fun D σ H h => Mw M ok h
theorem UX : HdsA X [] (hsJ X.K []) := .nil
theorem hj_as {b₀ : Stmt} {suite : List Stmt} {hds : List ExceptHandler} {k : Nat} {its : List XJ} {n : Str} {hs' : List (Str × HJ)} {np pos' : Pos} (g : X.mg x = some (.ref (He.ga X.K x))) (hN : X.N.Nodup) (hi : X.N[k]? = some n) (hln : X.env.kindOf n = some .local)
  (hsu : ∀ (a : Addr) (oe : Obj) (cls : Value) (d : Option Addr) (pn : List (Addr × Obj)), Zc cls d oe -> (∃ vs, oe.data = .fields vs) -> PSs (X.suite a ((a, oe) :: pn)) (b₀ :: suite) (tRet (tTup (jR X.K a cls d (He.ga X.K x) k its)))) (r : HdsA X hds (hsJ X.K hs')) (hg : Gl X x := by rfl) (hd : (x == ("__debug__" : Str)) = false := by decide) :
  HdsA X (.ExceptHandler (some (.Name x np)) (some n) (b₀ :: suite) pos' :: hds) (hsJ X.K ((x, .j k its) :: hs')) := .consA ⟨hg, hd, .inl g⟩ hN hi hln hsu r
end
section
variable {ρ : Ev} {S : aO} {m : FS} {cs : List Str} {hs : List (Str × HJ)} {e : Er}
def HN (cs : List Str) (hs : List (Str × HJ)) (o : Out) : Out := match o with
 | .err e ρ' S' => if e.cls ∈ cs /\ ∀ h ∈ hs, h.1 ∈ cs then rC cs hs e ρ' S' else .stuck
 | o => o
theorem OC : EU cs m hs ρ S = HN cs hs (m ρ S) := by
 unfold EU HN;cases m ρ S <;> rfl
end
def VW (P : Program) (w : World) (K : aD) (mg : Str -> Option Value) (base : Heap) (k : Nat) (x : Str) (ps : List Str) (dv : L2.V) (sp : SpG) : Prop :=
 ∃ fd, GFn P w K mg base k (He.ga K x) fd ps sp /\ mg x = some (.ref (He.ga K x)) /\ iB K (.ref (He.ga K x)) = true /\ ∃ ds, Vals [dv] ds /\ Binds K fd ps ds
section
variable {X : Cx} {W : WX} {e : Expr} {es : List Expr} {pos p : Pos} {x : Str} {mas : FA}
def A1 (md : Ds) (dd : PH.D) (ds : List Vl) (S1 : aO) : Res Vl := A2 md ds (.dat dd) S1
def Fg (md : Ds) (dd : PH.D) (as : FA) : FE := fun ρ S => (as ρ S).bind (A1 md dd)
theorem Os {j k : Nat} {ps : List Str} {md : Ds} {dv : L2.V} {dd : PH.D} {p0 pos2 : Pos} {nm : Str} (hn : X.mg nm = none) (F : VW X.prog X.w X.K X.mg X.base j x ps dv (spG X.K md)) (hr : Room k X.A) (rd' : ∀ Bk H, Rep X.K Bk H dd dv) (ha : PA X (e :: es) (GF X.K W mas)) (hjk : j + 3 <= k := by decide) (hg : Gl X x := by rfl) (hg2 : Gl X nm := by rfl) (hdb : (x == ("__debug__" : Str)) = false := by decide)
  (hbv : bootBuiltins nm = some (.type "list") := by decide +kernel) (hnm : nm ≠ "__name__" := by decide) (hdb2 : (nm == ("__debug__" : Str)) = false := by decide)
  (he : starEach (e :: es) X.env = (false, eval e X.env) :: starEach es X.env := by rfl) (hpl : (backTo pos (starEach es X.env)).any (·.1) = false := by rfl)
  (he2 : starEach [.Call (.Name x p) (e :: es) [] pos] X.env = (false, eval (.Call (.Name x p) (e :: es) [] pos) X.env) :: starEach [] X.env := by rfl) :
  PE X (.Call (.Name nm p0) [.Call (.Name x p) (e :: es) [] pos] [] pos2) (cZ X.K W (Fg md dd mas)) := by
 obtain ⟨fd, F, hm, hk, ds, hd, hb⟩ := F;refine dG (pe_listG (E := fun _ _ _ => False) (pgen_call F (hr.mono (by omega)) hg hm hk hb hd ha hdb he hpl) (fun pins σ H s e s' I h => by obtain ⟨_, _, _, _, _, _, _, _, _, _, _, _, w⟩ := h; exact w.elim) (fun _ _ _ h => h.elim) (hr.mono hjk) hg2 hn hbv hnm hdb2 he2) fun σ H Q h => ?_
 refine cU (k := fun ds ρ S1 => A1 md dd ds S1) h fun B φ S ρ ds vs H1 I E r f => ⟨B, φ, S, ds ++ [.dat dd], I, RepVs.snoc (d := .dat dd) r (rd' _ _), ?_⟩
 unfold A1 A2 at f;cases q : md (ds ++ [.dat dd]) S with
 | stuck => rw [q] at f; exact f.elim
 | err x' S3 => rw [q] at f; exact f.elim
 | ok zs S3 =>
  rw [q] at f;intro φ3 ws H3 I3 X3 r3 pp hp;have X4 := Ext.new (o := .lst ws) I3 hp;exact f φ3 (.ref pp) _ (I3.new hp) (X3.trans X4) ⟨pp, ws, rfl, I3.nblk hp, upd_same, RepL.kp (X4.kp I3) _ _ r3⟩
theorem OI {md : Ds} {dd : PH.D} {ρ : Ev} {S : aO} : Fg md dd mas ρ S = (mas ρ S).bind (A1 md dd) := rfl
theorem M0 {md : Ds} {dd : PH.D} {ds : List Vl} {S : aO} : A1 md dd ds S = A2 md ds (.dat dd) S := rfl
end
section
variable {P : Program} {w : World} {K : aD} {mg : Str -> Option Value} {base : Heap}
theorem okGD {x kw : Str} {dv : L2.V} {st : Stmt} {N ps : List Str} {k n : Nat} {mb : Dd} (F : FnK K x st kw dv) (g : mg x = some (.ref (He.ga K x))) (S : GScope N ps (defScope st)) (hn : n + 1 = ps.length)
  (b0 : ∀ (D : Addr) (doc pm : Value) (an : Option Addr) (cdv ct : Value) (us ks : List Value), us.length = n -> ks.length = 1 -> KwChain D ([kw].zip ks) (bindArgs (dJ x x (defArgs st) (defBody st) (defScope st) .none (.ref D) doc pm an cdv ct) ⟨us, []⟩) (ps.zip (us ++ ks)))
  (hbody : ∀ (cdv : Value) (A : Around) (outer : List Env) (s : Shared) (H : Hp) (E : XK) (pn : List (Addr × Obj)), Room k (A.deeper (envOfC x (defScope st) s.heap.objs.size (He.ga K x) cdv)) -> GSs (gcxOf P w K mg base N x (defScope st) (He.ga K x) cdv A outer s H E pn) (defBody st) (rdG K (fun c x _ H => E c x H) mb)) : VW P w K mg base (k + 1) x ps dv (spG K (Dk N.length ps.length mb)) := by
 obtain ⟨fd, F⟩ := F;have kp := F.kp;have bd := F.binds0 n (by simp) hn b0
 obtain ⟨oc, od, dV, kV, doc, pm, an, cdv, ct, osl, rfl, lk, hcd, hD, hK⟩ := F.ex;have hlen : ∀ vs H Q E, spG K (Dk N.length ps.length mb) vs H Q E -> vs.length = ps.length := fun vs H Q E ⟨B, φ, S, ds, I, r, f⟩ => by
  rw [r.len]
  by_cases h : ds.length = ps.length
  ·exact h
  ·unfold Dk at f
   rw [if_neg h] at f;exact f.elim
 refine ⟨_, gfn_of lk hcd S hlen fun A outer s H vs Q E pn hr hsp => ⟨_, hbody cdv A outer s H E pn hr, rfl, ?_⟩, g, kp, bd⟩
 have hv := hlen _ _ _ _ hsp;obtain ⟨B, φ, S, ds, I, r, f⟩ := hsp;refine ⟨B, φ, S, envOf N.length ds, I, DG r, ?_⟩
 unfold Dk at f;rw [if_pos (by rw [<- r.len]; exact hv)] at f
 cases q : mb (envOf N.length ds) S with
 | stuck => rw [q] at f; exact f.elim
 | err x' S' => rw [q] at f; exact f.elim
 | ok zs S' =>
  rw [q] at f;exact fun φ' ws σ' H' I' X' rl => f φ' ws H' I' X' rl
end
end PH
namespace PH
open PySem PySem.Spec PyProof PyProof.Rows L2
theorem QT {n : Nat} {fa : List He.Fa} {fn : List He.DefD} {ts : List He.Tab} {ex : aD -> Bool} {g : Addr -> Option Obj} {s : Shared} (h : ∀ a, g a = s.heap.get? a) : U0 n fa fn ts ex g = (T6 n fa fn ts ex).obs s := by
 have e : g = s.heap.get? := funext h;rw [e] <;> rfl
section
variable {X : Cx} {W : WX}
theorem fI {i j pos} : PE X (.Constant (.int i) j pos) (cZ X.K W (mC (.int i))) := On pe_int fun _ _ => rfl
theorem fS {x j pos} : PE X (.Constant (.str x) j pos) (cZ X.K W (mC (.str x))) := On pe_str fun _ _ => rfl
theorem fB {b j pos} : PE X (.Constant (.bool b) j pos) (cZ X.K W (mC (.bl b))) := On pe_bl fun _ _ => rfl
theorem fN {j pos} : PE X (.Constant .none j pos) (cZ X.K W (mC .non)) := On pe_non fun _ _ => rfl
end
section
variable {P : Program} {w : World} {K : aD} {mg : Str -> Option Value} {base : Heap}
theorem jU {x : Str} {st : Stmt} {N ps : List Str} {k : Nat} {md : FD} {mb : FS} (F : qU K x st) (g : mg x = some (.ref (He.ga K x))) (S : FnScope N ps (defScope st)) (R : Runs md N.length ps.length mb)
  (bnd : ∀ (kV doc pm : Value) (an : Option Addr) (cdv ct : Value) (us : List Value), us.length = ps.length -> bindArgs (dJ x x (defArgs st) (defBody st) (defScope st) .none kV doc pm an cdv ct) ⟨us, []⟩ = pure (ps.zip us))
  (hbody : ∀ (cdv : Value) (A : Around) (outer : List Env) (s : Shared) (H : Hp) (E : XK), Room k (A.deeper (envOfC x (defScope st) s.heap.objs.size (He.ga K x) cdv)) ->
   Takes (cxOf (L2.CX P w) P w K mg base N x (defScope st) (He.ga K x) cdv A outer s H E) (fun c x _ H => E c x H) -> N.Nodup ->
   PSs (cxOf (L2.CX P w) P w K mg base N x (defScope st) (He.ga K x) cdv A outer s H E) (defBody st) (kP K (fun c x _ H => E c x H) mb)) : tA P w K mg base (k + 1) x ps (spF K md) :=
 okF F g S R bnd fun cdv A outer s H E hr => hbody cdv A outer s H E hr (takes_of (X := cxOf (L2.CX P w) P w K mg base N x (defScope st) (He.ga K x) cdv A outer s H E) (E := E) rfl rfl rfl rfl) S.nd
theorem xM {C m q : Str} {st : Stmt} {N ps : List Str} {k : Nat} {md : FD} {mb : FS} (F : IM K C m q st) (g : Meth K (He.ga K C) m (He.ma K (He.ga K C) m)) (S : FnScope N ps (defScope st)) (R : Runs md N.length ps.length mb)
  (bnd : ∀ (kV doc pm : Value) (an : Option Addr) (cdv ct : Value) (us : List Value), us.length = ps.length -> bindArgs (dJ m q (defArgs st) (defBody st) (defScope st) .none kV doc pm an cdv ct) ⟨us, []⟩ = pure (ps.zip us))
  (hbody : ∀ (cdv : Value) (A : Around) (outer : List Env) (s : Shared) (H : Hp) (E : XK), Room k (A.deeper (envOfC q (defScope st) s.heap.objs.size (He.ma K (He.ga K C) m) cdv)) ->
   Takes (cxOf (L2.CX P w) P w K mg base N q (defScope st) (He.ma K (He.ga K C) m) cdv A outer s H E) (fun c x _ H => E c x H) -> N.Nodup ->
   PSs (cxOf (L2.CX P w) P w K mg base N q (defScope st) (He.ma K (He.ga K C) m) cdv A outer s H E) (defBody st) (kP K (fun c x _ H => E c x H) mb)) : OkMX P w K mg base (k + 1) C m ps (spF K md) :=
 okFM F g S R bnd fun cdv A outer s H E hr => hbody cdv A outer s H E hr (takes_of (X := cxOf (L2.CX P w) P w K mg base N q (defScope st) (He.ma K (He.ga K C) m) cdv A outer s H E) (E := E) rfl rfl rfl rfl) S.nd
end
end PH
namespace PH
open PySem PySem.Spec PyProof.Rows L2
def pT : FS :=
 (bS (oK (m1 (fIsi "int") (aC 0)) (NY (m1 (fIsi "bool") (aC 0)))))
def fG : FD := run 1 1 pT
def AK : FS :=
 (bS (oK (bA fG (aB (aC 0) aJ)) (rZ MS MS (mC (.int 0)) (aC 0) (mC (.int 1)))))
def vT : FD := run 1 1 AK
def mX : FE :=
 (oK (bA fG (aB (aC 4) aJ)) (rZ MS MS (aC 2) (aC 4) (aC 3)))
def kB : FS :=
 (aS (bR (Bu (nN (fM (m1 (fIsi "tuple") (aC 0)))) (mB (aR eV (m1 fR (aC 0)) (mC (.int 0))))) (bS (mC (.bl false))) bE)
 (aS (bR (Bu (nN (fM (m1 (fIsi "str") (aR bW (aC 0) (mC (.int 0)))))) (mB (m1 (gN true) (aR bW (aC 0) (mC (.int 0)))))) (bS (mC (.bl false))) bE)
 (aS (bV (m1 B7 (aR bW (aC 0) (mC (.int 0)))) (.tp [1, 2, 3]))
 (aS (bR (mB (aR IK (m1 fR (aC 0)) (aR (dD false) (aC 1) (mC (.int 1))))) (bS (mC (.bl false))) bE)
 (bS (m1 DD (Ar false (lQ (Aq false (aC 0) (fX (mC (.int 1))) pN)) (.nm 4) hY mX [4])))))))
def gE : FD := run 5 1 kB
def rM : FS :=
 (aS (bV (aR bW (aC 0) (mC (.int 0))) (.nm 1))
 (aS (bR (Bu (mB (aR eV (aC 1) (mC (.str "keep")))) (mB (aR eV (aC 1) (mC (.str "again"))))) (bS (cS false (aB (aR bW (aC 0) (mC (.int 1))) aJ))) bE)
 (aS (bR (mB (aR eV (aC 1) (mC (.str "either")))) (bS (cS false (aB (aR bW (aC 0) (mC (.int 1))) (aB (aR bW (aC 0) (mC (.int 2))) aJ)))) bE)
 (aS (bR (mB (aR eV (aC 1) (mC (.str "call")))) (bS (aR bW (aC 0) (mC (.int 3)))) bE)
 (bS (cS false aJ))))))
def lN : FD := run 2 1 rM
def nY : FS :=
 (aS (bV (aR bW (aC 0) (mC (.int 0))) (.nm 2))
 (aS (bR (Bu (mB (aR eV (aC 2) (mC (.str "keep")))) (mB (aR eV (aC 2) (mC (.str "again"))))) (bS (cC (aB (aC 2) (aB (aR bW (aC 1) (mC (.int 0))) aJ)))) bE)
 (aS (bR (mB (aR eV (aC 2) (mC (.str "either")))) (bS (cC (aB (aC 2) (aB (aR bW (aC 1) (mC (.int 0))) (aB (aR bW (aC 1) (mC (.int 1))) aJ))))) bE)
 (aS (bR (mB (aR eV (aC 2) (mC (.str "call")))) (bS (cC (aB (aC 2) (aB (aR bW (aC 0) (mC (.int 1))) (aB (aR bW (aC 0) (mC (.int 2))) (aB (aC 1) aJ)))))) bE)
 (bS (aC 0))))))
def nV : FD := run 3 2 nY
def iP (f_copied_block : FD) : FS :=
 (bS (bA nV (aB (aC 0) (aB (Ar false (lQ (bA lN (aB (aC 0) aJ))) (.nm 1) hY (bA (f_copied_block) (aB (aC 1) aJ)) [1]) aJ))))
def mZ (f_copied_statement : FD) : FS :=
 (bS (Ar false (lQ (aC 0)) (.nm 1) hY (bA (f_copied_statement) (aB (aC 1) aJ)) [1]))
def lF : Nat -> FD × FD
 | 0 => (vG, vG)
 | n + 1 => let r := lF n
  (run 2 1 (iP r.2), run 2 1 (mZ r.1))
def iH (n : Nat) : FD := (lF n).1
def eW (n : Nat) : FD := (lF n).2
def nZ : FS :=
 (aS (bR (fM (bA gE (aB (aC 0) aJ))) (bS (mC (.bl true))) bE)
 (aS (bR (Bu (nN (fM (m1 (fIsi "tuple") (aC 0)))) (Bu (mB (aR Hl (m1 fR (aC 0)) (mC (.int 2)))) (nN (fM (m1 (fIsi "str") (aR bW (aC 0) (mC (.int 0)))))))) (bS (mC (.bl false))) bE)
 (aS (bV (aR bW (aC 0) (mC (.int 0))) (.nm 3))
 (aS (bR (mB (aR eV (aC 3) (mC (.str "end")))) (bS (oK (aR eV (m1 fR (aC 0)) (mC (.int 2))) (bA vT (aB (aR bW (aC 0) (mC (.int 1))) aJ)))) bE)
 (aS (bR (mB (aR eV (aC 1) (mC (.int 3)))) (bS (mC (.bl false))) bE)
 (aS (bR (Bu (mB (aR eV (aC 3) (mC (.str "keep")))) (mB (aR eV (aC 3) (mC (.str "again"))))) (bS (oK (aR eV (m1 fR (aC 0)) (mC (.int 2))) (m1 (fIsi "list") (aR bW (aC 0) (mC (.int 1)))))) bE)
 (aS (bR (mB (aR eV (aC 3) (mC (.str "either")))) (bS (oK (aR eV (m1 fR (aC 0)) (mC (.int 3))) (oK (m1 (fIsi "list") (aR bW (aC 0) (mC (.int 1)))) (m1 (fIsi "list") (aR bW (aC 0) (mC (.int 2))))))) bE)
 (aS (bR (Bu (mB (aR IK (aC 3) (mC (.str "call")))) (mB (aR IK (m1 fR (aC 0)) (mC (.int 4))))) (bS (mC (.bl false))) bE)
 (aS (bR (Bu (nN (fM (bA fG (aB (aR bW (aC 0) (mC (.int 1))) aJ)))) (nN (mB (rZ MS Hl (mC (.int 0)) (aR bW (aC 0) (mC (.int 1))) (aC 2))))) (bS (mC (.bl false))) bE)
 (aS (bR (Bu (nN (fM (m1 (fIsi "bool") (aR bW (aC 0) (mC (.int 2)))))) (Bu (nN (fM (m1 (fIsi "list") (aR bW (aC 0) (mC (.int 3)))))) (mB (aR IK (m1 fR (aR bW (aC 0) (mC (.int 3)))) (mC (.int 2)))))) (bS (mC (.bl false))) bE)
 (bS (oK (m1 (fIsi "list") (aR bW (aR bW (aC 0) (mC (.int 3))) (mC (.int 0)))) (m1 (fIsi "list") (aR bW (aR bW (aC 0) (mC (.int 3))) (mC (.int 1))))))))))))))))
def kR : FD := run 4 3 nZ
def gA (f_first_fault : FD) : FS :=
 (kH [8, 9, 10] (aS (bV (bA (f_first_fault) (aB (aC 9) (aB (aR (dD false) (aC 1) (mC (.int 1))) (aB (aC 2) (aB (aR (dD false) (aC 7) (cC (aB (aC 8) aJ))) (aB (aC 4) aJ)))))) (.tp [10, 4]))
 (bR (mB (aR (Do true) (aC 10) (mC .non))) (bS (cC (aB (aC 10) (aB (aC 4) aJ)))) bE)))
def kW (f_first_fault : FD) : FS :=
 (kH [5, 6, 7, 8, 9, 10] (aS (bV (aR (dD false) (aC 3) (cC (aB (aC 5) aJ))) (.nm 7))
 (aS (bR (Bu (mB (aR eV (aC 5) (mC (.int 8)))) (Bu (mB (aR eV (aC 4) (mC (.int 12)))) (nN (fM (bA kR (aB (aC 6) (aB (aC 1) (aB (aC 2) aJ)))))))) (bS (cC (aB (aC 7) (aB (aC 4) aJ)))) bE)
 (aS (Li (fun x y => x + y) 4 (mC (.int 1)))
 (tW (EW (bA lN (aB (aC 6) aJ))) (.tp [8, 9]) (gA (f_first_fault)))))))
def oD (f_first_fault : FD) : FS :=
 (aS (tW (EW (aC 0)) (.tp [5, 6]) (kW (f_first_fault)))
 (bS (cC (aB (mC .non) (aB (aC 4) aJ)))))
def dO : Nat -> FD
 | 0 => vG
 | n + 1 => run 11 5 (oD (dO n))
def eC : FS :=
 (kH [2, 3, 4, 5] (aS (bR (nN (fM (m1 (fIsi "list") (aC 3)))) (mG "NoBook" ["path", "procedure"] (aB (aC 2) (aB (cC aJ) aJ))) bE)
 (aS (bV (bA (dO 10) (aB (aC 3) (aB (mC (.int 0)) (aB (m1 fR (aC 1)) (aB (cC aJ) (aB (mC (.int 0)) aJ)))))) (.tp [4, 5]))
 (bR (mB (aR (Do true) (aC 4) (mC .non))) (mG "NoBook" ["path", "procedure"] (aB (aC 2) (aB (aC 4) aJ))) bE))))
def rP : FS :=
 (aS (bR (Bu (nN (fM (m1 (fIsi "list") (aC 1)))) (nN (mB (rZ MS MS (mC (.int 1)) (m1 fR (aC 1)) (mC (.int 3)))))) (mG "NoBook" ["path", "procedure"] (aB (m1 sV (mC (.int 1))) (aB (cC aJ) aJ))) bE)
 (aS (tW (EW (aC 1)) (.tp [2, 3]) eC)
 (vV "Book" "own" (aC 0) (Ar false (lQ (aC 1)) (.nm 3) hY (bA (eW 20) (aB (aC 3) aJ)) [3]))))
def lP : FD := run 6 2 rP
def uO : FS :=
 (bS (m1 fR (gG "Book" "own" (aC 0))))
def qG : FD := run 1 1 uO
def oE : FS :=
 (bS (Ar false (lQ (gG "Book" "own" (aC 0))) (.nm 1) hY (bA (eW 20) (aB (aC 1) aJ)) [1]))
def kS : FD := run 2 1 oE
def AM : FS :=
 (bS (aR (dD true) (cS false (aB (mC (.int 0)) aJ)) (U7 (Ar false (lQ (Aq false (aC 0) pN (fX (mC (.int 63))))) (.nm 1) hY (m1 pS (aC 1)) [1]) (cS false (aB (mC (.int 0)) aJ)))))
def zQ : FD := run 2 1 AM
def AR : FS :=
 (aS (kT (fun x y => x + y) (aC 0) (mC (.int 0)) (mC (.int 1)))
 (aS (bV (aR (dD false) (mC (.int 1)) (aR xJ (m1 pS (aR bW (aC 0) (mC (.int 0)))) (aR qT (m1 fR (aC 0)) (mC (.int 1))))) (.nm 2))
 (aS (bV (m1 pS (aR bW (aC 0) (aC 2))) (.nm 3))
 (aS (bR (mB (aR fGe (aC 3) (aR M8 (mC (.int 10)) (mC (.int 18))))) (aS (Jw (aR uV (aC 3) (aC 1)) (aC 0) (aC 2))
 (bS (aR xJ (aC 3) (aC 1)))) bE)
 (aS (bV (aR xJ (aR oQ (m1 pS (aR (dD false) (aR (dD false) (aC 3) (aR oQ (mC (.int 7919)) (aR bW (aC 0) (mC (.int 0))))) (mC (.int 1)))) (mC (.int 48271))) (mC (.int 2147483647))) (.nm 4))
 (aS (bV (aR xJ (aR oQ (aC 4) (aR (dD false) (aR uV (aC 4) (mC (.int 1009))) (mC (.int 69621)))) (mC (.int 2147483647))) (.nm 4))
 (aS (bV (aR xJ (aR oQ (aC 4) (aR (dD false) (aR uV (aC 4) (mC (.int 2003))) (mC (.int 40692)))) (mC (.int 2147483399))) (.nm 4))
 (bS (aR xJ (aR uV (aC 4) (mC (.int 11))) (aC 1))))))))))
def cG : FD := run 5 2 AR
def uM : FS :=
 (aS (bR (mB (aR eV (aR bW (aC 0) (mC (.int 0))) (mC (.str "call")))) (bS (m1 (oR false) (aR bW (aC 0) (mC (.int 3))))) bE)
 (bS (Ar false (lQ (Aq false (aC 0) (fX (mC (.int 1))) pN)) (.nm 1) (fM (m1 (fIsi "list") (aC 1))) (aC 1) [1])))
def tU : FD := run 2 1 uM
def AL : FS :=
 (aS (bR (mB (aR eV (aR bW (aC 0) (mC (.int 0))) (mC (.str "call")))) (bS (aR (dD false) (Aq false (aC 0) pN (fX (mC (.int 3)))) (cC (aB (aC 1) aJ)))) bE)
 (aS (bR (mB (aR eV (m1 fR (aC 1)) (mC (.int 0)))) (bS (aC 0)) bE)
 (bS (aR (dD false) (cC (aB (aR bW (aC 0) (mC (.int 0))) aJ)) (m1 fTuple (aC 1))))))
def zP : FD := run 2 2 AL
def yI (f_L_copy : FD) : FE :=
 (bA zP (aB (aC 1) (aB (Ar false (lQ (bA tU (aB (aC 1) aJ))) (.nm 2) hY (bA (f_L_copy) (aB (aC 2) aJ)) [2]) aJ)))
def AS (f_L_copy : FD) : FS :=
 (bS (Ar false (lQ (aC 0)) (.nm 1) hY (yI (f_L_copy)) [1]))
def sR : Nat -> FD
 | 0 => vG
 | n + 1 => run 3 1 (AS (sR n))
def uL : FS :=
 (bS (Ar false (lQ (aC 0)) (.nm 1) hY (bA (sR 10) (aB (aC 1) aJ)) [1]))
def tT : FD := run 2 1 uL
def uG (f_L_same : FD) : FE :=
 (bA (f_L_same) (aB (aR bW (aC 0) (aC 2)) (aB (aR bW (aC 1) (aC 2)) aJ)))
def iX (f_L_same : FD) : FS :=
 (aS (bR (fM (m1 (fIsi2 "list" "tuple") (aC 0))) (aS (bR (Bu (mB (aR IK (m1 (fIsi "list") (aC 0)) (m1 (fIsi "list") (aC 1)))) (mB (aR IK (m1 (fIsi "tuple") (aC 0)) (m1 (fIsi "tuple") (aC 1))))) (bS (mC (.bl false))) bE)
 (bS (oK (aR eV (m1 fR (aC 0)) (m1 fR (aC 1))) (m1 DD (Ar false (jN (m1 fR (aC 0))) (.nm 2) hY (uG (f_L_same)) [2]))))) bE)
 (aS (bR (Bu (fM (m1 (fIsi2 "list" "tuple") (aC 1))) (mB (aR IK (m1 (fIsi "bool") (aC 0)) (m1 (fIsi "bool") (aC 1))))) (bS (mC (.bl false))) bE)
 (bS (oK (aR eV (m1 (fIsi "int") (aC 0)) (m1 (fIsi "int") (aC 1))) (aR eV (aC 0) (aC 1))))))
def dU : Nat -> FD
 | 0 => vG
 | n + 1 => run 3 2 (iX (dU n))
def rO : FS :=
 (aS (bV (cS false (aB (cS false (aB (mC (.int 0)) (aB (mC (.int 0)) (aB (mC (.int 0)) (aB (mC (.int 1)) (aB (mC (.int 1)) aJ)))))) (aB (cS false (aB (mC (.int 0)) (aB (mC (.int 0)) (aB (mC (.int 2)) (aB (mC (.int 3)) (aB (mC (.int 1)) aJ)))))) (aB (cS false (aB (mC (.int 0)) (aB (mC (.int 6)) (aB (mC (.int 7)) (aB (mC (.int 8)) (aB (mC (.int 8)) aJ)))))) (aB (cS false (aB (mC (.int 0)) (aB (mC (.int 4)) (aB (mC (.int 5)) (aB (mC (.int 6)) (aB (mC (.int 7)) aJ)))))) (aB (cS false (aB (mC (.int 0)) (aB (mC (.int 1)) (aB (mC (.int 3)) (aB (mC (.int 6)) (aB (mC (.int 8)) aJ)))))) aJ)))))) (.nm 2))
 (aS (bV (aR (dD false) (aC 2) (cS false (aB (cS false (aB (mC (.int 0)) (aB (mC (.int 1)) (aB (mC (.int 2)) (aB (mC (.int 3)) (aB (mC (.int 4)) (aB (mC (.int 5)) (aB (mC (.int 6)) (aB (mC (.int 7)) (aB (mC (.int 8)) aJ)))))))))) (aB (cS false (aB (mC (.int 1)) (aB (mC (.int 1)) (aB (mC (.int 2)) (aB (mC (.int 3)) (aB (mC (.int 4)) aJ)))))) (aB (cS false (aB (mC (.int 5)) (aB (mC (.int 6)) (aB (mC (.int 7)) (aB (mC (.int 8)) (aB (mC (.int 8)) aJ)))))) aJ))))) (.nm 2))
 (aS (bV (aR bW (aC 2) (aC 1)) (.nm 3))
 (aS (bV (aR bW (aC 3) (bA cG (aB (aC 0) (aB (m1 fR (aC 3)) aJ)))) (.nm 4))
 (aS (bR (mB (aR eV (aC 4) (mC (.int 0)))) (aS (bV (aR qT (bA cG (aB (aC 0) (aB (mC (.int 19)) aJ))) (mC (.int 9))) (.nm 5))
 (bS (cC (aB (mC (.str "go")) (aB (aR bW (cS false (aB (aC 5) (aB (mC (.int 2)) (aB (aR qT (aR xJ (m1 pS (aC 5)) (mC (.int 3))) (mC (.int 1))) (aB (mC (.int 1)) aJ))))) (bA cG (aB (aC 0) (aB (mC (.int 4)) aJ)))) aJ))))) bE)
 (aS (bR (mB (aR eV (aC 4) (mC (.int 1)))) (bS (cC (aB (mC (.str "turn")) (aB (aR (dD false) (mC (.int 1)) (bA cG (aB (aC 0) (aB (mC (.int 3)) aJ)))) aJ)))) bE)
 (aS (bR (mB (aR eV (aC 4) (mC (.int 2)))) (bS (cC (aB (mC (.str "mirror")) aJ))) bE)
 (aS (bR (mB (aR eV (aC 4) (mC (.int 3)))) (bS (cC (aB (mC (.str "scale")) (aB (aR bW (cC (aB (m1 sV (mC (.int 1))) (aB (m1 sV (mC (.int 1))) (aB (m1 sV (mC (.int 1))) (aB (mC (.int 1)) (aB (mC (.int 1)) (aB (mC (.int 0)) (aB (mC (.int 2)) (aB (m1 sV (mC (.int 3))) aJ))))))))) (bA cG (aB (aC 0) (aB (mC (.int 8)) aJ)))) aJ)))) bE)
 (aS (bR (mB (aR Hl (aC 4) (mC (.int 6)))) (bS (cC (aB (aR bW (cC (aB (mC (.str "aim")) (aB (mC (.str "place")) aJ))) (aR qT (aC 4) (mC (.int 4)))) (aB (aR qT (bA cG (aB (aC 0) (aB (mC (.int 19)) aJ))) (mC (.int 9))) (aB (aR qT (bA cG (aB (aC 0) (aB (mC (.int 19)) aJ))) (mC (.int 9))) aJ))))) bE)
 (bS (cC (aB (aR bW (cC (aB (mC (.str "mark")) (aB (mC (.str "return")) (aB (mC (.str "exchange")) aJ)))) (aR qT (aC 4) (mC (.int 6)))) aJ))))))))))))
def jM : FD := run 6 2 rO
def AO : FS :=
 (aS (bV (aR (dD false) (mC (.int 1)) (bA cG (aB (aC 0) (aB (mC (.int 3)) aJ)))) (.nm 2))
 (aS (bV (bA cG (aB (aC 0) (aB (mC (.int 4)) aJ))) (.nm 3))
 (aS (bR (mB (aR eV (aC 1) (mC (.int 6)))) (bV (aR (dD false) (mC (.int 1)) (aR xJ (aC 3) (mC (.int 2)))) (.nm 3)) bE)
 (aS (bR (mB (aR eV (aC 1) (mC (.int 7)))) (bV (mC (.int 3)) (.nm 3)) bE)
 (aS (bV (cS false (aB (cS false (aB (cC (aB (mC (.str "go")) (aB (aC 2) aJ))) (aB (cC (aB (mC (.str "go")) (aB (m1 sV (aC 2)) aJ))) aJ))) (aB (cS false (aB (cC (aB (mC (.str "turn")) (aB (aC 2) aJ))) (aB (cC (aB (mC (.str "turn")) (aB (aR qT (mC (.int 4)) (aC 2)) aJ))) aJ))) (aB (cS false (aB (cC (aB (mC (.str "mirror")) aJ)) (aB (cC (aB (mC (.str "mirror")) aJ)) aJ))) aJ)))) (.nm 4))
 (bS (aR bW (aR (dD false) (aC 4) (cS false (aB (cS false (aB (cC (aB (mC (.str "exchange")) aJ)) (aB (cC (aB (mC (.str "exchange")) aJ)) aJ))) aJ))) (aC 3))))))))
def sQ : FD := run 5 2 AO
def lK (f_L_piece : FD) : FS :=
 (kH [7] (bR (mB (aR Dq (aR bW (aC 3) (mC (.int 0))) (mC (.int 0)))) (bV (aR (dD false) (aC 6) (bA (f_L_piece) (aB (aC 0) (aB (aC 1) (aB (aC 2) (aB (aC 3) (aB (aC 4) (aB (aC 5) aJ)))))))) (.nm 6)) bE))
def xD (f_L_piece : FD) : FS :=
 (aS (bV (cS false aJ) (.nm 6))
 (aS (tW (jN (bA cG (aB (aC 0) (aB (mC (.int 3)) aJ)))) (.nm 7) (lK (f_L_piece)))
 (bS (aC 6))))
def xC (f_L_block : FD) (f_L_piece : FD) : FS :=
 (aS (bV (bA cG (aB (aC 0) (aB (mC (.int 17)) aJ))) (.nm 6))
 (aS (bR (Ba (mB (aR Dq (aC 6) (mC (.int 6)))) (Ba (mB (aR Hl (aC 6) (mC (.int 15)))) (mB (aR Dq (aC 2) (mC (.int 2)))))) (bV (aR xJ (aC 6) (mC (.int 6))) (.nm 6)) bE)
 (aS (bR (Ba (mB (aR eV (aC 6) (mC (.int 6)))) (mB (aR Hl (aR bW (aC 3) (mC (.int 0))) (mC (.int 2))))) (bV (mC (.int 0)) (.nm 6)) bE)
 (aS (bR (Ba (mB (aR Dq (aC 6) (mC (.int 10)))) (Ba (mB (aR Hl (aC 6) (mC (.int 15)))) (Bu (mB (aR Hl (aR bW (aC 4) (mC (.int 0))) (mC (.int 1)))) (mB (aR fGe (aC 5) (aR bW (aC 4) (mC (.int 1)))))))) (bV (mC (.int 0)) (.nm 6)) bE)
 (aS (kT (fun x y => x - y) (aC 3) (mC (.int 0)) (mC (.int 1)))
 (aS (bR (mB (aR Hl (aC 6) (mC (.int 6)))) (bS (cS false (aB (bA jM (aB (aC 0) (aB (aC 1) aJ))) aJ))) bE)
 (aS (bR (mB (aR eV (aC 6) (mC (.int 6)))) (aS (kT (fun x y => x - y) (aC 3) (mC (.int 0)) (mC (.int 1)))
 (aS (bV (bA sQ (aB (aC 0) (aB (aC 1) aJ))) (.nm 7))
 (aS (bV (cS false aJ) (.nm 8))
 (aS (bR (mB (aR Dq (aR bW (aC 3) (mC (.int 0))) (mC (.int 0)))) (bV (bA (f_L_piece) (aB (aC 0) (aB (aC 1) (aB (aC 2) (aB (aC 3) (aB (aC 4) (aB (aC 5) aJ))))))) (.nm 8)) bE)
 (bS (aR (dD false) (aR (dD false) (Aq false (aC 7) pN (fX (mC (.int 1)))) (aC 8)) (Aq false (aC 7) (fX (mC (.int 1))) pN))))))) bE)
 (aS (bR (mB (aR Hl (aC 6) (mC (.int 9)))) (aS (bV (bA (f_L_block) (aB (aC 0) (aB (aC 1) (aB (aR (dD false) (aC 2) (mC (.int 1))) (aB (aC 3) (aB (aC 4) (aB (mC (.int 0)) aJ))))))) (.nm 9))
 (bS (cS false (aB (cC (aB (mC (.str "either")) (aB (aC 9) (aB (bA (f_L_block) (aB (aC 0) (aB (aC 1) (aB (aR (dD false) (aC 2) (mC (.int 1))) (aB (aC 3) (aB (aC 4) (aB (aC 5) aJ))))))) aJ)))) aJ)))) bE)
 (aS (bR (mB (aR eV (aC 6) (mC (.int 9)))) (bS (cS false (aB (cC (aB (mC (.str "again")) (aB (bA (f_L_block) (aB (aC 0) (aB (aC 1) (aB (aR (dD false) (aC 2) (mC (.int 1))) (aB (aC 3) (aB (aC 4) (aB (mC (.int 0)) aJ))))))) aJ))) aJ))) bE)
 (aS (bR (mB (aR eV (aC 6) (mC (.int 10)))) (bS (cS false (aB (cC (aB (mC (.str "keep")) (aB (bA (f_L_block) (aB (aC 0) (aB (aC 1) (aB (aR (dD false) (aC 2) (mC (.int 1))) (aB (aC 3) (aB (aC 4) (aB (aC 5) aJ))))))) aJ))) aJ))) bE)
 (aS (bR (mB (aR Dq (aC 6) (mC (.int 14)))) (bS (cS false (aB (cC (aB (mC (.str "end")) (aB (bA cG (aB (aC 0) (aB (mC (.int 2)) aJ))) aJ))) aJ))) bE)
 (aS (kT (fun x y => x - y) (aC 4) (mC (.int 0)) (mC (.int 1)))
 (aS (bV (aR (dD false) (aC 5) (bA cG (aB (aC 0) (aB (aR qT (aR bW (aC 4) (mC (.int 1))) (aC 5)) aJ)))) (.nm 10))
 (aS (bV (aR eV (bA cG (aB (aC 0) (aB (mC (.int 3)) aJ))) (mC (.int 0))) (.nm 11))
 (aS (bV (bA (f_L_block) (aB (aC 0) (aB (aC 1) (aB (aR (dD false) (aC 2) (mC (.int 1))) (aB (aC 3) (aB (aC 4) (aB (aC 5) aJ))))))) (.nm 9))
 (bS (cS false (aB (cC (aB (mC (.str "call")) (aB (aC 10) (aB (aC 11) (aB (cS false (aB (aC 9) (aB (bA (f_L_block) (aB (aC 0) (aB (aC 1) (aB (aR (dD false) (aC 2) (mC (.int 1))) (aB (aC 3) (aB (aC 4) (aB (aC 5) aJ))))))) aJ))) aJ))))) aJ))))))))))))))))))
def B0 : Nat -> FD × FD
 | 0 => (vG, vG)
 | n + 1 => let r := B0 n
  (run 8 6 (xD r.2), run 12 6 (xC r.1 r.2))
def wW (n : Nat) : FD := (B0 n).1
def lO (n : Nat) : FD := (B0 n).2
def uN : FS :=
 (aS (kT (fun x y => x - y) (aC 2) (mC (.int 0)) (mC (.int 4)))
 (aS (kT (fun x y => x - y) (aC 3) (mC (.int 0)) (mC (.int 1)))
 (aS (bV (bA cG (aB (aC 0) (aB (aR bW (aC 3) (mC (.int 1))) aJ))) (.nm 4))
 (aS (bV (aR eV (bA cG (aB (aC 0) (aB (mC (.int 3)) aJ))) (mC (.int 0))) (.nm 5))
 (aS (bV (bA cG (aB (aC 0) (aB (mC (.int 2)) aJ))) (.nm 6))
 (aS (bV (cS false (aB (bA jM (aB (aC 0) (aB (aC 1) aJ))) (aB (bA jM (aB (aC 0) (aB (aC 1) aJ))) aJ))) (.nm 7))
 (aS (bR (mB (aR eV (bA cG (aB (aC 0) (aB (mC (.int 2)) aJ))) (mC (.int 0)))) (bV (bA sQ (aB (aC 0) (aB (aC 1) aJ))) (.nm 7)) bE)
 (aS (bV (cS false (aB (cS false aJ) (aB (cS false (aB (aR bW (aC 7) (mC (.int 0))) (aB (cC (aB (mC (.str "call")) (aB (aC 4) (aB (aC 5) (aB (cS false (aB (cS false aJ) (aB (cS false aJ) aJ))) aJ))))) (aB (aR bW (aC 7) (mC (.int 1))) aJ)))) aJ))) (.nm 8))
 (bS (cS false (aB (cC (aB (mC (.str "either")) (aB (aR bW (aC 8) (aC 6)) (aB (aR bW (aC 8) (aR qT (mC (.int 1)) (aC 6))) aJ)))) aJ)))))))))))
def tV : FD := run 9 4 uN
def lB : FS :=
 (kH [7] (bR (mB (aR Dq (aR bW (aC 2) (mC (.int 0))) (mC (.int 0)))) (bV (aR (dD false) (aC 6) (bA (lO 30) (aB (aC 0) (aB (aC 1) (aB (mC (.int 0)) (aB (aC 2) (aB (aC 3) (aB (aC 4) aJ)))))))) (.nm 6)) bE))
def AV : FS :=
 (aS (bV (bA cG (aB (aC 0) (aB (mC (.int 6)) aJ))) (.nm 5))
 (aS (bV (cS false aJ) (.nm 6))
 (aS (bR (Ba (mB (aR eV (bA cG (aB (aC 0) (aB (mC (.int 2)) aJ))) (mC (.int 0)))) (Ba (mB (aR Dq (aR bW (aC 2) (mC (.int 0))) (mC (.int 3)))) (mB (aR Dq (aR bW (aC 3) (mC (.int 0))) (mC (.int 0)))))) (bV (bA tV (aB (aC 0) (aB (aC 1) (aB (aC 2) (aB (aC 3) aJ))))) (.nm 6)) bE)
 (aS (tW (jN (aR (dD false) (mC (.int 1)) (bA cG (aB (aC 0) (aB (mC (.int 4)) aJ))))) (.nm 7) lB)
 (aS (bV (cS false (aB (cS false (aB (cC (aB (mC (.str "either")) (aB (cS false (aB (cC (aB (mC (.str "end")) (aB (mC (.int 1)) aJ))) aJ)) (aB (cS false aJ) aJ)))) aJ)) (aB (cS false (aB (cC (aB (mC (.str "end")) (aB (mC (.int 1)) aJ))) aJ)) aJ))) (.nm 8))
 (aS (bR (Bu (mB (aR eV (aC 5) (mC (.int 1)))) (mB (aR eV (aC 5) (mC (.int 3))))) (bS (aR (dD false) (aC 6) (aR bW (aC 8) (aR uV (aC 5) (mC (.int 2)))))) bE)
 (aS (bR (mB (aR eV (aC 5) (mC (.int 2)))) (bS (aR (dD false) (aR bW (aC 8) (mC (.int 0))) (aC 6))) bE)
 (bS (aC 6)))))))))
def vU : FD := run 9 5 AV
def nH : FS :=
 (kH [8, 9, 10] (aS (bV (cS true (aB (aR qT (aR qT (aC 2) (mC (.int 2))) (m1 pS (aR Dq (aC 5) (mC (.int 2))))) aJ)) (.nm 9))
 (aS (bV (aR (dD false) (aC 8) (mC (.int 1))) (.nm 10))
 (aS (bR (fM (aC 4)) (bV (mC (.int 0)) (.nm 10)) bE)
 (eF (lV (aC 7) (bA vU (aB (aC 0) (aB (aC 3) (aB (aC 9) (aB (aC 6) (aB (aC 10) aJ))))))))))))
def AU : FS :=
 (aS (bV (bA cG (aB (aC 0) (aB (mC (.int 6)) aJ))) (.nm 3))
 (aS (bV (aR eV (bA cG (aB (aC 0) (aB (mC (.int 8)) aJ))) (mC (.int 0))) (.nm 4))
 (aS (bV (aR (dD false) (mC (.int 1)) (bA cG (aB (aC 0) (aB (aC 1) aJ)))) (.nm 5))
 (aS (bV (cS true (aB (mC (.int 4)) (aB (aC 5) aJ))) (.nm 6))
 (aS (bV (cS true aJ) (.nm 7))
 (aS (tW (jN (aC 5)) (.nm 8) nH)
 (bS (yA (aC 7)))))))))
def zS : FD := Ca 11 3 AU
def jT : FS :=
 (kH [4, 5] (aS (bR (Bu (nN (fM (bA fG (aB (aC 5) aJ)))) (nN (mB (rZ MS Hl (mC (.int 0)) (aC 5) (m1 fR (aC 3)))))) (bS (mC .non)) bE)
 (bR (mB (aR eV (aR xJ (aC 4) (mC (.int 2))) (mC (.int 0)))) (aS (bV (aR bW (aC 3) (aC 5)) (.nm 2))
 (bV (bA lN (aB (aC 2) aJ)) (.nm 3))) (bV (aR bW (aC 3) (aC 5)) (.nm 3)))))
def kY : FS :=
 (bS (oK (bA fG (aB (aC 1) aJ)) (rZ MS Hl (mC (.int 0)) (aC 1) (m1 (En "Book" qG) (aC 0)))))
def kX : FD := run 2 2 kY
theorem Bf {x0 x1 : Vl} {S : aO} : kX [x0, x1] S = cF (kY [some x0, some x1] S) := (rfl)
def AJ : FS :=
 (bS (oK (m1 (fIsi "tuple") (aC 0)) (oK (aR eV (m1 fR (aC 0)) (mC (.int 6))) (m1 DD (Ar false (lQ (aC 0)) (.nm 1) hY (bA fG (aB (aC 1) aJ)) [1])))))
def sO : FD := run 2 1 AJ
def lX : FS :=
 (kH [9] (mPar 4 5 (m1 sV (aC 5)) (aC 4)))
def uJ : FS :=
 (aS (bV (aC 0) (.tp [2, 3, 4, 5, 6, 7]))
 (aS (bV (aR bW (aC 1) (mC (.int 0))) (.nm 8))
 (aS (bR (mB (aR eV (aC 8) (mC (.str "go")))) (bS (cC (aB (aR (dD false) (aC 2) (aR oQ (aR bW (aC 1) (mC (.int 1))) (aC 4))) (aB (aR (dD false) (aC 3) (aR oQ (aR bW (aC 1) (mC (.int 1))) (aC 5))) (aB (aC 4) (aB (aC 5) (aB (aC 6) (aB (aC 7) aJ)))))))) bE)
 (aS (bR (mB (aR eV (aC 8) (mC (.str "turn")))) (aS (tW (jN (aR bW (aC 1) (mC (.int 1)))) (.nm 9) lX)
 (bS (cC (aB (aC 2) (aB (aC 3) (aB (aC 4) (aB (aC 5) (aB (aC 6) (aB (aC 7) aJ))))))))) bE)
 (aS (bR (mB (aR eV (aC 8) (mC (.str "mirror")))) (bS (cC (aB (aC 2) (aB (aC 3) (aB (aC 4) (aB (m1 sV (aC 5)) (aB (aC 6) (aB (aC 7) aJ)))))))) bE)
 (aS (bR (mB (aR eV (aC 8) (mC (.str "scale")))) (bS (cC (aB (aC 2) (aB (aC 3) (aB (aR oQ (aR bW (aC 1) (mC (.int 1))) (aC 4)) (aB (aR oQ (aR bW (aC 1) (mC (.int 1))) (aC 5)) (aB (aC 6) (aB (aC 7) aJ)))))))) bE)
 (aS (bR (mB (aR eV (aC 8) (mC (.str "aim")))) (bS (cC (aB (aC 2) (aB (aC 3) (aB (aR bW (aC 1) (mC (.int 1))) (aB (aR bW (aC 1) (mC (.int 2))) (aB (aC 6) (aB (aC 7) aJ)))))))) bE)
 (aS (bR (mB (aR eV (aC 8) (mC (.str "place")))) (bS (cC (aB (aR bW (aC 1) (mC (.int 1))) (aB (aR bW (aC 1) (mC (.int 2))) (aB (aC 4) (aB (aC 5) (aB (aC 6) (aB (aC 7) aJ)))))))) bE)
 (aS (bR (mB (aR eV (aC 8) (mC (.str "mark")))) (bS (cC (aB (aC 2) (aB (aC 3) (aB (aC 4) (aB (aC 5) (aB (aC 2) (aB (aC 3) aJ)))))))) bE)
 (aS (bR (mB (aR eV (aC 8) (mC (.str "return")))) (bS (cC (aB (aC 6) (aB (aC 7) (aB (aC 4) (aB (aC 5) (aB (aC 6) (aB (aC 7) aJ)))))))) bE)
 (bS (cC (aB (aC 6) (aB (aC 7) (aB (aC 4) (aB (aC 5) (aB (aC 2) (aB (aC 3) aJ))))))))))))))))))
def nL : FD := run 10 2 uJ
def AA : FE :=
 (m1 pS (aR eV (aR xJ (aC 0) (mC (.int 8))) (mC (.int 0))))
def yL : FS :=
 (bS (Ar false (jN (mC (.int 49))) (.nm 0) hY AA [0]))
def tR : FD := run 1 0 yL
def sD : FE :=
 (aR qT (aR bW (aC 5) (aC 6)) (aR bW (aC 1) (aC 6)))
def nS : FS :=
 (kH [3, 4, 5] (aS (bV (m1 fTuple (Ar false (jN (mC (.int 6))) (.nm 6) hY (m1 pS (aR eV (aC 6) (aC 3))) [6])) (.nm 4))
 (aS (bV (bA nL (aB (aC 4) (aB (aC 0) aJ))) (.nm 5))
 (eF (lV (aC 2) (aR (dD false) (cS false (aB (mC (.int 0)) aJ)) (Ar false (jN (mC (.int 6))) (.nm 6) hY sD [6])))))))
def wK : FS :=
 (aS (bR (nN (fM (bA gE (aB (aC 0) aJ)))) (xZ "NoCommand") bE)
 (aS (bV (bA nL (aB (cC (aB (mC (.int 0)) (aB (mC (.int 0)) (aB (mC (.int 0)) (aB (mC (.int 0)) (aB (mC (.int 0)) (aB (mC (.int 0)) aJ))))))) (aB (aC 0) aJ))) (.nm 1))
 (aS (bV (cS true (aB (cS false (aB (mC (.int 1)) (Sn (aC 1) aJ))) aJ)) (.nm 2))
 (aS (tW (jN (mC (.int 6))) (.nm 3) nS)
 (bS (U8 false (jN (mC (.int 7))) (.nm 7) hY (jN (mC (.int 7))) (.nm 8) hY (aR bW (aR bW (aC 2) (aC 8)) (aC 7)) [7, 8] [8]))))))
def qZ : FD := Ca 9 1 wK
def lY : FS :=
 (kH [5, 6] (aS (bV (aR bW (aC 1) (aR (dD false) (aR oQ (mC (.int 7)) (aC 3)) (aC 5))) (.nm 6))
 (bR (mB (aR IK (aC 6) (mC (.int 0)))) (bV (Ar false (Qa (aC 4) (Aq false (aC 0) (fX (aR oQ (mC (.int 7)) (aC 5))) (fX (aR (dD false) (aR oQ (mC (.int 7)) (aC 5)) (mC (.int 7)))))) (.tp [7, 8]) hY (aR (dD false) (aC 7) (aR oQ (aC 6) (aC 8))) [7, 8]) (.nm 4)) bE)))
def pK : FS :=
 (kH [3, 4, 5, 6] (aS (bV (cS false (aB (mC (.int 0)) (aB (mC (.int 0)) (aB (mC (.int 0)) (aB (mC (.int 0)) (aB (mC (.int 0)) (aB (mC (.int 0)) (aB (mC (.int 0)) aJ)))))))) (.nm 4))
 (aS (tW (jN (mC (.int 7))) (.nm 5) lY)
 (bV (aR (dD false) (aC 2) (aC 4)) (.nm 2)))))
def yM : FS :=
 (aS (bV (cS false aJ) (.nm 2))
 (aS (tW (jN (mC (.int 7))) (.nm 3) pK)
 (bS (aC 2))))
def tS : FD := run 9 2 yM
def sE : FS :=
 (aS (bV (aR bW (aC 0) (mC (.int 0))) (.nm 1))
 (aS (bV (Ar false (lQ (Aq false (bA tR aJ) (fX (mC (.int 7))) (fX (mC (.int 35))))) (.nm 3) hY (aR oQ (aC 1) (aC 3)) [3]) (.nm 2))
 (bS (aR (dD false) (aR (dD false) (Aq false (aC 0) pN (fX (mC (.int 7)))) (aC 2)) (Aq false (aC 0) (fX (mC (.int 35))) pN)))))
def rY : FD := run 4 1 sE
def kE : FS :=
 (aS (vV "Execution" "own" (aC 0) (aC 1))
 (aS (vV "Execution" "bits" (aC 0) (aC 2))
 (aS (vV "Execution" "taken" (aC 0) (mC (.int 0)))
 (aS (vV "Execution" "deeds" (aC 0) (cS true aJ))
 (aS (vV "Execution" "stack" (aC 0) (cS true aJ))
 (aS (vV "Execution" "active" (aC 0) (Qb (lQ (aC 1)) (.nm 3) [3]))
 (vV "Execution" "ended" (aC 0) (mC (.int 0)))))))))
def hX : FD := run 4 3 kE
def iA : FS :=
 (aS (bR (mB (aR eV (gG "Execution" "taken" (aC 0)) (m1 fR (gG "Execution" "bits" (aC 0))))) (mG "NoRun" ["index"] (aB (gG "Execution" "taken" (aC 0)) aJ)) bE)
 (aS (EY (fun x y => x + y) "Execution" "taken" (aC 0) (mC (.int 1)))
 (bS (aR bW (gG "Execution" "bits" (aC 0)) (aR qT (gG "Execution" "taken" (aC 0)) (mC (.int 1)))))))
def dY : FD := run 1 1 iA
def gJ : FS :=
 (aS (bV (aR bW (gG "Execution" "active" (aC 0)) (aC 1)) (.nm 3))
 (aS (bR (Ba (mB (aR Dq (m1 fR (aC 3)) (mC (.int 0)))) (mB (aR eV (aR bW (aC 3) (m1 sV (mC (.int 1)))) (gG "Execution" "taken" (aC 0))))) (mG "NoRun" ["index"] (aB (m1 sV (mC (.int 2))) aJ)) bE)
 (aS (eF (lV (aR bW (gG "Execution" "active" (aC 0)) (aC 1)) (gG "Execution" "taken" (aC 0))))
 (aS (eF (lV (gG "Execution" "stack" (aC 0)) (cC (aB (mC (.str "call")) (aB (aC 1) (aB (aC 2) aJ))))))
 (eF (lV (gG "Execution" "stack" (aC 0)) (cC (aB (mC (.str "list")) (aB (aR bW (gG "Execution" "own" (aC 0)) (aC 1)) (aB (mC (.int 0)) aJ))))))))))
def eD : FD := run 4 3 gJ
def jG : FS :=
 (aS (eF (m1 sA (aR bW (gG "Execution" "active" (aC 0)) (aC 1))))
 (aS (bR (mB (aR (Do false) (aC 2) (mC .non))) (aS (vV "Execution" "ended" (aC 0) (aC 3))
 (bS (mC .non))) bE)
 (aS (bR (fM (aR bW (aC 2) (mC (.int 2)))) (eF (lV (gG "Execution" "deeds" (aC 0)) (cC (aB (mC (.str "close")) aJ)))) bE)
 (eF (lV (gG "Execution" "stack" (aC 0)) (cC (aB (mC (.str "list")) (aB (aR bW (aR bW (aC 2) (mC (.int 3))) (aC 3)) (aB (mC (.int 0)) aJ)))))))))
def gF : FD := run 4 4 jG
def dX : FS :=
 (aS (bR (mB (aR eV (aR bW (aC 2) (mC (.int 0))) (mC (.str "close")))) (eF (lV (gG "Execution" "deeds" (aC 0)) (aC 2))) bE)
 (bV (m1 sA (gG "Execution" "stack" (aC 0))) (.nm 2)))
def iQ : FS :=
 (aS (bV (m1 sA (gG "Execution" "stack" (aC 0))) (.nm 2))
 (aS (Ap 1000000 (mB (aR IK (aR bW (aC 2) (mC (.int 0))) (mC (.str "call")))) dX)
 (eF (pG "Execution" "leave" gF (aC 0) (aB (aR bW (aC 2) (mC (.int 1))) (aB (aR bW (aC 2) (mC (.int 2))) (aB (aC 1) aJ)))))))
def iI : FD := run 3 2 iQ
def jH : FS :=
 (aS (bV (aR bW (aC 1) (mC (.int 0))) (.nm 2))
 (bR (fM (bA gE (aB (aC 1) aJ))) (eF (lV (gG "Execution" "deeds" (aC 0)) (aC 1))) (bR (mB (aR eV (aC 2) (mC (.str "keep")))) (aS (eF (lV (gG "Execution" "deeds" (aC 0)) (cC (aB (mC (.str "open")) aJ))))
 (aS (eF (lV (gG "Execution" "stack" (aC 0)) (cC (aB (mC (.str "close")) aJ))))
 (eF (lV (gG "Execution" "stack" (aC 0)) (cC (aB (mC (.str "list")) (aB (aR bW (aC 1) (mC (.int 1))) (aB (mC (.int 0)) aJ)))))))) (bR (mB (aR eV (aC 2) (mC (.str "either")))) (eF (lV (gG "Execution" "stack" (aC 0)) (cC (aB (mC (.str "list")) (aB (aR bW (aC 1) (aR (dD false) (mC (.int 1)) (pG "Execution" "take" dY (aC 0) aJ))) (aB (mC (.int 0)) aJ)))))) (bR (mB (aR eV (aC 2) (mC (.str "again")))) (eF (lV (gG "Execution" "stack" (aC 0)) (cC (aB (mC (.str "again")) (aB (aR bW (aC 1) (mC (.int 1))) aJ))))) (bR (mB (aR eV (aC 2) (mC (.str "call")))) (aS (bR (fM (aR bW (aC 1) (mC (.int 2)))) (eF (lV (gG "Execution" "deeds" (aC 0)) (cC (aB (mC (.str "open")) aJ)))) bE)
 (eF (pG "Execution" "enter" eD (aC 0) (aB (aR bW (aC 1) (mC (.int 1))) (aB (aC 1) aJ))))) (eF (pG "Execution" "unwind" iI (aC 0) (aB (aR bW (aC 1) (mC (.int 1))) aJ)))))))))
def jE : FD := run 3 2 jH
def kD : FS :=
 (aS (bV (m1 sA (gG "Execution" "stack" (aC 0))) (.nm 1))
 (bR (mB (aR eV (aR bW (aC 1) (mC (.int 0))) (mC (.str "list")))) (bR (mB (aR Hl (aR bW (aC 1) (mC (.int 2))) (m1 fR (aR bW (aC 1) (mC (.int 1)))))) (aS (eF (lV (gG "Execution" "stack" (aC 0)) (cC (aB (mC (.str "list")) (aB (aR bW (aC 1) (mC (.int 1))) (aB (aR (dD false) (aR bW (aC 1) (mC (.int 2))) (mC (.int 1))) aJ))))))
 (eF (pG "Execution" "begin" jE (aC 0) (aB (aR bW (aR bW (aC 1) (mC (.int 1))) (aR bW (aC 1) (mC (.int 2)))) aJ)))) bE) (bR (mB (aR eV (aR bW (aC 1) (mC (.int 0))) (mC (.str "close")))) (eF (lV (gG "Execution" "deeds" (aC 0)) (aC 1))) (bR (mB (aR eV (aR bW (aC 1) (mC (.int 0))) (mC (.str "again")))) (bR (mB (aR eV (pG "Execution" "take" dY (aC 0) aJ) (mC (.int 1)))) (aS (eF (lV (gG "Execution" "stack" (aC 0)) (aC 1)))
 (eF (lV (gG "Execution" "stack" (aC 0)) (cC (aB (mC (.str "list")) (aB (aR bW (aC 1) (mC (.int 1))) (aB (mC (.int 0)) aJ))))))) bE) (eF (pG "Execution" "leave" gF (aC 0) (aB (aR bW (aC 1) (mC (.int 1))) (aB (aR bW (aC 1) (mC (.int 2))) (aB (mC (.int 0)) aJ)))))))))
def jV : FD := run 2 1 kD
def gY : FS :=
 (kH [3, 4] (bR (nN (fM (bA vT (aB (aC 4) aJ)))) (mG "NoRun" ["index"] (aB (aC 3) aJ)) bE))
def eR : FS :=
 (eF (pG "Execution" "step" jV (aC 5) aJ))
def mY : FS :=
 (aS (bR (nN (fM (bA kX (aB (aC 0) (aB (aC 1) aJ))))) (xZ "NoProcedure") bE)
 (aS (bR (nN (fM (m1 (fIsi "list") (aC 2)))) (mG "NoRun" ["index"] (aB (m1 sV (mC (.int 1))) aJ)) bE)
 (aS (tW (EW (aC 2)) (.tp [3, 4]) gY)
 (aS (bV (Jx true "Execution" hX (aB (pG "Book" "bodies" kS (aC 0) aJ) (aB (aC 2) aJ))) (.nm 5))
 (aS (eF (pG "Execution" "enter" eD (aC 5) (aB (aC 1) (aB (mC .non) aJ))))
 (aS (Ap 1000000 (mB (aR Dq (m1 fR (gG "Execution" "stack" (aC 5))) (mC (.int 0)))) eR)
 (aS (bR (mB (aR Hl (gG "Execution" "taken" (aC 5)) (m1 fR (aC 2)))) (mG "NoRun" ["index"] (aB (gG "Execution" "taken" (aC 5)) aJ)) bE)
 (bS (cC (aB (gG "Execution" "ended" (aC 5)) (aB (yA (gG "Execution" "deeds" (aC 5))) aJ)))))))))))
def cK : FD := Ca 6 3 mY
def fC : FS :=
 (kH [4] (bR (mB (aR eV (aR bW (aC 4) (mC (.int 0))) (mC (.str "open")))) (eF (lV (aC 3) (Aq false (aC 1) pN (fX (mC (.int 4)))))) (bR (mB (aR eV (aR bW (aC 4) (mC (.int 0))) (mC (.str "close")))) (bV (aR (dD false) (m1 sA (aC 3)) (Aq false (aC 1) (fX (mC (.int 4))) pN)) (.nm 1)) (aS (bV (bA nL (aB (aC 1) (aB (aC 4) aJ))) (.nm 1))
 (eF (lV (aC 2) (aC 1)))))))
def oC : FS :=
 (aS (bV (cS true aJ) (.nm 2))
 (aS (bV (cS true aJ) (.nm 3))
 (aS (tW (lQ (aC 0)) (.nm 4) fC)
 (bS (cC (aB (yA (aC 2)) (aB (aC 1) aJ)))))))
def jA : FD := Ca 5 2 oC
def PQ : FS :=
 (aS (bV (bA cK (aB (aC 0) (aB (aC 1) (aB (aC 2) aJ)))) (.tp [4, 5]))
 (aS (bR (nN (fM (bA sO (aB (aC 3) aJ)))) (xZ "NoPen") bE)
 (aS (bV (bA jA (aB (aC 5) (aB (aC 3) aJ))) (.tp [6, 7]))
 (bS (cC (aB (aC 4) (aB (aC 7) (aB (m1 fR (aC 6)) aJ))))))))
def NX : FD := run 8 4 PQ
def jI : FS :=
 (kH [8] (bR (mB (aR eV (aR bW (aC 8) (mC (.int 0))) (mC (.str "open")))) (aS (eF (lV (aC 6) (aC 5)))
 (bV (bA tR aJ) (.nm 5))) (bR (mB (aR eV (aR bW (aC 8) (mC (.int 0))) (mC (.str "close")))) (bV (bA tS (aB (m1 sA (aC 6)) (aB (bA rY (aB (aC 5) aJ)) aJ))) (.nm 5)) (aS (bV (bA tS (aB (aC 5) (aB (bA qZ (aB (aC 8) aJ)) aJ))) (.nm 5))
 (Li (fun x y => x + y) 7 (mC (.int 1)))))))
def uK : FS :=
 (aS (bV (bA cG (aB (aC 0) (aB (mC (.int 3)) aJ))) (.nm 1))
 (aS (bR (mB (aR eV (aC 1) (mC (.int 0)))) (bS (aR qT (bA cG (aB (aC 0) (aB (mC (.int 9)) aJ))) (mC (.int 4)))) bE)
 (aS (kT (fun x y => x + y) (aC 0) (mC (.int 0)) (mC (.int 1)))
 (aS (bV (aR (dD false) (mC (.int 1)) (aR xJ (m1 pS (aR bW (aC 0) (mC (.int 0)))) (aR qT (m1 fR (aC 0)) (mC (.int 1))))) (.nm 2))
 (aS (bV (aR xJ (m1 pS (aR (dD false) (aR oQ (aR bW (aC 0) (aC 2)) (mC (.int 48271))) (aR oQ (aR bW (aC 0) (mC (.int 0))) (mC (.int 69621))))) (aR M8 (mC (.int 10)) (mC (.int 40)))) (.nm 3))
 (aS (bR (mB (aR eV (bA cG (aB (aC 0) (aB (mC (.int 2)) aJ))) (mC (.int 0)))) (bS (aC 3)) bE)
 (bS (aR qT (mC (.int 5)) (aC 3)))))))))
def nM : FD := run 4 1 uK
def C0 : FS :=
 (aS (bV (Ar false (jN (mC (.int 6))) (.nm 2) hY (bA nM (aB (aC 0) aJ)) [2]) (.nm 1))
 (bS (cC (aB (aR bW (aC 1) (mC (.int 0))) (aB (aR bW (aC 1) (mC (.int 1))) (aB (aR bW (aC 1) (mC (.int 2))) (aB (aR bW (aC 1) (mC (.int 3))) (aB (aR bW (aC 1) (mC (.int 4))) (aB (aR bW (aC 1) (mC (.int 5))) aJ)))))))))
def Bs : FD := run 3 1 C0
def AQ : FS :=
 (aS (bV (aC 0) (.tp [2, 3, 4, 5, 6, 7]))
 (aS (bV (aR bW (aC 1) (mC (.int 0))) (.nm 8))
 (aS (bV (aR bW (aR (dD false) (aC 1) (cC (aB (mC (.int 0)) aJ))) (mC (.int 1))) (.nm 9))
 (aS (bR (mB (aR eV (aC 8) (mC (.str "go")))) (bS (cC (aB (aR (dD false) (aC 2) (aR oQ (aC 9) (aC 4))) (aB (aR (dD false) (aC 3) (aR oQ (aC 9) (aC 5))) (aB (aC 4) (aB (aC 5) (aB (aC 6) (aB (aC 7) aJ)))))))) bE)
 (aS (bR (mB (aR eV (aC 8) (mC (.str "turn")))) (aS (bV (aR bW (cS false (aB (cC (aB (m1 sV (aC 5)) (aB (aC 4) aJ))) (aB (cC (aB (m1 sV (aC 4)) (aB (m1 sV (aC 5)) aJ))) (aB (cC (aB (aC 5) (aB (m1 sV (aC 4)) aJ))) aJ)))) (aR qT (aC 9) (mC (.int 1)))) (.nm 10))
 (bS (cC (aB (aC 2) (aB (aC 3) (aB (aR bW (aC 10) (mC (.int 0))) (aB (aR bW (aC 10) (mC (.int 1))) (aB (aC 6) (aB (aC 7) aJ))))))))) bE)
 (aS (bR (mB (aR eV (aC 8) (mC (.str "mirror")))) (bS (cC (aB (aC 2) (aB (aC 3) (aB (aC 4) (aB (m1 sV (aC 5)) (aB (aC 6) (aB (aC 7) aJ)))))))) bE)
 (aS (bR (mB (aR eV (aC 8) (mC (.str "scale")))) (bS (cC (aB (aC 2) (aB (aC 3) (aB (aR oQ (aC 4) (aC 9)) (aB (aR oQ (aC 5) (aC 9)) (aB (aC 6) (aB (aC 7) aJ)))))))) bE)
 (aS (bR (mB (aR eV (aC 8) (mC (.str "aim")))) (bS (cC (aB (aC 2) (aB (aC 3) (aB (aC 9) (aB (aR bW (aC 1) (mC (.int 2))) (aB (aC 6) (aB (aC 7) aJ)))))))) bE)
 (aS (bR (mB (aR eV (aC 8) (mC (.str "place")))) (bS (cC (aB (aC 9) (aB (aR bW (aC 1) (mC (.int 2))) (aB (aC 4) (aB (aC 5) (aB (aC 6) (aB (aC 7) aJ)))))))) bE)
 (aS (bR (mB (aR eV (aC 8) (mC (.str "mark")))) (bS (cC (aB (aC 2) (aB (aC 3) (aB (aC 4) (aB (aC 5) (aB (aC 2) (aB (aC 3) aJ)))))))) bE)
 (aS (bR (mB (aR eV (aC 8) (mC (.str "return")))) (bS (cC (aB (aC 6) (aB (aC 7) (aB (aC 4) (aB (aC 5) (aB (aC 6) (aB (aC 7) aJ)))))))) bE)
 (bS (cC (aB (aC 6) (aB (aC 7) (aB (aC 4) (aB (aC 5) (aB (aC 2) (aB (aC 3) aJ)))))))))))))))))))
def zR : FD := run 11 2 AQ
def lA : FS :=
 (kH [4] (bR (mB (aR eV (aR bW (aC 4) (mC (.int 0))) (mC (.str "hold")))) (eF (lV (aC 3) (aC 1))) (bR (mB (aR eV (aR bW (aC 4) (mC (.int 0))) (mC (.str "shut")))) (bV (aR (dD false) (Aq false (m1 sA (aC 3)) pN (fX (mC (.int 4)))) (Aq false (aC 1) (fX (mC (.int 4))) pN)) (.nm 1)) (aS (bV (bA zR (aB (aC 1) (aB (aC 4) aJ))) (.nm 1))
 (eF (lV (aC 2) (aC 1)))))))
def AN : FS :=
 (aS (bV (cS true aJ) (.nm 2))
 (aS (bV (cS true aJ) (.nm 3))
 (aS (tW (lQ (aC 0)) (.nm 4) lA)
 (bS (cS false (aB (yA (aC 2)) (aB (aC 1) aJ)))))))
def sP : FD := Ca 5 2 AN
theorem Ph {x0 : Vl} {S : aO} : sO [x0] S = cF (AJ [some x0, none] S) := (rfl)
theorem JV {x0 x1 : Vl} {S : aO} : nL [x0, x1] S = cF (uJ [some x0, some x1, none, none, none, none, none, none, none, none] S) := (rfl)
theorem JU {S : aO} : tR [] S = cF (yL [none] S) := (rfl)
theorem IE {x0 : Vl} {S : aO} : qZ [x0] S = trunc S.length (cF (wK [some x0, none, none, none, none, none, none, none, none] S)) := (rfl)
theorem JW {x0 x1 : Vl} {S : aO} : tS [x0, x1] S = cF (yM [some x0, some x1, none, none, none, none, none, none, none] S) := (rfl)
theorem Du {x0 : Vl} {S : aO} : rY [x0] S = cF (sE [some x0, none, none, none] S) := (rfl)
theorem BF {x0 x1 x2 : Vl} {S : aO} : hX [x0, x1, x2] S = cF (kE [some x0, some x1, some x2, none] S) := (rfl)
theorem tD {x0 : Vl} {S : aO} : dY [x0] S = cF (iA [some x0] S) := (rfl)
theorem rQ {x0 x1 x2 : Vl} {S : aO} : eD [x0, x1, x2] S = cF (gJ [some x0, some x1, some x2, none] S) := (rfl)
theorem Aa {x0 x1 x2 x3 : Vl} {S : aO} : gF [x0, x1, x2, x3] S = cF (jG [some x0, some x1, some x2, some x3] S) := (rfl)
theorem yO {x0 x1 : Vl} {S : aO} : iI [x0, x1] S = cF (iQ [some x0, some x1, none] S) := (rfl)
theorem Ab {x0 x1 : Vl} {S : aO} : jE [x0, x1] S = cF (jH [some x0, some x1, none] S) := (rfl)
theorem BE {x0 : Vl} {S : aO} : jV [x0] S = cF (kD [some x0, none] S) := (rfl)
theorem DZ {x0 x1 x2 : Vl} {S : aO} : cK [x0, x1, x2] S = trunc S.length (cF (mY [some x0, some x1, some x2, none, none, none] S)) := (rfl)
theorem Dt {x0 x1 : Vl} {S : aO} : jA [x0, x1] S = trunc S.length (cF (oC [some x0, some x1, none, none, none] S)) := (rfl)
theorem E_ran {x0 x1 x2 x3 : Vl} {S : aO} : NX [x0, x1, x2, x3] S = cF (PQ [some x0, some x1, some x2, some x3, none, none, none, none] S) := (rfl)
theorem JX {x0 : Vl} {S : aO} : nM [x0] S = cF (uK [some x0, none, none, none] S) := (rfl)
theorem SO {x0 : Vl} {S : aO} : Bs [x0] S = cF (C0 [some x0, none, none] S) := (rfl)
theorem Pj {x0 x1 : Vl} {S : aO} : zR [x0, x1] S = cF (AQ [some x0, some x1, none, none, none, none, none, none, none, none, none] S) := (rfl)
theorem Pi {x0 x1 : Vl} {S : aO} : sP [x0, x1] S = trunc S.length (cF (AN [some x0, some x1, none, none, none] S)) := (rfl)
def C1 : FS :=
 (aS (bV (aR dF (aC 0) (mC (.str "bits"))) (.nm 2))
 (aS (bR (mB (aR eV (aR dF (aC 0) (mC (.str "taken"))) (m1 fR (aC 2)))) (aS (bR (mB (aR eV (aR dF (aC 0) (mC (.str "extra"))) (mC (.int 0)))) (bS (mC (.int 2))) bE)
 (aS (BL Hk (aC 0) (mC (.str "extra")) (mC (.int 1)))
 (eF (lV (aC 2) (m1 pS (oK (aR eV (aR bW (aC 1) (mC (.int 0))) (mC (.str "either"))) (aR Ov (mC (.str "call")) (m1 Dm (aR bW (aC 1) (mC (.int 1))))))))))) bE)
 (aS (BL Hn (aC 0) (mC (.str "taken")) (mC (.int 1)))
 (bS (aR bW (aC 2) (aR qT (aR dF (aC 0) (mC (.str "taken"))) (mC (.int 1))))))))
def Bt : FD := run 3 2 C1
def gI : FS :=
 (aS (bV (aR bW (aC 1) (mC (.int 0))) (.nm 2))
 (aS (bR (Bu (mB (aR eV (aC 2) (mC (.str "either")))) (mB (aR eV (aC 2) (mC (.str "again"))))) (aS (bV (bA Bt (aB (aC 0) (aB (aC 1) aJ))) (.nm 3))
 (aS (bR (mB (aR eV (aC 3) (mC (.int 2)))) (bS (mC .non)) bE)
 (aS (bR (mB (aR eV (aC 2) (mC (.str "either")))) (bS (aR bW (aC 1) (aR (dD false) (mC (.int 1)) (aC 3)))) bE)
 (bS (aR bW (cS false (aB (cS false aJ) (aB (aR (dD false) (aR bW (aC 1) (mC (.int 1))) (cS false (aB (aC 1) aJ))) aJ))) (aC 3)))))) bE)
 (aS (bR (mB (aR eV (aC 2) (mC (.str "keep")))) (aS (eF (lV (aR dF (aC 0) (mC (.str "deeds"))) (cC (aB (mC (.str "hold")) aJ))))
 (bS (aR (dD false) (aR bW (aC 1) (mC (.int 1))) (cS false (aB (cC (aB (mC (.str "shut")) aJ)) aJ))))) bE)
 (aS (bR (mB (aR eV (aC 2) (mC (.str "call")))) (aS (bR (mB (aR (fIn false) (cC (aB (aR bW (aC 1) (mC (.int 1))) (aB (aR dF (aC 0) (mC (.str "taken"))) aJ))) (aR dF (aC 0) (mC (.str "opens"))))) (bS (mC .non)) bE)
 (aS (eF (lV (aR dF (aC 0) (mC (.str "opens"))) (cC (aB (aR bW (aC 1) (mC (.int 1))) (aB (aR dF (aC 0) (mC (.str "taken"))) aJ)))))
 (aS (BL JM (aC 0) (mC (.str "deeds")) (Aq false (cS false (aB (cC (aB (mC (.str "hold")) aJ)) aJ)) pN (fX (m1 pS (aR bW (aC 1) (mC (.int 2)))))))
 (bS (aR (dD false) (aR bW (aR dF (aC 0) (mC (.str "bodies"))) (aR bW (aC 1) (mC (.int 1)))) (cS false (aB (cC (aB (mC (.str "out")) (aB (aC 1) (aB (mC (.int 0)) aJ)))) aJ))))))) bE)
 (aS (bR (mB (aR eV (aC 2) (mC (.str "end")))) (aS (bV (aR dF (aC 0) (mC (.str "todo"))) (.nm 4))
 (aS (bV (U9 (Ar false (lQ (aC 4)) (.nm 6) hY (aR bW (aC 6) (mC (.int 0))) [6]) (mC (.str "out"))) (.nm 5))
 (aS (BL JM (aC 0) (mC (.str "deeds")) (Ar false (lQ (Aq false (aC 4) pN (fX (aC 5)))) (.nm 6) (mB (aR eV (aR bW (aC 6) (mC (.int 0))) (mC (.str "shut")))) (aC 6) [6]))
 (aS (Ci (aC 0) (mC (.str "todo")) (Aq false (aC 4) (fX (aR (dD false) (aC 5) (mC (.int 1)))) pN))
 (bS (cS false (aB (cC (aB (mC (.str "out")) (aB (aR bW (aR bW (aC 4) (aC 5)) (mC (.int 1))) (aB (aR bW (aC 1) (mC (.int 1))) aJ)))) aJ))))))) bE)
 (aS (bR (mB (aR eV (aC 2) (mC (.str "out")))) (aS (eF (m1 sA (aR dF (aC 0) (mC (.str "opens")))))
 (aS (Ci (aC 0) (mC (.str "way")) (aR bW (aC 1) (mC (.int 2))))
 (aS (BL JM (aC 0) (mC (.str "deeds")) (Aq false (cS false (aB (cC (aB (mC (.str "shut")) aJ)) aJ)) pN (fX (m1 pS (aR bW (aR bW (aC 1) (mC (.int 1))) (mC (.int 2)))))))
 (bS (aR bW (aR bW (aR bW (aC 1) (mC (.int 1))) (mC (.int 3))) (aR bW (aC 1) (mC (.int 2)))))))) bE)
 (aS (eF (lV (aR dF (aC 0) (mC (.str "deeds"))) (aC 1)))
 (bS (cS false aJ)))))))))
def jK : FD := run 7 2 gI
def eT : FS :=
 (kH [5, 6, 7] (bR (mB (aR Dq (m1 fR (aR dF (aC 4) (mC (.str "todo")))) (mC (.int 0)))) (aS (bV (aR bW (aR dF (aC 4) (mC (.str "todo"))) (mC (.int 0))) (.nm 6))
 (aS (Ci (aC 4) (mC (.str "todo")) (Aq false (aR dF (aC 4) (mC (.str "todo"))) (fX (mC (.int 1))) pN))
 (aS (bV (bA jK (aB (aC 4) (aB (aC 6) aJ))) (.nm 7))
 (aS (bR (Ba (mB (aR (Do false) (aC 7) (mC .non))) (mB (aR eV (aR bW (aC 6) (mC (.int 0))) (mC (.str "call"))))) (bS (cC (aB (mC (.str "never")) (aB (m1 sV (mC (.int 2))) (aB (yA (aR dF (aC 4) (mC (.str "deeds")))) (aB (yA (aR dF (aC 4) (mC (.str "bits")))) aJ)))))) bE)
 (aS (bR (mB (aR (Do false) (aC 7) (mC .non))) (bS (cC (aB (mC (.str "short")) (aB (m1 fR (aR dF (aC 4) (mC (.str "bits")))) (aB (yA (aR dF (aC 4) (mC (.str "deeds")))) (aB (yA (aR dF (aC 4) (mC (.str "bits")))) aJ)))))) bE)
 (Ci (aC 4) (mC (.str "todo")) (aR (dD false) (aC 7) (aR dF (aC 4) (mC (.str "todo")))))))))) bE))
def Bz : FS :=
 (aS (bV (Lh [("bodies", (aC 0)), ("bits", (m1 (oR true) (aC 2))), ("extra", (aC 3)), ("taken", (mC (.int 0))), ("way", (mC (.int 0))), ("deeds", (cS true aJ)), ("opens", (cS true aJ))]) (.nm 4))
 (aS (Ci (aC 4) (mC (.str "todo")) (cS false (aB (cC (aB (mC (.str "call")) (aB (aC 1) (aB (mC (.bl false)) (aB (cS false (aB (cS false aJ) (aB (cS false aJ) aJ))) aJ))))) aJ)))
 (aS (tW (jN (mC (.int 3000))) (.nm 5) eT)
 (aS (bR (mB (aR Dq (m1 fR (aR dF (aC 4) (mC (.str "todo")))) (mC (.int 0)))) (bS (cC (aB (mC (.str "long")) (aB (mC (.int 0)) (aB (cS false aJ) (aB (cS false aJ) aJ)))))) bE)
 (aS (bR (mB (aR Hl (aR dF (aC 4) (mC (.str "taken"))) (m1 fR (aR dF (aC 4) (mC (.str "bits")))))) (bS (cC (aB (mC (.str "rest")) (aB (aR dF (aC 4) (mC (.str "taken"))) (aB (yA (aR dF (aC 4) (mC (.str "deeds")))) (aB (yA (aR dF (aC 4) (mC (.str "bits")))) aJ)))))) bE)
 (bS (cC (aB (mC (.str "run")) (aB (aR dF (aC 4) (mC (.str "way"))) (aB (yA (aR dF (aC 4) (mC (.str "deeds")))) (aB (yA (aR dF (aC 4) (mC (.str "bits")))) aJ)))))))))))
def wV : FD := Ca 8 4 Bz
def AW : FS :=
 (bS (Ar false (jN (bA cG (aB (aC 0) (aB (aR (dD false) (aC 1) (mC (.int 1))) aJ)))) (.nm 2) hY (bA cG (aB (aC 0) (aB (mC (.int 2)) aJ))) [2]))
def zT : FD := run 3 2 AW
def rN : FS :=
 (aS (bV (bA zT (aB (aC 0) (aB (aC 3) aJ))) (.nm 5))
 (aS (bV (bA wV (aB (aC 1) (aB (aC 2) (aB (aC 5) (aB (aC 4) aJ))))) (.nm 6))
 (aS (bR (mB (aR eV (aR bW (aC 6) (mC (.int 0))) (mC (.str "rest")))) (aS (bV (Aq false (aC 5) pN (fX (aR bW (aC 6) (mC (.int 1))))) (.nm 5))
 (bV (bA wV (aB (aC 1) (aB (aC 2) (aB (aC 5) (aB (aC 4) aJ))))) (.nm 6))) bE)
 (bS (aC 6)))))
def jL : FD := run 7 5 rN
theorem SQ {x0 x1 : Vl} {S : aO} : Bt [x0, x1] S = cF (C1 [some x0, some x1, none] S) := (rfl)
theorem jQ {x0 x1 : Vl} {S : aO} : jK [x0, x1] S = cF (gI [some x0, some x1, none, none, none, none, none] S) := (rfl)
theorem SN {x0 x1 x2 x3 : Vl} {S : aO} : wV [x0, x1, x2, x3] S = trunc S.length (cF (Bz [some x0, some x1, some x2, some x3, none, none, none, none] S)) := (rfl)
theorem Pk {x0 x1 : Vl} {S : aO} : zT [x0, x1] S = cF (AW [some x0, some x1, none] S) := (rfl)
theorem IF {x0 x1 x2 x3 x4 : Vl} {S : aO} : jL [x0, x1, x2, x3, x4] S = cF (rN [some x0, some x1, some x2, some x3, some x4, none, none] S) := (rfl)
def sY : Dd :=
 (ET (bV (bA cK (aB (aC 0) (aB (aC 1) (aB (aC 2) aJ)))) (.tp [4, 5]))
 (ET (bR (nN (fM (bA sO (aB (aC 3) aJ)))) (xZ "NoPen") bE)
 (ET (bV (bA jA (aB (aC 5) (aB (aC 3) aJ))) (.tp [6, 7]))
 (U5 (aC 6)))))
def sN : Ds := Dk 8 4 sY
theorem FL {x0 x1 x2 x3 : Vl} {S : aO} : sN [x0, x1, x2, x3] S = sY [some x0, some x1, some x2, some x3, none, none, none, none] S := (rfl)
def qS : FS :=
 (aS (bV (cS true aJ) (.nm 4))
 (aS (EU ["NoBook", "NoPath", "NoPen", "NoProcedure", "NoRun"] (Jy ["NoBook", "NoPath", "NoPen", "NoProcedure", "NoRun"] 5 4 3 sN (aB (aC 0) (aB (aC 1) (aB (aC 2) aJ))) (aC 3)) [("NoRun", .j 6 [.c (.str "NoRun") (.str "NoRun"), .f "index", .v 4])])
 (bS (cC (aB (mC (.str "told")) (aB (yA (aC 4)) aJ))))))
def lD : FD := Ca 7 4 qS
def xB : Dd :=
 (EV (bV (bA cK (aB (aC 0) (aB (aC 1) (aB (aC 2) aJ)))) (.tp [4, 5]))
 (EV (bR (nN (fM (bA sO (aB (aC 3) aJ)))) (xZ "NoPen") bE)
 (EV (bV (bA jA (aB (aC 5) (aB (aC 3) aJ))) (.tp [6, 7]))
 (U5 (aC 6)))))
def wU : Ds := Dk 8 4 xB
def oF : FS :=
 (kH [4, 5, 6, 7, 8] (aS (bV (bA cG (aB (aC 1) (aB (m1 fR (aC 2)) aJ))) (.nm 5))
 (aS (bV (bA Bs (aB (aC 1) aJ)) (.nm 6))
 (aS (bV (bA jL (aB (aC 1) (aB (aC 2) (aB (aC 5) (aB (mC (.int 10)) (aB (aR oQ (mC (.int 14)) (m1 pS (aR Dq (bA cG (aB (aC 1) (aB (mC (.int 4)) aJ))) (mC (.int 0))))) aJ)))))) (.nm 7))
 (bR (mB (aR eV (aR bW (aC 7) (mC (.int 0))) (mC (.str "run")))) (aS (bV (aR bW (bA sP (aB (aR bW (aC 7) (mC (.int 2))) (aB (aC 6) aJ))) (mC (.int 0))) (.nm 8))
 (aS (bR (nN (fM (bA (dU 20) (aB (bA lD (aB (aC 3) (aB (aC 5) (aB (m1 (oR false) (aR bW (aC 7) (mC (.int 3)))) (aB (aC 6) aJ))))) (aB (cC (aB (mC (.str "told")) (aB (aC 8) aJ))) aJ))))) (bS (mC (.bl false))) bE)
 (aS (bV (aR bW (bA sP (aB (aR bW (aC 7) (mC (.int 2))) (aB (cC (aB (mC (.int 0)) (aB (mC (.int 0)) (aB (mC (.int 1)) (aB (mC (.int 0)) (aB (mC (.int 0)) (aB (mC (.int 0)) aJ))))))) aJ))) (mC (.int 0))) (.nm 8))
 (bR (nN (fM (bA (dU 20) (aB (Fg wU G4 (aB (aC 3) (aB (aC 5) (aB (m1 (oR false) (aR bW (aC 7) (mC (.int 3)))) aJ)))) (aB (aC 8) aJ))))) (bS (mC (.bl false))) bE)))) (bR (mB (aR IK (aR bW (aC 7) (mC (.int 0))) (mC (.str "long")))) (aS (bV (cC (aB (mC (.str "NoRun")) (aB (aR bW (aC 7) (mC (.int 1))) (aB (cS false aJ) aJ)))) (.nm 8))
 (aS (bR (nN (fM (bA (dU 20) (aB (bA lD (aB (aC 3) (aB (aC 5) (aB (m1 (oR false) (aR bW (aC 7) (mC (.int 3)))) (aB (aC 6) aJ))))) (aB (aC 8) aJ))))) (bS (mC (.bl false))) bE)
 (bR (nN (fM (bA (dU 20) (aB (bA lD (aB (aC 3) (aB (aC 5) (aB (m1 (oR false) (aR bW (aC 7) (mC (.int 3)))) (aB (m1 (oR false) (aC 6)) aJ))))) (aB (aC 8) aJ))))) (bS (mC (.bl false))) bE))) bE))))))
def sZ : FS :=
 (aS (bV (bA zQ (aB (aC 0) aJ)) (.nm 1))
 (aS (bV (bA zS (aB (aC 1) (aB (mC (.int 3)) (aB (mC (.int 7)) aJ)))) (.nm 2))
 (aS (bV (Jx false "Book" lP (aB (bA tT (aB (aC 2) aJ)) aJ)) (.nm 3))
 (aS (tW (jN (aR Em (mC (.int 6)) (m1 fR (aC 1)))) (.nm 4) oF)
 (bS (bA (dU 20) (aB (pG "Book" "bodies" kS (aC 3) aJ) (aB (aC 2) aJ))))))))
def m_law_k18 : FD := Ca 9 1 sZ
theorem Da {x0 x1 x2 x3 : Vl} {S : aO} : lD [x0, x1, x2, x3] S = trunc S.length (cF (qS [some x0, some x1, some x2, some x3, none, none, none] S)) := (rfl)
theorem MN {x0 x1 x2 x3 : Vl} {S : aO} : wU [x0, x1, x2, x3] S = xB [some x0, some x1, some x2, some x3, none, none, none, none] S := (rfl)
theorem MO {x0 : Vl} {S : aO} : m_law_k18 [x0] S = trunc S.length (cF (sZ [some x0, none, none, none, none, none, none, none, none] S)) := (rfl)
end PH
namespace PHZ
open PH PySem PySem.Spec PyProof.Rows L2
theorem Di : FnScope ["value"] ["value"] (defScope tK) := ⟨rfl, rfl, rfl, by decide +kernel, rfl, by decide +kernel, by decide +kernel⟩
theorem LA : FnScope ["value"] ["value"] (defScope CO) := ⟨rfl, rfl, rfl, by decide +kernel, rfl, by decide +kernel, by decide +kernel⟩
theorem L9 : FnScope ["value", "number"] ["value"] (defScope zF) := ⟨rfl, rfl, rfl, by decide +kernel, rfl, by decide +kernel, by decide +kernel⟩
theorem Dj : FnScope ["value", "many", "low", "high", "number"] ["value"] (defScope pL) := ⟨rfl, rfl, rfl, by decide +kernel, rfl, by decide +kernel, by decide +kernel⟩
theorem Gb : FnScope ["pen", "command", "x", "y", "u", "v", "p", "q", "word", "step"] ["pen", "command"] (defScope xU) := ⟨rfl, rfl, rfl, by decide +kernel, rfl, by decide +kernel, by decide +kernel⟩
theorem FU : FnScope ["statement", "word"] ["statement"] (defScope vL) := ⟨rfl, rfl, rfl, by decide +kernel, rfl, by decide +kernel, by decide +kernel⟩
theorem CH : FnScope ["statement", "blocks", "word"] ["statement", "blocks"] (defScope rT) := ⟨rfl, rfl, rfl, by decide +kernel, rfl, by decide +kernel, by decide +kernel⟩
theorem uR : FnScope ["block", "statement"] ["block"] (defScope mE) := ⟨rfl, rfl, rfl, by decide +kernel, rfl, by decide +kernel, by decide +kernel⟩
theorem pF : FnScope ["statement", "block"] ["statement"] (defScope iF) := ⟨rfl, rfl, rfl, by decide +kernel, rfl, by decide +kernel, by decide +kernel⟩
theorem CI : FnScope ["value", "level", "many", "word"] ["value", "level", "many"] (defScope rV) := ⟨rfl, rfl, rfl, by decide +kernel, rfl, by decide +kernel, by decide +kernel⟩
theorem vJ : FnScope ["block", "level", "many", "path", "met", "at", "statement", "here", "number", "inner", "fault"] ["block", "level", "many", "path", "met"] (defScope rX) := ⟨rfl, rfl, rfl, by decide +kernel, rfl, by decide +kernel, by decide +kernel⟩
theorem FW : FnScope ["self", "bodies", "procedure", "body", "fault", "met"] ["self", "bodies"] (defScope lL) := ⟨rfl, rfl, rfl, by decide +kernel, rfl, by decide +kernel, by decide +kernel⟩
theorem Gi : FnScope ["self"] ["self"] (defScope qD) := ⟨rfl, rfl, rfl, by decide +kernel, rfl, by decide +kernel, by decide +kernel⟩
theorem CM : FnScope ["self", "body"] ["self"] (defScope iZ) := ⟨rfl, rfl, rfl, by decide +kernel, rfl, by decide +kernel, by decide +kernel⟩
theorem Ah : FnScope ["book", "procedure"] ["book", "procedure"] (defScope oX) := ⟨rfl, rfl, rfl, by decide +kernel, rfl, by decide +kernel, by decide +kernel⟩
theorem zE : FnScope ["self", "bodies", "bits", "body"] ["self", "bodies", "bits"] (defScope fO) := ⟨rfl, rfl, rfl, by decide +kernel, rfl, by decide +kernel, by decide +kernel⟩
theorem zC : FnScope ["self"] ["self"] (defScope gZ) := ⟨rfl, rfl, rfl, by decide +kernel, rfl, by decide +kernel, by decide +kernel⟩
theorem xR : FnScope ["self", "procedure", "statement", "earlier"] ["self", "procedure", "statement"] (defScope gC) := ⟨rfl, rfl, rfl, by decide +kernel, rfl, by decide +kernel, by decide +kernel⟩
theorem xQ : FnScope ["self", "procedure", "statement", "way"] ["self", "procedure", "statement", "way"] (defScope gB) := ⟨rfl, rfl, rfl, by decide +kernel, rfl, by decide +kernel, by decide +kernel⟩
theorem xF : FnScope ["self", "way", "task"] ["self", "way"] (defScope fP) := ⟨rfl, rfl, rfl, by decide +kernel, rfl, by decide +kernel, by decide +kernel⟩
theorem xS : FnScope ["self", "statement", "word"] ["self", "statement"] (defScope gD) := ⟨rfl, rfl, rfl, by decide +kernel, rfl, by decide +kernel, by decide +kernel⟩
theorem zD : FnScope ["self", "task"] ["self"] (defScope hW) := ⟨rfl, rfl, rfl, by decide +kernel, rfl, by decide +kernel, by decide +kernel⟩
theorem BZ : FnScope ["book", "procedure", "bits", "index", "bit", "execution"] ["book", "procedure", "bits"] (defScope qC) := ⟨rfl, rfl, rfl, by decide +kernel, rfl, by decide +kernel, by decide +kernel⟩
theorem CJ : FnScope ["deeds", "pen", "pens", "held", "deed"] ["deeds", "pen"] (defScope rW) := ⟨rfl, rfl, rfl, by decide +kernel, rfl, by decide +kernel, by decide +kernel⟩
theorem LD : FnScope ["_law_script", "_law_cell"] ["_law_script"] (defScope zH) := ⟨rfl, rfl, rfl, by decide +kernel, rfl, by decide +kernel, by decide +kernel⟩
theorem LK : FnScope ["_law_pool_here", "_law_many", "_law_at", "_law_cell", "_law_number_here"] ["_law_pool_here", "_law_many"] (defScope CV) := ⟨rfl, rfl, rfl, by decide +kernel, rfl, by decide +kernel, by decide +kernel⟩
theorem FV : FnScope ["_law_pool_here", "_law_mood", "_law_menus", "_law_menu", "_law_kind", "_law_far"] ["_law_pool_here", "_law_mood"] (defScope vM) := ⟨rfl, rfl, rfl, by decide +kernel, rfl, by decide +kernel, by decide +kernel⟩
theorem LH : FnScope ["_law_pool_here", "_law_mood", "_law_k", "_law_kind", "_law_rows"] ["_law_pool_here", "_law_mood"] (defScope CT) := ⟨rfl, rfl, rfl, by decide +kernel, rfl, by decide +kernel, by decide +kernel⟩
theorem CK : FnScope ["_law_pool_here", "_law_mood", "_law_level", "_law_room", "_law_calls", "_law_low", "_law_kind", "_law_pair_here", "_law_inner", "_law_one", "_law_goal", "_law_saved"] ["_law_pool_here", "_law_mood", "_law_level", "_law_room", "_law_calls", "_law_low"] (defScope Ak) := ⟨rfl, rfl, rfl, by decide +kernel, rfl, by decide +kernel, by decide +kernel⟩
theorem CL : FnScope ["_law_pool_here", "_law_mood", "_law_level", "_law_room", "_law_calls", "_law_low", "_law_block_here", "_law_turn"] ["_law_pool_here", "_law_mood", "_law_level", "_law_room", "_law_calls", "_law_low"] (defScope Am) := ⟨rfl, rfl, rfl, by decide +kernel, rfl, by decide +kernel, by decide +kernel⟩
theorem Gh : FnScope ["_law_pool_here", "_law_mood", "_law_room", "_law_calls", "_law_goal", "_law_saved", "_law_at", "_law_pair_here", "_law_rows"] ["_law_pool_here", "_law_mood", "_law_room", "_law_calls"] (defScope xX) := ⟨rfl, rfl, rfl, by decide +kernel, rfl, by decide +kernel, by decide +kernel⟩
theorem LM : FnScope ["_law_pool_here", "_law_mood", "_law_room", "_law_calls", "_law_low", "_law_ending", "_law_body_here", "_law_turn", "_law_rows"] ["_law_pool_here", "_law_mood", "_law_room", "_law_calls", "_law_low"] (defScope CY) := ⟨rfl, rfl, rfl, by decide +kernel, rfl, by decide +kernel, by decide +kernel⟩
theorem LL : FnScope ["_law_pool_here", "_law_most", "_law_size", "_law_mood", "_law_wild", "_law_many", "_law_calls", "_law_bodies", "_law_procedure", "_law_room", "_law_low"] ["_law_pool_here", "_law_most", "_law_size"] (defScope CW) := ⟨rfl, rfl, rfl, by decide +kernel, rfl, by decide +kernel, by decide +kernel⟩
theorem Ge : FnScope ["_law_pool_here", "_law_small", "_law_at", "_law_number_here"] ["_law_pool_here"] (defScope xW) := ⟨rfl, rfl, rfl, by decide +kernel, rfl, by decide +kernel, by decide +kernel⟩
theorem N3 : FnScope ["_law_pool_here", "_law_begin", "_law_k"] ["_law_pool_here"] (defScope Bo) := ⟨rfl, rfl, rfl, by decide +kernel, rfl, by decide +kernel, by decide +kernel⟩
theorem LI : FnScope ["_law_begin", "_law_command_here", "_law_x", "_law_y", "_law_u", "_law_v", "_law_p", "_law_q", "_law_word", "_law_k", "_law_turned"] ["_law_begin", "_law_command_here"] (defScope CU) := ⟨rfl, rfl, rfl, by decide +kernel, rfl, by decide +kernel, by decide +kernel⟩
theorem sc_L_bit : FnScope ["_law_state", "_law_task_here", "_law_bits_here"] ["_law_state", "_law_task_here"] (defScope Bp) := ⟨rfl, rfl, rfl, by decide +kernel, rfl, by decide +kernel, by decide +kernel⟩
theorem sc_L_task : FnScope ["_law_state", "_law_task_here", "_law_word", "_law_bit_here", "_law_todo", "_law_at", "_law_waits"] ["_law_state", "_law_task_here"] (defScope sM) := ⟨rfl, rfl, rfl, by decide +kernel, rfl, by decide +kernel, by decide +kernel⟩
theorem sc_L_run : FnScope ["_law_bodies", "_law_procedure", "_law_bits_here", "_law_extra", "_law_state", "_law_turn", "_law_task_here", "_law_block_here"] ["_law_bodies", "_law_procedure", "_law_bits_here", "_law_extra"] (defScope Bm) := ⟨rfl, rfl, rfl, by decide +kernel, rfl, by decide +kernel, by decide +kernel⟩
theorem LN : FnScope ["_law_pool_here", "_law_many", "_law_k"] ["_law_pool_here", "_law_many"] (defScope zJ) := ⟨rfl, rfl, rfl, by decide +kernel, rfl, by decide +kernel, by decide +kernel⟩
theorem LG : FnScope ["_law_deeds", "_law_begin", "_law_pens_here", "_law_held", "_law_deed"] ["_law_deeds", "_law_begin"] (defScope CS) := ⟨rfl, rfl, rfl, by decide +kernel, rfl, by decide +kernel, by decide +kernel⟩
theorem Gg : FnScope ["_law_statement", "_law_item"] ["_law_statement"] (defScope tM) := ⟨rfl, rfl, rfl, by decide +kernel, rfl, by decide +kernel, by decide +kernel⟩
theorem LB : FnScope ["_law_statement", "_law_blocks_here"] ["_law_statement", "_law_blocks_here"] (defScope CQ) := ⟨rfl, rfl, rfl, by decide +kernel, rfl, by decide +kernel, by decide +kernel⟩
theorem EC : FnScope ["_law_block_here", "_law_row", "_law_inner"] ["_law_block_here"] (defScope zI) := ⟨rfl, rfl, rfl, by decide +kernel, rfl, by decide +kernel, by decide +kernel⟩
theorem Gf : FnScope ["_law_bodies", "_law_body_here"] ["_law_bodies"] (defScope tL) := ⟨rfl, rfl, rfl, by decide +kernel, rfl, by decide +kernel, by decide +kernel⟩
theorem EB : FnScope ["_law_one", "_law_other", "_law_k"] ["_law_one", "_law_other"] (defScope zG) := ⟨rfl, rfl, rfl, by decide +kernel, rfl, by decide +kernel, by decide +kernel⟩
theorem sc_L_steered : FnScope ["_law_pool_here", "_law_bodies", "_law_procedure", "_law_many", "_law_extra", "_law_bits_here", "_law_found"] ["_law_pool_here", "_law_bodies", "_law_procedure", "_law_many", "_law_extra"] (defScope qW) := ⟨rfl, rfl, rfl, by decide +kernel, rfl, by decide +kernel, by decide +kernel⟩
theorem sc_trace_T : GScope ["book", "procedure", "bits", "pen", "way", "deeds", "pens", "last"] ["book", "procedure", "bits", "pen"] (defScope pW) := ⟨rfl, rfl, rfl, by decide +kernel, rfl, by decide +kernel, by decide +kernel⟩
theorem Gc : FnScope ["_law_book_here", "_law_procedure", "_law_bits_here", "_law_begin", "_law_pens_here", "_law_behind", "e"] ["_law_book_here", "_law_procedure", "_law_bits_here", "_law_begin"] (defScope xV) := ⟨rfl, rfl, rfl, by decide +kernel, rfl, by decide +kernel, by decide +kernel⟩
theorem sc_trace_D : GScope ["book", "procedure", "bits", "pen", "way", "deeds", "pens", "last"] ["book", "procedure", "bits", "pen"] (defScope pX) := ⟨rfl, rfl, rfl, by decide +kernel, rfl, by decide +kernel, by decide +kernel⟩
theorem sc_law_k18 : FnScope ["_law_script", "_law_pool_here", "_law_bodies", "_law_book_here", "_law_step", "_law_procedure", "_law_begin", "_law_found", "_law_due"] ["_law_script"] (defScope wR) := ⟨rfl, rfl, rfl, by decide +kernel, rfl, by decide +kernel, by decide +kernel⟩
theorem IV : FnScope ["self", "procedure", "path"] ["self", "procedure", "path"] (defScope sL) := ⟨rfl, rfl, rfl, by decide +kernel, rfl, by decide +kernel, by decide +kernel⟩
theorem L8 : FnScope ["self", "index"] ["self", "index"] (defScope vI) := ⟨rfl, rfl, rfl, by decide +kernel, rfl, by decide +kernel, by decide +kernel⟩
theorem ND {K : aD} {Bk : Addr -> Prop} {H : Hp} : RepL K Bk H  [.int 0, .int 0, .int 1, .int 0, .int 0, .int 0] (List.map (He.Dv.v K) [.int 0, .int 0, .int 1, .int 0, .int 0, .int 0]) := by simp [RepL, Rep, He.Dv.v]
structure Txt (w : World) (K : aD) (mg : Str -> Option Value) : Prop where
 n_isinstance : mg "isinstance" = none
 n_int : mg "int" = none
 n_bool : mg "bool" = none
 n_tuple : mg "tuple" = none
 n_len : mg "len" = none
 n_all : mg "all" = none
 n_str : mg "str" = none
 lim : Lim K
 k_LIMITS : ∃ es n, KDict K w (He.ga K "LIMITS") es n
 g_LIMITS : mg "LIMITS" = some (.ref (He.ga K "LIMITS"))
 n_range : mg "range" = none
 i_DEEPEST : ∃ t, mg "DEEPEST" = some (.int 3 t)
 n_list : mg "list" = none
 n_enumerate : mg "enumerate" = none
 i_MOST_IN_LIST : ∃ t, mg "MOST_IN_LIST" = some (.int 8 t)
 i_MOST_IN_PROCEDURE : ∃ t, mg "MOST_IN_PROCEDURE" = some (.int 12 t)
 i_MOST_PROCEDURES : ∃ t, mg "MOST_PROCEDURES" = some (.int 3 t)
 xa_NoBook : XaF K mg "NoBook" ["procedure", "path"]
 fx_NoBook : IM K "NoBook" "__init__" "NoBook.__init__" sL
 c_Book : Cls K (He.ga K "Book")
 a_Book_own : NoAttr K (He.ga K "Book") "own"
 c_Execution : Cls K (He.ga K "Execution")
 a_Execution_own : NoAttr K (He.ga K "Execution") "own"
 a_Execution_bits : NoAttr K (He.ga K "Execution") "bits"
 a_Execution_taken : NoAttr K (He.ga K "Execution") "taken"
 a_Execution_deeds : NoAttr K (He.ga K "Execution") "deeds"
 a_Execution_stack : NoAttr K (He.ga K "Execution") "stack"
 a_Execution_active : NoAttr K (He.ga K "Execution") "active"
 a_Execution_ended : NoAttr K (He.ga K "Execution") "ended"
 xa_NoRun : XaF K mg "NoRun" ["index"]
 fx_NoRun : IM K "NoRun" "__init__" "NoRun.__init__" vI
 x_NoProcedure : XcF K mg "NoProcedure"
 T_Execution : ClF K mg "Execution"
 x_NoPen : XcF K mg "NoPen"
 xm : XMs K ["NoBook", "NoPath", "NoPen", "NoProcedure", "NoRun"]
 ns : SM K ["NoBook", "NoPath", "NoPen", "NoProcedure", "NoRun"]
 T_Book : ClF K mg "Book"
 n_min : mg "min" = none
 t_HOME : ∀ Bk H, Rep K Bk H G4 (.ref (He.ga K "HOME"))
 G_is_integer : mg "is_integer" = some (.ref (He.ga K "is_integer"))
 f_is_integer : qU K "is_integer" tK
 G_is_bit : mg "is_bit" = some (.ref (He.ga K "is_bit"))
 f_is_bit : qU K "is_bit" CO
 G_is_pen : mg "is_pen" = some (.ref (He.ga K "is_pen"))
 f_is_pen : qU K "is_pen" zF
 G_is_command : mg "is_command" = some (.ref (He.ga K "is_command"))
 f_is_command : qU K "is_command" pL
 G_executed : mg "executed" = some (.ref (He.ga K "executed"))
 f_executed : qU K "executed" xU
 G_blocks_of : mg "blocks_of" = some (.ref (He.ga K "blocks_of"))
 f_blocks_of : qU K "blocks_of" vL
 G_with_blocks : mg "with_blocks" = some (.ref (He.ga K "with_blocks"))
 f_with_blocks : qU K "with_blocks" rT
 G_copied_block : mg "copied_block" = some (.ref (He.ga K "copied_block"))
 f_copied_block : qU K "copied_block" mE
 G_copied_statement : mg "copied_statement" = some (.ref (He.ga K "copied_statement"))
 f_copied_statement : qU K "copied_statement" iF
 G_well_formed : mg "well_formed" = some (.ref (He.ga K "well_formed"))
 f_well_formed : qU K "well_formed" rV
 G_first_fault : mg "first_fault" = some (.ref (He.ga K "first_fault"))
 f_first_fault : qU K "first_fault" rX
 M_Book_init : Meth K (He.ga K "Book") "__init__" (He.ma K (He.ga K "Book") "__init__")
 f_Book_init : IM K "Book" "__init__" "Book.__init__" lL
 M_Book_len : Meth K (He.ga K "Book") "__len__" (He.ma K (He.ga K "Book") "__len__")
 f_Book_len : IM K "Book" "__len__" "Book.__len__" qD
 M_Book_bodies : Meth K (He.ga K "Book") "bodies" (He.ma K (He.ga K "Book") "bodies")
 f_Book_bodies : IM K "Book" "bodies" "Book.bodies" iZ
 G_has_procedure : mg "has_procedure" = some (.ref (He.ga K "has_procedure"))
 f_has_procedure : qU K "has_procedure" oX
 M_Execution_init : Meth K (He.ga K "Execution") "__init__" (He.ma K (He.ga K "Execution") "__init__")
 f_Execution_init : IM K "Execution" "__init__" "Execution.__init__" fO
 M_Execution_take : Meth K (He.ga K "Execution") "take" (He.ma K (He.ga K "Execution") "take")
 f_Execution_take : IM K "Execution" "take" "Execution.take" gZ
 M_Execution_enter : Meth K (He.ga K "Execution") "enter" (He.ma K (He.ga K "Execution") "enter")
 f_Execution_enter : IM K "Execution" "enter" "Execution.enter" gC
 M_Execution_leave : Meth K (He.ga K "Execution") "leave" (He.ma K (He.ga K "Execution") "leave")
 f_Execution_leave : IM K "Execution" "leave" "Execution.leave" gB
 M_Execution_unwind : Meth K (He.ga K "Execution") "unwind" (He.ma K (He.ga K "Execution") "unwind")
 f_Execution_unwind : IM K "Execution" "unwind" "Execution.unwind" fP
 M_Execution_begin : Meth K (He.ga K "Execution") "begin" (He.ma K (He.ga K "Execution") "begin")
 f_Execution_begin : IM K "Execution" "begin" "Execution.begin" gD
 M_Execution_step : Meth K (He.ga K "Execution") "step" (He.ma K (He.ga K "Execution") "step")
 f_Execution_step : IM K "Execution" "step" "Execution.step" hW
 G_executed_run : mg "executed_run" = some (.ref (He.ga K "executed_run"))
 f_executed_run : qU K "executed_run" qC
 G_pens_behind : mg "pens_behind" = some (.ref (He.ga K "pens_behind"))
 f_pens_behind : qU K "pens_behind" rW
 G_L_pool : mg "_law_pool" = some (.ref (He.ga K "_law_pool"))
 f_L_pool : qU K "_law_pool" zH
 G_L_draw : mg "_law_draw" = some (.ref (He.ga K "_law_draw"))
 f_L_draw : qU K "_law_draw" CV
 G_L_command : mg "_law_command" = some (.ref (He.ga K "_law_command"))
 f_L_command : qU K "_law_command" vM
 G_L_pair : mg "_law_pair" = some (.ref (He.ga K "_law_pair"))
 f_L_pair : qU K "_law_pair" CT
 G_L_piece : mg "_law_piece" = some (.ref (He.ga K "_law_piece"))
 f_L_piece : qU K "_law_piece" Ak
 G_L_block : mg "_law_block" = some (.ref (He.ga K "_law_block"))
 f_L_block : qU K "_law_block" Am
 G_L_around : mg "_law_around" = some (.ref (He.ga K "_law_around"))
 f_L_around : qU K "_law_around" xX
 G_L_body : mg "_law_body" = some (.ref (He.ga K "_law_body"))
 f_L_body : qU K "_law_body" CY
 G_L_book : mg "_law_book" = some (.ref (He.ga K "_law_book"))
 f_L_book : qU K "_law_book" CW
 G_L_number : mg "_law_number" = some (.ref (He.ga K "_law_number"))
 f_L_number : qU K "_law_number" xW
 G_L_pen : mg "_law_pen" = some (.ref (He.ga K "_law_pen"))
 f_L_pen : qU K "_law_pen" Bo
 G_L_move : mg "_law_move" = some (.ref (He.ga K "_law_move"))
 f_L_move : qU K "_law_move" CU
 G_L_bit : mg "_law_bit" = some (.ref (He.ga K "_law_bit"))
 f_L_bit : qU K "_law_bit" Bp
 G_L_task : mg "_law_task" = some (.ref (He.ga K "_law_task"))
 f_L_task : qU K "_law_task" sM
 G_L_run : mg "_law_run" = some (.ref (He.ga K "_law_run"))
 f_L_run : qU K "_law_run" Bm
 G_L_bits : mg "_law_bits" = some (.ref (He.ga K "_law_bits"))
 f_L_bits : qU K "_law_bits" zJ
 G_L_pens : mg "_law_pens" = some (.ref (He.ga K "_law_pens"))
 f_L_pens : qU K "_law_pens" CS
 G_L_blocks : mg "_law_blocks" = some (.ref (He.ga K "_law_blocks"))
 f_L_blocks : qU K "_law_blocks" tM
 G_L_with : mg "_law_with" = some (.ref (He.ga K "_law_with"))
 f_L_with : qU K "_law_with" CQ
 G_L_copy : mg "_law_copy" = some (.ref (He.ga K "_law_copy"))
 f_L_copy : qU K "_law_copy" zI
 G_L_copies : mg "_law_copies" = some (.ref (He.ga K "_law_copies"))
 f_L_copies : qU K "_law_copies" tL
 G_L_same : mg "_law_same" = some (.ref (He.ga K "_law_same"))
 f_L_same : qU K "_law_same" zG
 G_L_steered : mg "_law_steered" = some (.ref (He.ga K "_law_steered"))
 f_L_steered : qU K "_law_steered" qW
 G_trace_T : mg "trace" = some (.ref (He.ga K "trace"))
 f_trace_T : FnK K "trace" pW "pen" (.ref (He.ga K "HOME"))
 G_L_traced : mg "_law_traced" = some (.ref (He.ga K "_law_traced"))
 f_L_traced : qU K "_law_traced" xV
 G_trace_D : mg "trace" = some (.ref (He.ga K "trace"))
 f_trace_D : FnK K "trace" pX "pen" (.ref (He.ga K "HOME"))
 G_law_k18 : mg "law" = some (.ref (He.ga K "law"))
 f_law_k18 : qU K "law" wR
section
variable {P : Program} {w : World} {K : aD} {mg : Str -> Option Value} {base : Heap}
theorem xa_NoBook (T : Txt w K mg) : XcA P w K mg base 1 "NoBook" ["self", "procedure", "path"] (Th (He.ga K "NoBook") "procedure" "path") :=
 NT (m := "__init__") T.xa_NoBook T.fx_NoBook IV Mr (fun _ _ _ _ _ _ us hl => match us, hl with | [_, _, _], _ => rfl) fun cdv A outer s H vs Q E hr hsp => by
  obtain ⟨a, y, z, e, ha, h⟩ := hsp;subst e;exact ⟨_, (pss_cons (ps_ost (cv 0) (cv 1)) (pss_one (ps_ost (cv 0) (cv 2)))), rd_X2 T.xa_NoBook (by simp) (by simp) ha (fun _ _ => rfl) h⟩
theorem xa_NoRun (T : Txt w K mg) : XcA P w K mg base 1 "NoRun" ["self", "index"] (Ti (He.ga K "NoRun") "index") :=
 NT (m := "__init__") T.xa_NoRun T.fx_NoRun L8 Mu (fun _ _ _ _ _ _ us hl => match us, hl with | [_, _], _ => rfl) fun cdv A outer s H vs Q E hr hsp => by
  obtain ⟨a, y, e, ha, h⟩ := hsp;subst e;exact ⟨_, (pss_one (ps_ost (cv 0) (cv 1))), rd_X1 T.xa_NoRun (by simp) ha (fun _ _ => rfl) h⟩
theorem kQ (T : Txt w K mg) : tA P w K mg base 1 "is_integer" ["value"] (spF K fG) :=
 jU (k := 0) T.f_is_integer T.G_is_integer Di (Runs.plain (n := 1) (np := 1)) (fun _ _ _ _ _ _ us hl => match us, hl with | [_], _ => rfl) fun _ _ _ _ _ _ hr tk nd => by
  unfold pT;exact (aH (aU (mW (iC (T := "int") T.n_isinstance T.n_int (fv 0)) (pe_one (VG (iC (T := "bool") T.n_isinstance T.n_bool (fv 0)))))))
theorem EN (T : Txt w K mg) : tA P w K mg base 2 "is_bit" ["value"] (spF K vT) :=
 jU (k := 1) T.f_is_bit T.G_is_bit LA (Runs.plain (n := 1) (np := 1)) (fun _ _ _ _ _ _ us hl => match us, hl with | [_], _ => rfl) fun _ _ _ _ _ _ hr tk nd => by
  unfold AK;exact (aH (aU (mW (aY (kQ T) hr tk (aA (fv 0) aG)) (pe_one (Fz vN Gj vN Gj fI (fv 0) fI)))))
theorem EM (T : Txt w K mg) : tA P w K mg base 2 "is_pen" ["value"] (spF K sO) :=
 jU (k := 1) T.f_is_pen T.G_is_pen L9 (Runs.plain (n := 2) (np := 1)) (fun _ _ _ _ _ _ us hl => match us, hl with | [_], _ => rfl) fun _ _ _ _ _ _ hr tk nd => by
  unfold AJ;exact (aH (aU (mW (iC (T := "tuple") T.n_isinstance T.n_tuple (fv 0)) (mW (rF (bB hr.units) s_eq (fQ T.n_len (fv 0)) fI) (pe_one (Ou T.n_all (yG (own := [("number", 1)]) (t := (.nm 1)) rfl nd (kM (fv 0)) (blkOk_by (own := [("number", 1)]) (N := ["value", "number"]) (sc := defScope zF) (by decide +kernel)) (fun _ _ _ _ _ => (pg_name (i := 1) nd rfl (.inl rfl))) (fun _ _ _ _ _ => iN) (fun _ _ _ _ _ => (aY (kQ T) hr takes0 (aA (fv 1) aG))))))))))
theorem xK (T : Txt w K mg) : tA P w K mg base 2 "is_command" ["value"] (spF K gE) :=
 jU (k := 1) T.f_is_command T.G_is_command Dj (Runs.plain (n := 5) (np := 1)) (fun _ _ _ _ _ _ us hl => match us, hl with | [_], _ => rfl) fun _ _ _ _ _ _ hr tk nd => by
  unfold kB mX;exact (aE (bC (PW.pt (mU (gM (eU (iC (T := "tuple") T.n_isinstance T.n_tuple (fv 0)))) (pw_or1 (aT (bB hr.units) s_eq (fQ T.n_len (fv 0)) fI)))) (aH (aU fB)) aQ)
  (aE (bC (PW.pt (mU (gM (eU (iC (T := "str") T.n_isinstance T.n_str (bH (fv 0) fI)))) (pw_or1 (M5 T.lim T.k_LIMITS T.g_LIMITS (bH (fv 0) fI))))) (aH (aU fB)) aQ)
  (aE (uF (t := (.tp [1, 2, 3])) (f_lim T.lim T.k_LIMITS T.g_LIMITS (bH (fv 0) fI)) (pg_tup rfl (pgs_cons (pg_name (i := 1) nd rfl (.inl rfl)) (pgs_cons (pg_name (i := 2) nd rfl (.inr rfl)) (pgs_cons (pg_name (i := 3) nd rfl (.inr rfl)) pgs_nil)))))
  (aE (bC (aT (tN hr.units) FX (fQ T.n_len (fv 0)) (cP bU dE (fv 1) fI)) (aH (aU fB)) aQ)
  (aH (aU (Ou T.n_all (yG (own := [("number", 4)]) (t := (.nm 4)) rfl nd (kM (xI (fv 0) (gV fI) gW)) (blkOk_by (own := [("number", 4)]) (N := ["value", "many", "low", "high", "number"]) (sc := defScope pL) (by decide +kernel)) (fun _ _ _ _ _ => (pg_name (i := 4) nd rfl (.inl rfl))) (fun _ _ _ _ _ => iN) (fun _ _ _ _ _ => (mW (aY (kQ T) hr takes0 (aA (fv 4) aG)) (pe_one (Fz vN Gj vN Gj (fv 2) (fv 4) (fv 3)))))))))))))
theorem Gv (T : Txt w K mg) : tA P w K mg base 1 "executed" ["pen", "command"] (spF K nL) :=
 jU (k := 0) T.f_executed T.G_executed Gb (Runs.plain (n := 10) (np := 2)) (fun _ _ _ _ _ _ us hl => match us, hl with | [_, _], _ => rfl) fun _ _ _ _ _ _ hr tk nd => by
  unfold uJ lX;exact (aE (uF (t := (.tp [2, 3, 4, 5, 6, 7])) (fv 0) (pg_tup rfl (pgs_cons (pg_name (i := 2) nd rfl (.inl rfl)) (pgs_cons (pg_name (i := 3) nd rfl (.inl rfl)) (pgs_cons (pg_name (i := 4) nd rfl (.inl rfl)) (pgs_cons (pg_name (i := 5) nd rfl (.inl rfl)) (pgs_cons (pg_name (i := 6) nd rfl (.inl rfl)) (pgs_cons (pg_name (i := 7) nd rfl (.inl rfl)) pgs_nil))))))))
  (aE (aZ (i := 8) nd rfl (.inl rfl) (bH (fv 1) fI))
  (aE (bC (aT (bB hr.units) s_eq (fv 8) fS) (aH (aU (bM (aA (cP bU dE (fv 2) (cP iG qB (bH (fv 1) fI) (fv 4))) (aA (cP bU dE (fv 3) (cP iG qB (bH (fv 1) fI) (fv 5))) (aA (fv 4) (aA (fv 5) (aA (fv 6) (aA (fv 7) aG))))))))) aQ)
  (aE (bC (aT (bB hr.units) s_eq (fv 8) fS) (aE (oY (t := (.nm 9)) (passes_of rfl) rfl (pR (by rfl) T.n_range (bH (fv 1) fI)) (pg_name (i := 9) nd rfl (.inl rfl)) (iW [9] (aH (VC (i := 4) (j := 5) (by rfl) nd rfl rfl (by decide) rfl rfl (oP (fv 5)) (fv 4) (by rfl)))))
  (aH (aU (bM (aA (fv 2) (aA (fv 3) (aA (fv 4) (aA (fv 5) (aA (fv 6) (aA (fv 7) aG)))))))))) aQ)
  (aE (bC (aT (bB hr.units) s_eq (fv 8) fS) (aH (aU (bM (aA (fv 2) (aA (fv 3) (aA (fv 4) (aA (oP (fv 5)) (aA (fv 6) (aA (fv 7) aG))))))))) aQ)
  (aE (bC (aT (bB hr.units) s_eq (fv 8) fS) (aH (aU (bM (aA (fv 2) (aA (fv 3) (aA (cP iG qB (bH (fv 1) fI) (fv 4)) (aA (cP iG qB (bH (fv 1) fI) (fv 5)) (aA (fv 6) (aA (fv 7) aG))))))))) aQ)
  (aE (bC (aT (bB hr.units) s_eq (fv 8) fS) (aH (aU (bM (aA (fv 2) (aA (fv 3) (aA (bH (fv 1) fI) (aA (bH (fv 1) fI) (aA (fv 6) (aA (fv 7) aG))))))))) aQ)
  (aE (bC (aT (bB hr.units) s_eq (fv 8) fS) (aH (aU (bM (aA (bH (fv 1) fI) (aA (bH (fv 1) fI) (aA (fv 4) (aA (fv 5) (aA (fv 6) (aA (fv 7) aG))))))))) aQ)
  (aE (bC (aT (bB hr.units) s_eq (fv 8) fS) (aH (aU (bM (aA (fv 2) (aA (fv 3) (aA (fv 4) (aA (fv 5) (aA (fv 2) (aA (fv 3) aG))))))))) aQ)
  (aE (bC (aT (bB hr.units) s_eq (fv 8) fS) (aH (aU (bM (aA (fv 6) (aA (fv 7) (aA (fv 4) (aA (fv 5) (aA (fv 6) (aA (fv 7) aG))))))))) aQ)
  (aH (aU (bM (aA (fv 6) (aA (fv 7) (aA (fv 4) (aA (fv 5) (aA (fv 2) (aA (fv 3) aG)))))))))))))))))))
theorem zL (T : Txt w K mg) : tA P w K mg base 1 "blocks_of" ["statement"] (spF K lN) :=
 jU (k := 0) T.f_blocks_of T.G_blocks_of FU (Runs.plain (n := 2) (np := 1)) (fun _ _ _ _ _ _ us hl => match us, hl with | [_], _ => rfl) fun _ _ _ _ _ _ hr tk nd => by
  unfold rM;exact (aE (aZ (i := 1) nd rfl (.inl rfl) (bH (fv 0) fI))
  (aE (bC (PW.pt (mU (aT (bB hr.units) s_eq (fv 1) fS) (pw_or1 (aT (bB hr.units) s_eq (fv 1) fS)))) (aH (aU (cJ (aA (bH (fv 0) fI) aG)))) aQ)
  (aE (bC (aT (bB hr.units) s_eq (fv 1) fS) (aH (aU (cJ (aA (bH (fv 0) fI) (aA (bH (fv 0) fI) aG))))) aQ)
  (aE (bC (aT (bB hr.units) s_eq (fv 1) fS) (aH (aU (bH (fv 0) fI))) aQ)
  (aH (aU (cJ aG)))))))
theorem Cd (T : Txt w K mg) : tA P w K mg base 1 "with_blocks" ["statement", "blocks"] (spF K nV) :=
 jU (k := 0) T.f_with_blocks T.G_with_blocks CH (Runs.plain (n := 3) (np := 2)) (fun _ _ _ _ _ _ us hl => match us, hl with | [_, _], _ => rfl) fun _ _ _ _ _ _ hr tk nd => by
  unfold nY;exact (aE (aZ (i := 2) nd rfl (.inl rfl) (bH (fv 0) fI))
  (aE (bC (PW.pt (mU (aT (bB hr.units) s_eq (fv 2) fS) (pw_or1 (aT (bB hr.units) s_eq (fv 2) fS)))) (aH (aU (bM (aA (fv 2) (aA (bH (fv 1) fI) aG))))) aQ)
  (aE (bC (aT (bB hr.units) s_eq (fv 2) fS) (aH (aU (bM (aA (fv 2) (aA (bH (fv 1) fI) (aA (bH (fv 1) fI) aG)))))) aQ)
  (aE (bC (aT (bB hr.units) s_eq (fv 2) fS) (aH (aU (bM (aA (fv 2) (aA (bH (fv 0) fI) (aA (bH (fv 0) fI) (aA (fv 1) aG))))))) aQ)
  (aH (aU (fv 0)))))))
theorem oI (T : Txt w K mg) : ∀ n, (tA P w K mg base (1 + n + 1) "copied_statement" ["statement"] (spF K (iH n))) /\ (tA P w K mg base (1 + n + 1) "copied_block" ["block"] (spF K (eW n)))
 | 0 => ⟨tP T.f_copied_statement T.G_copied_statement pF (fun _ _ _ _ _ _ us hl => match us, hl with | [_], _ => rfl), tP T.f_copied_block T.G_copied_block uR (fun _ _ _ _ _ _ us hl => match us, hl with | [_], _ => rfl)⟩
 | n + 1 => by
  have ih := oI T n;have ih_copied_statement := ih.1;have ih_copied_block := ih.2;refine ⟨?_, ?_⟩
  ·exact jU (k := 1 + n + 1) T.f_copied_statement T.G_copied_statement pF (Runs.plain (n := 2) (np := 1)) (fun _ _ _ _ _ _ us hl => match us, hl with | [_], _ => rfl) fun _ _ _ _ _ _ hr tk nd => by
    unfold iP;exact (aH (aU (aY (Cd T) hr tk (aA (fv 0) (aA (yG (own := [("block", 1)]) (t := (.nm 1)) rfl nd (kM (aY (zL T) hr tk (aA (fv 0) aG) (by omega))) (blkOk_by (own := [("block", 1)]) (N := ["statement", "block"]) (sc := defScope iF) (by decide +kernel)) (fun _ _ _ _ _ => (pg_name (i := 1) nd rfl (.inl rfl))) (fun _ _ _ _ _ => iN) (fun _ _ _ _ _ => (aY ih_copied_block hr takes0 (aA (fv 1) aG) (by omega)))) aG)) (by omega))))
  ·exact jU (k := 1 + n + 1) T.f_copied_block T.G_copied_block uR (Runs.plain (n := 2) (np := 1)) (fun _ _ _ _ _ _ us hl => match us, hl with | [_], _ => rfl) fun _ _ _ _ _ _ hr tk nd => by
    unfold mZ;exact (aH (aU (yG (own := [("statement", 1)]) (t := (.nm 1)) rfl nd (kM (fv 0)) (blkOk_by (own := [("statement", 1)]) (N := ["block", "statement"]) (sc := defScope mE) (by decide +kernel)) (fun _ _ _ _ _ => (pg_name (i := 1) nd rfl (.inl rfl))) (fun _ _ _ _ _ => iN) (fun _ _ _ _ _ => (aY ih_copied_statement hr takes0 (aA (fv 1) aG) (by omega))))))
theorem uU (T : Txt w K mg) (n : Nat) : tA P w K mg base (1 + n + 1) "copied_block" ["block"] (spF K (eW n)) := (oI T n).2
theorem Ce (T : Txt w K mg) : tA P w K mg base 3 "well_formed" ["value", "level", "many"] (spF K kR) :=
 jU (k := 2) T.f_well_formed T.G_well_formed CI (Runs.plain (n := 4) (np := 3)) (fun _ _ _ _ _ _ us hl => match us, hl with | [_, _, _], _ => rfl) fun _ _ _ _ _ _ hr tk nd => by
  unfold nZ;exact (aE (bC (eU (aY (xK T) hr tk (aA (fv 0) aG))) (aH (aU fB)) aQ)
  (aE (bC (PW.pt (mU (gM (eU (iC (T := "tuple") T.n_isinstance T.n_tuple (fv 0)))) (mU (aT nK Aj (fQ T.n_len (fv 0)) fI) (pw_or1 (gM (eU (iC (T := "str") T.n_isinstance T.n_str (bH (fv 0) fI)))))))) (aH (aU fB)) aQ)
  (aE (aZ (i := 3) nd rfl (.inl rfl) (bH (fv 0) fI))
  (aE (bC (aT (bB hr.units) s_eq (fv 3) fS) (aH (aU (mW (rF (bB hr.units) s_eq (fQ T.n_len (fv 0)) fI) (pe_one (aY (EN T) hr tk (aA (bH (fv 0) fI) aG)))))) aQ)
  (aE (bC (aT (bB hr.units) s_eq (fv 1) (Fy T.i_DEEPEST)) (aH (aU fB)) aQ)
  (aE (bC (PW.pt (mU (aT (bB hr.units) s_eq (fv 3) fS) (pw_or1 (aT (bB hr.units) s_eq (fv 3) fS)))) (aH (aU (mW (rF (bB hr.units) s_eq (fQ T.n_len (fv 0)) fI) (pe_one (iC (T := "list") T.n_isinstance T.n_list (bH (fv 0) fI)))))) aQ)
  (aE (bC (aT (bB hr.units) s_eq (fv 3) fS) (aH (aU (mW (rF (bB hr.units) s_eq (fQ T.n_len (fv 0)) fI) (mW (iC (T := "list") T.n_isinstance T.n_list (bH (fv 0) fI)) (pe_one (iC (T := "list") T.n_isinstance T.n_list (bH (fv 0) fI))))))) aQ)
  (aE (bC (PW.pt (mU (aT (tN hr.units) FX (fv 3) fS) (pw_or1 (aT (tN hr.units) FX (fQ T.n_len (fv 0)) fI)))) (aH (aU fB)) aQ)
  (aE (bC (PW.pt (mU (gM (eU (aY (kQ T) hr tk (aA (bH (fv 0) fI) aG)))) (pw_or1 (gM (Hf vN Gj nK Aj fI (bH (fv 0) fI) (fv 2)))))) (aH (aU fB)) aQ)
  (aE (bC (PW.pt (mU (gM (eU (iC (T := "bool") T.n_isinstance T.n_bool (bH (fv 0) fI)))) (mU (gM (eU (iC (T := "list") T.n_isinstance T.n_list (bH (fv 0) fI)))) (pw_or1 (aT (tN hr.units) FX (fQ T.n_len (bH (fv 0) fI)) fI))))) (aH (aU fB)) aQ)
  (aH (aU (mW (iC (T := "list") T.n_isinstance T.n_list (bH (bH (fv 0) fI) fI)) (pe_one (iC (T := "list") T.n_isinstance T.n_list (bH (bH (fv 0) fI) fI))))))))))))))))
theorem vQ (T : Txt w K mg) : ∀ n, tA P w K mg base (3 + n + 1) "first_fault" ["block", "level", "many", "path", "met"] (spF K (dO n))
 | 0 => tP T.f_first_fault T.G_first_fault vJ (fun _ _ _ _ _ _ us hl => match us, hl with | [_, _, _, _, _], _ => rfl)
 | n + 1 => by
  have ih_first_fault := vQ T n;exact jU (k := 3 + n + 1) T.f_first_fault T.G_first_fault vJ (Runs.plain (n := 11) (np := 5)) (fun _ _ _ _ _ _ us hl => match us, hl with | [_, _, _, _, _], _ => rfl) fun _ _ _ _ _ _ hr tk nd => by
   unfold oD kW gA;exact (aE (oY (t := (.tp [5, 6])) (passes_of rfl) rfl (Bx (by rfl) T.n_enumerate (fv 0)) (pg_tup rfl (pgs_cons (pg_name (i := 5) nd rfl (.inl rfl)) (pgs_cons (pg_name (i := 6) nd rfl (.inl rfl)) pgs_nil))) (iW [5, 6, 7, 8, 9, 10] (aE (aZ (i := 7) nd rfl (.inl rfl) (cP bU dE (fv 3) (bM (aA (fv 5) aG))))
  (aE (bC (PW.pt (mU (aT (bB hr.units) s_eq (fv 5) (Fy T.i_MOST_IN_LIST)) (mU (aT (bB hr.units) s_eq (fv 4) (Fy T.i_MOST_IN_PROCEDURE)) (pw_or1 (gM (eU (aY (Ce T) hr tk (aA (fv 6) (aA (fv 1) (aA (fv 2) aG))) (by omega)))))))) (aH (aU (bM (aA (fv 7) (aA (fv 4) aG))))) aQ)
  (aE (M6 (k := 4) nd rfl (.inl rfl) fI)
  (aH (oY (t := (.tp [8, 9])) (passes_of rfl) rfl (Bx (by rfl) T.n_enumerate (aY (zL T) hr tk (aA (fv 6) aG) (by omega))) (pg_tup rfl (pgs_cons (pg_name (i := 8) nd rfl (.inl rfl)) (pgs_cons (pg_name (i := 9) nd rfl (.inl rfl)) pgs_nil))) (iW [8, 9, 10] (aE (uF (t := (.tp [10, 4])) (aY ih_first_fault hr tk (aA (fv 9) (aA (cP bU dE (fv 1) fI) (aA (fv 2) (aA (cP bU dE (fv 7) (bM (aA (fv 8) aG))) (aA (fv 4) aG))))) (by omega)) (pg_tup rfl (pgs_cons (pg_name (i := 10) nd rfl (.inl rfl)) (pgs_cons (pg_name (i := 4) nd rfl (.inl rfl)) pgs_nil))))
  (aH (bC (aT Gu N5 (fv 10) fN) (aH (aU (bM (aA (fv 10) (aA (fv 4) aG))))) aQ)))))))))))
  (aH (aU (bM (aA fN (aA (fv 4) aG))))))
theorem Ff (T : Txt w K mg) : OkMX P w K mg base 23 "Book" "__init__" ["self", "bodies"] (spF K lP) :=
 xM (k := 22) T.f_Book_init T.M_Book_init FW (Runs.plain (n := 6) (np := 2)) (fun _ _ _ _ _ _ us hl => match us, hl with | [_, _], _ => rfl) fun _ _ _ _ _ _ hr tk nd => by
  unfold rP eC;exact (aE (bC (PW.pt (mU (gM (eU (iC (T := "list") T.n_isinstance T.n_list (fv 1)))) (pw_or1 (gM (Hf vN Gj vN Gj fI (fQ T.n_len (fv 1)) (Fy T.i_MOST_PROCEDURES)))))) (aH (B4 (xa_NoBook T) hr tk (aA (oP fI) (aA (bM aG) aG)))) aQ)
  (aE (oY (t := (.tp [2, 3])) (passes_of rfl) rfl (Bx (by rfl) T.n_enumerate (fv 1)) (pg_tup rfl (pgs_cons (pg_name (i := 2) nd rfl (.inl rfl)) (pgs_cons (pg_name (i := 3) nd rfl (.inl rfl)) pgs_nil))) (iW [2, 3, 4, 5] (aE (bC (gM (eU (iC (T := "list") T.n_isinstance T.n_list (fv 3)))) (aH (B4 (xa_NoBook T) hr tk (aA (fv 2) (aA (bM aG) aG)))) aQ)
  (aE (uF (t := (.tp [4, 5])) (aY (vQ T 10) hr tk (aA (fv 3) (aA fI (aA (fQ T.n_len (fv 1)) (aA (bM aG) (aA fI aG)))))) (pg_tup rfl (pgs_cons (pg_name (i := 4) nd rfl (.inl rfl)) (pgs_cons (pg_name (i := 5) nd rfl (.inl rfl)) pgs_nil))))
  (aH (bC (aT Gu N5 (fv 4) fN) (aH (B4 (xa_NoBook T) hr tk (aA (fv 2) (aA (fv 4) aG)))) aQ))))))
  (aH (pQ T.c_Book T.a_Book_own (fv 0) (yG (own := [("body", 3)]) (t := (.nm 3)) rfl nd (kM (fv 1)) (blkOk_by (own := [("body", 3)]) (N := ["self", "bodies", "procedure", "body", "fault", "met"]) (sc := defScope lL) (by decide +kernel)) (fun _ _ _ _ _ => (pg_name (i := 3) nd rfl (.inl rfl))) (fun _ _ _ _ _ => iN) (fun _ _ _ _ _ => (aY (uU T 20) hr takes0 (aA (fv 3) aG))))))))
theorem H8 (T : Txt w K mg) : OkMX P w K mg base 1 "Book" "__len__" ["self"] (spF K qG) :=
 xM (k := 0) T.f_Book_len T.M_Book_len Gi (Runs.plain (n := 1) (np := 1)) (fun _ _ _ _ _ _ us hl => match us, hl with | [_], _ => rfl) fun _ _ _ _ _ _ hr tk nd => by
  unfold uO;exact (aH (aU (fQ T.n_len (eQ T.c_Book T.a_Book_own (fv 0)))))
theorem vS (T : Txt w K mg) : OkMX P w K mg base 23 "Book" "bodies" ["self"] (spF K kS) :=
 xM (k := 22) T.f_Book_bodies T.M_Book_bodies CM (Runs.plain (n := 2) (np := 1)) (fun _ _ _ _ _ _ us hl => match us, hl with | [_], _ => rfl) fun _ _ _ _ _ _ hr tk nd => by
  unfold oE;exact (aH (aU (yG (own := [("body", 1)]) (t := (.nm 1)) rfl nd (kM (eQ T.c_Book T.a_Book_own (fv 0))) (blkOk_by (own := [("body", 1)]) (N := ["self", "body"]) (sc := defScope iZ) (by decide +kernel)) (fun _ _ _ _ _ => (pg_name (i := 1) nd rfl (.inl rfl))) (fun _ _ _ _ _ => iN) (fun _ _ _ _ _ => (aY (uU T 20) hr takes0 (aA (fv 1) aG))))))
theorem Ao (T : Txt w K mg) : tA P w K mg base 3 "has_procedure" ["book", "procedure"] (spF K kX) :=
 jU (k := 2) T.f_has_procedure T.G_has_procedure Ah (Runs.plain (n := 2) (np := 2)) (fun _ _ _ _ _ _ us hl => match us, hl with | [_, _], _ => rfl) fun _ _ _ _ _ _ hr tk nd => by
  unfold kY;exact (aH (aU (mW (aY (kQ T) hr tk (aA (fv 1) aG)) (pe_one (Fz vN Gj nK Aj fI (fv 1) (VJ T.n_len (H8 T) hr (fv 0)))))))
theorem zN (T : Txt w K mg) : OkMX P w K mg base 1 "Execution" "__init__" ["self", "bodies", "bits"] (spF K hX) :=
 xM (k := 0) T.f_Execution_init T.M_Execution_init zE (Runs.plain (n := 4) (np := 3)) (fun _ _ _ _ _ _ us hl => match us, hl with | [_, _, _], _ => rfl) fun _ _ _ _ _ _ hr tk nd => by
  unfold kE;exact (aE (pQ T.c_Execution T.a_Execution_own (fv 0) (fv 1))
  (aE (pQ T.c_Execution T.a_Execution_bits (fv 0) (fv 2))
  (aE (pQ T.c_Execution T.a_Execution_taken (fv 0) fI)
  (aE (pQ T.c_Execution T.a_Execution_deeds (fv 0) (cJ aG))
  (aE (pQ T.c_Execution T.a_Execution_stack (fv 0) (cJ aG))
  (aE (pQ T.c_Execution T.a_Execution_active (fv 0) (f_lcC (own := [("body", 3)]) (t := (.nm 3)) rfl nd (kM (fv 1)) (blkOk_by (own := [("body", 3)]) (N := ["self", "bodies", "bits", "body"]) (sc := defScope fO) (by decide +kernel)) (fun _ _ _ _ _ => (pg_name (i := 3) nd rfl (.inl rfl)))))
  (aH (pQ T.c_Execution T.a_Execution_ended (fv 0) fI))))))))
theorem qY (T : Txt w K mg) : OkMX P w K mg base 3 "Execution" "take" ["self"] (spF K dY) :=
 xM (k := 2) T.f_Execution_take T.M_Execution_take zC (Runs.plain (n := 1) (np := 1)) (fun _ _ _ _ _ _ us hl => match us, hl with | [_], _ => rfl) fun _ _ _ _ _ _ hr tk nd => by
  unfold iA;exact (aE (bC (aT (bB hr.units) s_eq (eQ T.c_Execution T.a_Execution_taken (fv 0)) (fQ T.n_len (eQ T.c_Execution T.a_Execution_bits (fv 0)))) (aH (sS (xa_NoRun T) hr tk (aA (eQ T.c_Execution T.a_Execution_taken (fv 0)) aG))) aQ)
  (aE (JL T.c_Execution T.a_Execution_taken (fv 0) fI)
  (aH (aU (bH (eQ T.c_Execution T.a_Execution_bits (fv 0)) (cP fV nG (eQ T.c_Execution T.a_Execution_taken (fv 0)) fI))))))
theorem qF (T : Txt w K mg) : OkMX P w K mg base 3 "Execution" "enter" ["self", "procedure", "statement"] (spF K eD) :=
 xM (k := 2) T.f_Execution_enter T.M_Execution_enter xR (Runs.plain (n := 4) (np := 3)) (fun _ _ _ _ _ _ us hl => match us, hl with | [_, _, _], _ => rfl) fun _ _ _ _ _ _ hr tk nd => by
  unfold gJ;exact (aE (aZ (i := 3) nd rfl (.inl rfl) (bH (eQ T.c_Execution T.a_Execution_active (fv 0)) (fv 1)))
  (aE (bC (PW.pt (uE (aT lC xT (fQ T.n_len (fv 3)) fI) (pw_and1 (aT (bB hr.units) s_eq (bH (fv 3) (oP fI)) (eQ T.c_Execution T.a_Execution_taken (fv 0)))))) (aH (sS (xa_NoRun T) hr tk (aA (oP fI) aG))) aQ)
  (aE (cV (iD (bH (eQ T.c_Execution T.a_Execution_active (fv 0)) (fv 1)) (eQ T.c_Execution T.a_Execution_taken (fv 0))))
  (aE (cV (iD (eQ T.c_Execution T.a_Execution_stack (fv 0)) (bM (aA fS (aA (fv 1) (aA (fv 2) aG))))))
  (aH (cV (iD (eQ T.c_Execution T.a_Execution_stack (fv 0)) (bM (aA fS (aA (bH (eQ T.c_Execution T.a_Execution_own (fv 0)) (fv 1)) (aA fI aG)))))))))))
theorem qE (T : Txt w K mg) : OkMX P w K mg base 1 "Execution" "leave" ["self", "procedure", "statement", "way"] (spF K gF) :=
 xM (k := 0) T.f_Execution_leave T.M_Execution_leave xQ (Runs.plain (n := 4) (np := 4)) (fun _ _ _ _ _ _ us hl => match us, hl with | [_, _, _, _], _ => rfl) fun _ _ _ _ _ _ hr tk nd => by
  unfold jG;exact (aE (cV (DC (bH (eQ T.c_Execution T.a_Execution_active (fv 0)) (fv 1))))
  (aE (bC (aT Fc N7 (fv 2) fN) (aE (pQ T.c_Execution T.a_Execution_ended (fv 0) (fv 3))
  (aH RY)) aQ)
  (aE (bC (eU (bH (fv 2) fI)) (aH (cV (iD (eQ T.c_Execution T.a_Execution_deeds (fv 0)) (bM (aA fS aG))))) aQ)
  (aH (cV (iD (eQ T.c_Execution T.a_Execution_stack (fv 0)) (bM (aA fS (aA (bH (bH (fv 2) fI) (fv 3)) (aA fI aG))))))))))
theorem xG (T : Txt w K mg) : OkMX P w K mg base 2 "Execution" "unwind" ["self", "way"] (spF K iI) :=
 xM (k := 1) T.f_Execution_unwind T.M_Execution_unwind xF (Runs.plain (n := 3) (np := 2)) (fun _ _ _ _ _ _ us hl => match us, hl with | [_, _], _ => rfl) fun _ _ _ _ _ _ hr tk nd => by
  unfold iQ dX;exact (aE (aZ (i := 2) nd rfl (.inl rfl) (DC (eQ T.c_Execution T.a_Execution_stack (fv 0))))
  (aE (Hg (k := 1000000) (passes_of rfl) (aT (tN hr.units) FX (bH (fv 2) fI) fS) (aE (bC (aT (bB hr.units) s_eq (bH (fv 2) fI) fS) (aH (cV (iD (eQ T.c_Execution T.a_Execution_deeds (fv 0)) (fv 2)))) aQ)
  (aH (aZ (i := 2) nd rfl (.inl rfl) (DC (eQ T.c_Execution T.a_Execution_stack (fv 0)))))))
  (aH (cV (B6 (qE T) hr tk T.c_Execution (fv 0) (aA (bH (fv 2) fI) (aA (bH (fv 2) fI) (aA (fv 1) aG))))))))
theorem xY (T : Txt w K mg) : OkMX P w K mg base 4 "Execution" "begin" ["self", "statement"] (spF K jE) :=
 xM (k := 3) T.f_Execution_begin T.M_Execution_begin xS (Runs.plain (n := 3) (np := 2)) (fun _ _ _ _ _ _ us hl => match us, hl with | [_, _], _ => rfl) fun _ _ _ _ _ _ hr tk nd => by
  unfold jH;exact (aE (aZ (i := 2) nd rfl (.inl rfl) (bH (fv 1) fI))
  (aH (bC (eU (aY (xK T) hr tk (aA (fv 1) aG))) (aH (cV (iD (eQ T.c_Execution T.a_Execution_deeds (fv 0)) (fv 1)))) (aH (bC (aT (bB hr.units) s_eq (fv 2) fS) (aE (cV (iD (eQ T.c_Execution T.a_Execution_deeds (fv 0)) (bM (aA fS aG))))
  (aE (cV (iD (eQ T.c_Execution T.a_Execution_stack (fv 0)) (bM (aA fS aG))))
  (aH (cV (iD (eQ T.c_Execution T.a_Execution_stack (fv 0)) (bM (aA fS (aA (bH (fv 1) fI) (aA fI aG))))))))) (aH (bC (aT (bB hr.units) s_eq (fv 2) fS) (aH (cV (iD (eQ T.c_Execution T.a_Execution_stack (fv 0)) (bM (aA fS (aA (bH (fv 1) (cP bU dE fI (A8 (qY T) hr tk T.c_Execution (fv 0)))) (aA fI aG))))))) (aH (bC (aT (bB hr.units) s_eq (fv 2) fS) (aH (cV (iD (eQ T.c_Execution T.a_Execution_stack (fv 0)) (bM (aA fS (aA (bH (fv 1) fI) aG)))))) (aH (bC (aT (bB hr.units) s_eq (fv 2) fS) (aE (bC (eU (bH (fv 1) fI)) (aH (cV (iD (eQ T.c_Execution T.a_Execution_deeds (fv 0)) (bM (aA fS aG))))) aQ)
  (aH (cV (B6 (qF T) hr tk T.c_Execution (fv 0) (aA (bH (fv 1) fI) (aA (fv 1) aG)))))) (aH (cV (B6 (xG T) hr tk T.c_Execution (fv 0) (aA (bH (fv 1) fI) aG)))))))))))))))
theorem zM (T : Txt w K mg) : OkMX P w K mg base 5 "Execution" "step" ["self"] (spF K jV) :=
 xM (k := 4) T.f_Execution_step T.M_Execution_step zD (Runs.plain (n := 2) (np := 1)) (fun _ _ _ _ _ _ us hl => match us, hl with | [_], _ => rfl) fun _ _ _ _ _ _ hr tk nd => by
  unfold kD;exact (aE (aZ (i := 1) nd rfl (.inl rfl) (DC (eQ T.c_Execution T.a_Execution_stack (fv 0))))
  (aH (bC (aT (bB hr.units) s_eq (bH (fv 1) fI) fS) (aH (bC (aT nK Aj (bH (fv 1) fI) (fQ T.n_len (bH (fv 1) fI))) (aE (cV (iD (eQ T.c_Execution T.a_Execution_stack (fv 0)) (bM (aA fS (aA (bH (fv 1) fI) (aA (cP bU dE (bH (fv 1) fI) fI) aG))))))
  (aH (cV (B6 (xY T) hr tk T.c_Execution (fv 0) (aA (bH (bH (fv 1) fI) (bH (fv 1) fI)) aG))))) aQ)) (aH (bC (aT (bB hr.units) s_eq (bH (fv 1) fI) fS) (aH (cV (iD (eQ T.c_Execution T.a_Execution_deeds (fv 0)) (fv 1)))) (aH (bC (aT (bB hr.units) s_eq (bH (fv 1) fI) fS) (aH (bC (aT (bB hr.units) s_eq (A8 (qY T) hr tk T.c_Execution (fv 0)) fI) (aE (cV (iD (eQ T.c_Execution T.a_Execution_stack (fv 0)) (fv 1)))
  (aH (cV (iD (eQ T.c_Execution T.a_Execution_stack (fv 0)) (bM (aA fS (aA (bH (fv 1) fI) (aA fI aG)))))))) aQ)) (aH (cV (B6 (qE T) hr tk T.c_Execution (fv 0) (aA (bH (fv 1) fI) (aA (bH (fv 1) fI) (aA fI aG)))))))))))))
theorem uT (T : Txt w K mg) : tA P w K mg base 24 "executed_run" ["book", "procedure", "bits"] (spF K cK) :=
 jU (k := 23) T.f_executed_run T.G_executed_run BZ (Runs.cut (n := 6) (np := 3)) (fun _ _ _ _ _ _ us hl => match us, hl with | [_, _, _], _ => rfl) fun _ _ _ _ _ _ hr tk nd => by
  unfold mY eR gY;exact (aE (bC (gM (eU (aY (Ao T) hr tk (aA (fv 0) (aA (fv 1) aG))))) (aH (DA T.x_NoProcedure tk)) aQ)
  (aE (bC (gM (eU (iC (T := "list") T.n_isinstance T.n_list (fv 2)))) (aH (sS (xa_NoRun T) hr tk (aA (oP fI) aG))) aQ)
  (aE (oY (t := (.tp [3, 4])) (passes_of rfl) rfl (Bx (by rfl) T.n_enumerate (fv 2)) (pg_tup rfl (pgs_cons (pg_name (i := 3) nd rfl (.inl rfl)) (pgs_cons (pg_name (i := 4) nd rfl (.inl rfl)) pgs_nil))) (iW [3, 4] (aH (bC (gM (eU (aY (EN T) hr tk (aA (fv 4) aG)))) (aH (sS (xa_NoRun T) hr tk (aA (fv 3) aG))) aQ))))
  (aE (aZ (i := 5) nd rfl (.inl rfl) (Oq T.T_Execution (zN T) hr tk (aA (A8 (vS T) hr tk T.c_Book (fv 0)) (aA (fv 2) aG))))
  (aE (cV (B6 (qF T) hr tk T.c_Execution (fv 5) (aA (fv 1) (aA fN aG))))
  (aE (Hg (k := 1000000) (passes_of rfl) (aT lC xT (fQ T.n_len (eQ T.c_Execution T.a_Execution_stack (fv 5))) fI) (aH (cV (A8 (zM T) hr tk T.c_Execution (fv 5)))))
  (aE (bC (aT nK Aj (eQ T.c_Execution T.a_Execution_taken (fv 5)) (fQ T.n_len (fv 2))) (aH (sS (xa_NoRun T) hr tk (aA (eQ T.c_Execution T.a_Execution_taken (fv 5)) aG))) aQ)
  (aH (aU (bM (aA (eQ T.c_Execution T.a_Execution_ended (fv 5)) (aA (sU (eQ T.c_Execution T.a_Execution_deeds (fv 5))) aG))))))))))))
theorem vP (T : Txt w K mg) : tA P w K mg base 2 "pens_behind" ["deeds", "pen"] (spF K jA) :=
 jU (k := 1) T.f_pens_behind T.G_pens_behind CJ (Runs.cut (n := 5) (np := 2)) (fun _ _ _ _ _ _ us hl => match us, hl with | [_, _], _ => rfl) fun _ _ _ _ _ _ hr tk nd => by
  unfold oC fC;exact (aE (aZ (i := 2) nd rfl (.inl rfl) (cJ aG))
  (aE (aZ (i := 3) nd rfl (.inl rfl) (cJ aG))
  (aE (oY (t := (.nm 4)) (passes_of rfl) rfl (kM (fv 0)) (pg_name (i := 4) nd rfl (.inl rfl)) (iW [4] (aH (bC (aT (bB hr.units) s_eq (bH (fv 4) fI) fS) (aH (cV (iD (fv 3) (xI (fv 1) gW (gV fI))))) (aH (bC (aT (bB hr.units) s_eq (bH (fv 4) fI) fS) (aH (aZ (i := 1) nd rfl (.inl rfl) (cP bU dE (DC (fv 3)) (xI (fv 1) (gV fI) gW)))) (aE (aZ (i := 1) nd rfl (.inl rfl) (aY (Gv T) hr tk (aA (fv 1) (aA (fv 4) aG))))
  (aH (cV (iD (fv 2) (fv 1)))))))))))
  (aH (aU (bM (aA (sU (fv 2)) (aA (fv 1) aG))))))))
theorem LX (T : Txt w K mg) : tA P w K mg base 1 "_law_pool" ["_law_script"] (spF K zQ) :=
 jU (k := 0) T.f_L_pool T.G_L_pool LD (Runs.plain (n := 2) (np := 1)) (fun _ _ _ _ _ _ us hl => match us, hl with | [_], _ => rfl) fun _ _ _ _ _ _ hr tk nd => by
  unfold AM;exact (aH (aU (cP bU dE (cJ (aA fI aG)) (VF (yG (own := [("_law_cell", 1)]) (t := (.nm 1)) rfl nd (kM (xI (fv 0) gW (gV fI))) (blkOk_by (own := [("_law_cell", 1)]) (N := ["_law_script", "_law_cell"]) (sc := defScope zH) (by decide +kernel)) (fun _ _ _ _ _ => (pg_name (i := 1) nd rfl (.inl rfl))) (fun _ _ _ _ _ => iN) (fun _ _ _ _ _ => (oZ T.n_int (fv 1)))) (pe_one (cJ (aA fI aG)))))))
theorem cL (T : Txt w K mg) : tA P w K mg base 1 "_law_draw" ["_law_pool_here", "_law_many"] (spF K cG) :=
 jU (k := 0) T.f_L_draw T.G_L_draw LK (Runs.plain (n := 5) (np := 2)) (fun _ _ _ _ _ _ us hl => match us, hl with | [_, _], _ => rfl) fun _ _ _ _ _ _ hr tk nd => by
  unfold AR;exact (aE (DB (fv 0) fI fI)
  (aE (aZ (i := 2) nd rfl (.inl rfl) (cP bU dE fI (cP mF vK (oZ T.n_int (bH (fv 0) fI)) (cP fV nG (fQ T.n_len (fv 0)) fI))))
  (aE (aZ (i := 3) nd rfl (.inl rfl) (oZ T.n_int (bH (fv 0) (fv 2))))
  (aE (bC (aT NO s_ge (fv 3) (cP Ju SX fI fI)) (aE (RX (cP vO CP (fv 3) (fv 1)) (fv 0) (fv 2))
  (aH (aU (cP mF vK (fv 3) (fv 1))))) aQ)
  (aE (aZ (i := 4) nd rfl (.inl rfl) (cP mF vK (cP iG qB (oZ T.n_int (cP bU dE (cP bU dE (fv 3) (cP iG qB fI (bH (fv 0) fI))) fI)) fI) fI))
  (aE (aZ (i := 4) nd rfl (.inl rfl) (cP mF vK (cP iG qB (fv 4) (cP bU dE (cP vO CP (fv 4) fI) fI)) fI))
  (aE (aZ (i := 4) nd rfl (.inl rfl) (cP mF vK (cP iG qB (fv 4) (cP bU dE (cP vO CP (fv 4) fI) fI)) fI))
  (aH (aU (cP mF vK (cP vO CP (fv 4) fI) (fv 1)))))))))))
theorem tO (T : Txt w K mg) : tA P w K mg base 2 "_law_command" ["_law_pool_here", "_law_mood"] (spF K jM) :=
 jU (k := 1) T.f_L_command T.G_L_command FV (Runs.plain (n := 6) (np := 2)) (fun _ _ _ _ _ _ us hl => match us, hl with | [_, _], _ => rfl) fun _ _ _ _ _ _ hr tk nd => by
  unfold rO;exact (aE (aZ (i := 2) nd rfl (.inl rfl) (cJ (aA (cJ (aA fI (aA fI (aA fI (aA fI (aA fI aG)))))) (aA (cJ (aA fI (aA fI (aA fI (aA fI (aA fI aG)))))) (aA (cJ (aA fI (aA fI (aA fI (aA fI (aA fI aG)))))) (aA (cJ (aA fI (aA fI (aA fI (aA fI (aA fI aG)))))) (aA (cJ (aA fI (aA fI (aA fI (aA fI (aA fI aG)))))) aG)))))))
  (aE (aZ (i := 2) nd rfl (.inl rfl) (cP bU dE (fv 2) (cJ (aA (cJ (aA fI (aA fI (aA fI (aA fI (aA fI (aA fI (aA fI (aA fI (aA fI aG)))))))))) (aA (cJ (aA fI (aA fI (aA fI (aA fI (aA fI aG)))))) (aA (cJ (aA fI (aA fI (aA fI (aA fI (aA fI aG)))))) aG))))))
  (aE (aZ (i := 3) nd rfl (.inl rfl) (bH (fv 2) (fv 1)))
  (aE (aZ (i := 4) nd rfl (.inl rfl) (bH (fv 3) (aY (cL T) hr tk (aA (fv 0) (aA (fQ T.n_len (fv 3)) aG)))))
  (aE (bC (aT (bB hr.units) s_eq (fv 4) fI) (aE (aZ (i := 5) nd rfl (.inl rfl) (cP fV nG (aY (cL T) hr tk (aA (fv 0) (aA fI aG))) fI))
  (aH (aU (bM (aA fS (aA (bH (cJ (aA (fv 5) (aA fI (aA (cP fV nG (cP mF vK (oZ T.n_int (fv 5)) fI) fI) (aA fI aG))))) (aY (cL T) hr tk (aA (fv 0) (aA fI aG)))) aG)))))) aQ)
  (aE (bC (aT (bB hr.units) s_eq (fv 4) fI) (aH (aU (bM (aA fS (aA (cP bU dE fI (aY (cL T) hr tk (aA (fv 0) (aA fI aG)))) aG))))) aQ)
  (aE (bC (aT (bB hr.units) s_eq (fv 4) fI) (aH (aU (bM (aA fS aG)))) aQ)
  (aE (bC (aT (bB hr.units) s_eq (fv 4) fI) (aH (aU (bM (aA fS (aA (bH (bM (aA (oP fI) (aA (oP fI) (aA (oP fI) (aA fI (aA fI (aA fI (aA fI (aA (oP fI) aG))))))))) (aY (cL T) hr tk (aA (fv 0) (aA fI aG)))) aG))))) aQ)
  (aE (bC (aT nK Aj (fv 4) fI) (aH (aU (bM (aA (bH (bM (aA fS (aA fS aG))) (cP fV nG (fv 4) fI)) (aA (cP fV nG (aY (cL T) hr tk (aA (fv 0) (aA fI aG))) fI) (aA (cP fV nG (aY (cL T) hr tk (aA (fv 0) (aA fI aG))) fI) aG)))))) aQ)
  (aH (aU (bM (aA (bH (bM (aA fS (aA fS (aA fS aG)))) (cP fV nG (fv 4) fI)) aG)))))))))))))
theorem ER (T : Txt w K mg) : tA P w K mg base 2 "_law_pair" ["_law_pool_here", "_law_mood"] (spF K sQ) :=
 jU (k := 1) T.f_L_pair T.G_L_pair LH (Runs.plain (n := 5) (np := 2)) (fun _ _ _ _ _ _ us hl => match us, hl with | [_, _], _ => rfl) fun _ _ _ _ _ _ hr tk nd => by
  unfold AO;exact (aE (aZ (i := 2) nd rfl (.inl rfl) (cP bU dE fI (aY (cL T) hr tk (aA (fv 0) (aA fI aG)))))
  (aE (aZ (i := 3) nd rfl (.inl rfl) (aY (cL T) hr tk (aA (fv 0) (aA fI aG))))
  (aE (bC (aT (bB hr.units) s_eq (fv 1) fI) (aH (aZ (i := 3) nd rfl (.inl rfl) (cP bU dE fI (cP mF vK (fv 3) fI)))) aQ)
  (aE (bC (aT (bB hr.units) s_eq (fv 1) fI) (aH (aZ (i := 3) nd rfl (.inl rfl) fI)) aQ)
  (aE (aZ (i := 4) nd rfl (.inl rfl) (cJ (aA (cJ (aA (bM (aA fS (aA (fv 2) aG))) (aA (bM (aA fS (aA (oP (fv 2)) aG))) aG))) (aA (cJ (aA (bM (aA fS (aA (fv 2) aG))) (aA (bM (aA fS (aA (cP fV nG fI (fv 2)) aG))) aG))) (aA (cJ (aA (bM (aA fS aG)) (aA (bM (aA fS aG)) aG))) aG)))))
  (aH (aU (bH (cP bU dE (fv 4) (cJ (aA (cJ (aA (bM (aA fS aG)) (aA (bM (aA fS aG)) aG))) aG))) (fv 3)))))))))
theorem BK (T : Txt w K mg) : ∀ n, (tA P w K mg base (2 + n + 1) "_law_block" ["_law_pool_here", "_law_mood", "_law_level", "_law_room", "_law_calls", "_law_low"] (spF K (wW n))) /\ (tA P w K mg base (2 + n + 1) "_law_piece" ["_law_pool_here", "_law_mood", "_law_level", "_law_room", "_law_calls", "_law_low"] (spF K (lO n)))
 | 0 => ⟨tP T.f_L_block T.G_L_block CL (fun _ _ _ _ _ _ us hl => match us, hl with | [_, _, _, _, _, _], _ => rfl), tP T.f_L_piece T.G_L_piece CK (fun _ _ _ _ _ _ us hl => match us, hl with | [_, _, _, _, _, _], _ => rfl)⟩
 | n + 1 => by
  have ih := BK T n;have ih_L_block := ih.1;have ih_L_piece := ih.2;refine ⟨?_, ?_⟩
  ·exact jU (k := 2 + n + 1) T.f_L_block T.G_L_block CL (Runs.plain (n := 8) (np := 6)) (fun _ _ _ _ _ _ us hl => match us, hl with | [_, _, _, _, _, _], _ => rfl) fun _ _ _ _ _ _ hr tk nd => by
    unfold xD lK;exact (aE (aZ (i := 6) nd rfl (.inl rfl) (cJ aG))
  (aE (oY (t := (.nm 7)) (passes_of rfl) rfl (pR (by rfl) T.n_range (aY (cL T) hr tk (aA (fv 0) (aA fI aG)) (by omega))) (pg_name (i := 7) nd rfl (.inl rfl)) (iW [7] (aH (bC (aT lC xT (bH (fv 3) fI) fI) (aH (aZ (i := 6) nd rfl (.inl rfl) (cP bU dE (fv 6) (aY ih_L_piece hr tk (aA (fv 0) (aA (fv 1) (aA (fv 2) (aA (fv 3) (aA (fv 4) (aA (fv 5) aG)))))) (by omega))))) aQ))))
  (aH (aU (fv 6)))))
  ·exact jU (k := 2 + n + 1) T.f_L_piece T.G_L_piece CK (Runs.plain (n := 12) (np := 6)) (fun _ _ _ _ _ _ us hl => match us, hl with | [_, _, _, _, _, _], _ => rfl) fun _ _ _ _ _ _ hr tk nd => by
    unfold xC;exact (aE (aZ (i := 6) nd rfl (.inl rfl) (aY (cL T) hr tk (aA (fv 0) (aA fI aG)) (by omega)))
  (aE (bC (PW.pt (uE (aT lC xT (fv 6) fI) (uE (aT nK Aj (fv 6) fI) (pw_and1 (aT lC xT (fv 2) fI))))) (aH (aZ (i := 6) nd rfl (.inl rfl) (cP mF vK (fv 6) fI))) aQ)
  (aE (bC (PW.pt (uE (aT (bB hr.units) s_eq (fv 6) fI) (pw_and1 (aT nK Aj (bH (fv 3) fI) fI)))) (aH (aZ (i := 6) nd rfl (.inl rfl) fI)) aQ)
  (aE (bC (PW.pt (uE (aT lC xT (fv 6) fI) (uE (aT nK Aj (fv 6) fI) (pw_and1 (PW.pt (mU (aT nK Aj (bH (fv 4) fI) fI) (pw_or1 (aT NO s_ge (fv 5) (bH (fv 4) fI))))))))) (aH (aZ (i := 6) nd rfl (.inl rfl) fI)) aQ)
  (aE (qK (fv 3) fI fI)
  (aE (bC (aT nK Aj (fv 6) fI) (aH (aU (cJ (aA (aY (tO T) hr tk (aA (fv 0) (aA (fv 1) aG)) (by omega)) aG)))) aQ)
  (aE (bC (aT (bB hr.units) s_eq (fv 6) fI) (aE (qK (fv 3) fI fI)
  (aE (aZ (i := 7) nd rfl (.inl rfl) (aY (ER T) hr tk (aA (fv 0) (aA (fv 1) aG)) (by omega)))
  (aE (aZ (i := 8) nd rfl (.inl rfl) (cJ aG))
  (aE (bC (aT lC xT (bH (fv 3) fI) fI) (aH (aZ (i := 8) nd rfl (.inl rfl) (aY ih_L_piece hr tk (aA (fv 0) (aA (fv 1) (aA (fv 2) (aA (fv 3) (aA (fv 4) (aA (fv 5) aG)))))) (by omega)))) aQ)
  (aH (aU (cP bU dE (cP bU dE (xI (fv 7) gW (gV fI)) (fv 8)) (xI (fv 7) (gV fI) gW)))))))) aQ)
  (aE (bC (aT nK Aj (fv 6) fI) (aE (aZ (i := 9) nd rfl (.inl rfl) (aY ih_L_block hr tk (aA (fv 0) (aA (fv 1) (aA (cP bU dE (fv 2) fI) (aA (fv 3) (aA (fv 4) (aA fI aG)))))) (by omega)))
  (aH (aU (cJ (aA (bM (aA fS (aA (fv 9) (aA (aY ih_L_block hr tk (aA (fv 0) (aA (fv 1) (aA (cP bU dE (fv 2) fI) (aA (fv 3) (aA (fv 4) (aA (fv 5) aG)))))) (by omega)) aG)))) aG))))) aQ)
  (aE (bC (aT (bB hr.units) s_eq (fv 6) fI) (aH (aU (cJ (aA (bM (aA fS (aA (aY ih_L_block hr tk (aA (fv 0) (aA (fv 1) (aA (cP bU dE (fv 2) fI) (aA (fv 3) (aA (fv 4) (aA fI aG)))))) (by omega)) aG))) aG)))) aQ)
  (aE (bC (aT (bB hr.units) s_eq (fv 6) fI) (aH (aU (cJ (aA (bM (aA fS (aA (aY ih_L_block hr tk (aA (fv 0) (aA (fv 1) (aA (cP bU dE (fv 2) fI) (aA (fv 3) (aA (fv 4) (aA (fv 5) aG)))))) (by omega)) aG))) aG)))) aQ)
  (aE (bC (aT lC xT (fv 6) fI) (aH (aU (cJ (aA (bM (aA fS (aA (aY (cL T) hr tk (aA (fv 0) (aA fI aG)) (by omega)) aG))) aG)))) aQ)
  (aE (qK (fv 4) fI fI)
  (aE (aZ (i := 10) nd rfl (.inl rfl) (cP bU dE (fv 5) (aY (cL T) hr tk (aA (fv 0) (aA (cP fV nG (bH (fv 4) fI) (fv 5)) aG)) (by omega))))
  (aE (aZ (i := 11) nd rfl (.inl rfl) (rF (bB hr.units) s_eq (aY (cL T) hr tk (aA (fv 0) (aA fI aG)) (by omega)) fI))
  (aE (aZ (i := 9) nd rfl (.inl rfl) (aY ih_L_block hr tk (aA (fv 0) (aA (fv 1) (aA (cP bU dE (fv 2) fI) (aA (fv 3) (aA (fv 4) (aA (fv 5) aG)))))) (by omega)))
  (aH (aU (cJ (aA (bM (aA fS (aA (fv 10) (aA (fv 11) (aA (cJ (aA (fv 9) (aA (aY ih_L_block hr tk (aA (fv 0) (aA (fv 1) (aA (cP bU dE (fv 2) fI) (aA (fv 3) (aA (fv 4) (aA (fv 5) aG)))))) (by omega)) aG))) aG))))) aG)))))))))))))))))))
theorem Ie (T : Txt w K mg) (n : Nat) : tA P w K mg base (2 + n + 1) "_law_piece" ["_law_pool_here", "_law_mood", "_law_level", "_law_room", "_law_calls", "_law_low"] (spF K (lO n)) := (BK T n).2
theorem H7 (T : Txt w K mg) : tA P w K mg base 3 "_law_around" ["_law_pool_here", "_law_mood", "_law_room", "_law_calls"] (spF K tV) :=
 jU (k := 2) T.f_L_around T.G_L_around Gh (Runs.plain (n := 9) (np := 4)) (fun _ _ _ _ _ _ us hl => match us, hl with | [_, _, _, _], _ => rfl) fun _ _ _ _ _ _ hr tk nd => by
  unfold uN;exact (aE (qK (fv 2) fI fI)
  (aE (qK (fv 3) fI fI)
  (aE (aZ (i := 4) nd rfl (.inl rfl) (aY (cL T) hr tk (aA (fv 0) (aA (bH (fv 3) fI) aG))))
  (aE (aZ (i := 5) nd rfl (.inl rfl) (rF (bB hr.units) s_eq (aY (cL T) hr tk (aA (fv 0) (aA fI aG))) fI))
  (aE (aZ (i := 6) nd rfl (.inl rfl) (aY (cL T) hr tk (aA (fv 0) (aA fI aG))))
  (aE (aZ (i := 7) nd rfl (.inl rfl) (cJ (aA (aY (tO T) hr tk (aA (fv 0) (aA (fv 1) aG))) (aA (aY (tO T) hr tk (aA (fv 0) (aA (fv 1) aG))) aG))))
  (aE (bC (aT (bB hr.units) s_eq (aY (cL T) hr tk (aA (fv 0) (aA fI aG))) fI) (aH (aZ (i := 7) nd rfl (.inl rfl) (aY (ER T) hr tk (aA (fv 0) (aA (fv 1) aG))))) aQ)
  (aE (aZ (i := 8) nd rfl (.inl rfl) (cJ (aA (cJ aG) (aA (cJ (aA (bH (fv 7) fI) (aA (bM (aA fS (aA (fv 4) (aA (fv 5) (aA (cJ (aA (cJ aG) (aA (cJ aG) aG))) aG))))) (aA (bH (fv 7) fI) aG)))) aG))))
  (aH (aU (cJ (aA (bM (aA fS (aA (bH (fv 8) (fv 6)) (aA (bH (fv 8) (cP fV nG fI (fv 6))) aG)))) aG))))))))))))
theorem Lc (T : Txt w K mg) : tA P w K mg base 34 "_law_body" ["_law_pool_here", "_law_mood", "_law_room", "_law_calls", "_law_low"] (spF K vU) :=
 jU (k := 33) T.f_L_body T.G_L_body LM (Runs.plain (n := 9) (np := 5)) (fun _ _ _ _ _ _ us hl => match us, hl with | [_, _, _, _, _], _ => rfl) fun _ _ _ _ _ _ hr tk nd => by
  unfold AV lB;exact (aE (aZ (i := 5) nd rfl (.inl rfl) (aY (cL T) hr tk (aA (fv 0) (aA fI aG))))
  (aE (aZ (i := 6) nd rfl (.inl rfl) (cJ aG))
  (aE (bC (PW.pt (uE (aT (bB hr.units) s_eq (aY (cL T) hr tk (aA (fv 0) (aA fI aG))) fI) (uE (aT lC xT (bH (fv 2) fI) fI) (pw_and1 (aT lC xT (bH (fv 3) fI) fI))))) (aH (aZ (i := 6) nd rfl (.inl rfl) (aY (H7 T) hr tk (aA (fv 0) (aA (fv 1) (aA (fv 2) (aA (fv 3) aG))))))) aQ)
  (aE (oY (t := (.nm 7)) (passes_of rfl) rfl (pR (by rfl) T.n_range (cP bU dE fI (aY (cL T) hr tk (aA (fv 0) (aA fI aG))))) (pg_name (i := 7) nd rfl (.inl rfl)) (iW [7] (aH (bC (aT lC xT (bH (fv 2) fI) fI) (aH (aZ (i := 6) nd rfl (.inl rfl) (cP bU dE (fv 6) (aY (Ie T 30) hr tk (aA (fv 0) (aA (fv 1) (aA fI (aA (fv 2) (aA (fv 3) (aA (fv 4) aG)))))))))) aQ))))
  (aE (aZ (i := 8) nd rfl (.inl rfl) (cJ (aA (cJ (aA (bM (aA fS (aA (cJ (aA (bM (aA fS (aA fI aG))) aG)) (aA (cJ aG) aG)))) aG)) (aA (cJ (aA (bM (aA fS (aA fI aG))) aG)) aG))))
  (aE (bC (PW.pt (mU (aT (bB hr.units) s_eq (fv 5) fI) (pw_or1 (aT (bB hr.units) s_eq (fv 5) fI)))) (aH (aU (cP bU dE (fv 6) (bH (fv 8) (cP vO CP (fv 5) fI))))) aQ)
  (aE (bC (aT (bB hr.units) s_eq (fv 5) fI) (aH (aU (cP bU dE (bH (fv 8) fI) (fv 6)))) aQ)
  (aH (aU (fv 6))))))))))
theorem LZ (T : Txt w K mg) : tA P w K mg base 35 "_law_book" ["_law_pool_here", "_law_most", "_law_size"] (spF K zS) :=
 jU (k := 34) T.f_L_book T.G_L_book LL (Runs.cut (n := 11) (np := 3)) (fun _ _ _ _ _ _ us hl => match us, hl with | [_, _, _], _ => rfl) fun _ _ _ _ _ _ hr tk nd => by
  unfold AU nH;exact (aE (aZ (i := 3) nd rfl (.inl rfl) (aY (cL T) hr tk (aA (fv 0) (aA fI aG))))
  (aE (aZ (i := 4) nd rfl (.inl rfl) (rF (bB hr.units) s_eq (aY (cL T) hr tk (aA (fv 0) (aA fI aG))) fI))
  (aE (aZ (i := 5) nd rfl (.inl rfl) (cP bU dE fI (aY (cL T) hr tk (aA (fv 0) (aA (fv 1) aG)))))
  (aE (aZ (i := 6) nd rfl (.inl rfl) (cJ (aA fI (aA (fv 5) aG))))
  (aE (aZ (i := 7) nd rfl (.inl rfl) (cJ aG))
  (aE (oY (t := (.nm 8)) (passes_of rfl) rfl (pR (by rfl) T.n_range (fv 5)) (pg_name (i := 8) nd rfl (.inl rfl)) (iW [8, 9, 10] (aE (aZ (i := 9) nd rfl (.inl rfl) (cJ (aA (cP fV nG (cP fV nG (fv 2) fI) (oZ T.n_int (rF lC xT (fv 5) fI))) aG)))
  (aE (aZ (i := 10) nd rfl (.inl rfl) (cP bU dE (fv 8) fI))
  (aE (bC (eU (fv 4)) (aH (aZ (i := 10) nd rfl (.inl rfl) fI)) aQ)
  (aH (cV (iD (fv 7) (aY (Lc T) hr tk (aA (fv 0) (aA (fv 3) (aA (fv 9) (aA (fv 6) (aA (fv 10) aG))))))))))))))
  (aH (aU (sU (fv 7))))))))))
theorem Gx (T : Txt w K mg) : tA P w K mg base 2 "_law_number" ["_law_pool_here"] (spF K nM) :=
 jU (k := 1) T.f_L_number T.G_L_number Ge (Runs.plain (n := 4) (np := 1)) (fun _ _ _ _ _ _ us hl => match us, hl with | [_], _ => rfl) fun _ _ _ _ _ _ hr tk nd => by
  unfold uK;exact (aE (aZ (i := 1) nd rfl (.inl rfl) (aY (cL T) hr tk (aA (fv 0) (aA fI aG))))
  (aE (bC (aT (bB hr.units) s_eq (fv 1) fI) (aH (aU (cP fV nG (aY (cL T) hr tk (aA (fv 0) (aA fI aG))) fI))) aQ)
  (aE (DB (fv 0) fI fI)
  (aE (aZ (i := 2) nd rfl (.inl rfl) (cP bU dE fI (cP mF vK (oZ T.n_int (bH (fv 0) fI)) (cP fV nG (fQ T.n_len (fv 0)) fI))))
  (aE (aZ (i := 3) nd rfl (.inl rfl) (cP mF vK (oZ T.n_int (cP bU dE (cP iG qB (bH (fv 0) (fv 2)) fI) (cP iG qB (bH (fv 0) fI) fI))) (cP Ju SX fI fI)))
  (aE (bC (aT (bB hr.units) s_eq (aY (cL T) hr tk (aA (fv 0) (aA fI aG))) fI) (aH (aU (fv 3))) aQ)
  (aH (aU (cP fV nG fI (fv 3))))))))))
theorem NQ (T : Txt w K mg) : tA P w K mg base 3 "_law_pen" ["_law_pool_here"] (spF K Bs) :=
 jU (k := 2) T.f_L_pen T.G_L_pen N3 (Runs.plain (n := 3) (np := 1)) (fun _ _ _ _ _ _ us hl => match us, hl with | [_], _ => rfl) fun _ _ _ _ _ _ hr tk nd => by
  unfold C0;exact (aE (Og (i := 1) (own := [("_law_k", 2)]) (t := (.nm 2)) rfl nd rfl rfl (sw_true rfl rfl rfl (by decide +kernel)) (pR (by rfl) T.n_range fI) (blkOk_by (own := [("_law_k", 2)]) (N := ["_law_pool_here", "_law_begin", "_law_k"]) (sc := defScope Bo) (by decide +kernel)) (fun _ _ _ _ _ => (pg_name (i := 2) nd rfl (.inl rfl))) (fun _ _ _ _ _ => iN) (fun _ _ _ _ _ => (aY (Gx T) hr takes0 (aA (fv 0) aG))))
  (aH (aU (bM (aA (bH (fv 1) fI) (aA (bH (fv 1) fI) (aA (bH (fv 1) fI) (aA (bH (fv 1) fI) (aA (bH (fv 1) fI) (aA (bH (fv 1) fI) aG))))))))))
theorem LY (T : Txt w K mg) : tA P w K mg base 1 "_law_move" ["_law_begin", "_law_command_here"] (spF K zR) :=
 jU (k := 0) T.f_L_move T.G_L_move LI (Runs.plain (n := 11) (np := 2)) (fun _ _ _ _ _ _ us hl => match us, hl with | [_, _], _ => rfl) fun _ _ _ _ _ _ hr tk nd => by
  unfold AQ;exact (aE (uF (t := (.tp [2, 3, 4, 5, 6, 7])) (fv 0) (pg_tup rfl (pgs_cons (pg_name (i := 2) nd rfl (.inl rfl)) (pgs_cons (pg_name (i := 3) nd rfl (.inl rfl)) (pgs_cons (pg_name (i := 4) nd rfl (.inl rfl)) (pgs_cons (pg_name (i := 5) nd rfl (.inl rfl)) (pgs_cons (pg_name (i := 6) nd rfl (.inl rfl)) (pgs_cons (pg_name (i := 7) nd rfl (.inl rfl)) pgs_nil))))))))
  (aE (aZ (i := 8) nd rfl (.inl rfl) (bH (fv 1) fI))
  (aE (aZ (i := 9) nd rfl (.inl rfl) (bH (cP bU dE (fv 1) (bM (aA fI aG))) fI))
  (aE (bC (aT (bB hr.units) s_eq (fv 8) fS) (aH (aU (bM (aA (cP bU dE (fv 2) (cP iG qB (fv 9) (fv 4))) (aA (cP bU dE (fv 3) (cP iG qB (fv 9) (fv 5))) (aA (fv 4) (aA (fv 5) (aA (fv 6) (aA (fv 7) aG))))))))) aQ)
  (aE (bC (aT (bB hr.units) s_eq (fv 8) fS) (aE (aZ (i := 10) nd rfl (.inl rfl) (bH (cJ (aA (bM (aA (oP (fv 5)) (aA (fv 4) aG))) (aA (bM (aA (oP (fv 4)) (aA (oP (fv 5)) aG))) (aA (bM (aA (fv 5) (aA (oP (fv 4)) aG))) aG)))) (cP fV nG (fv 9) fI)))
  (aH (aU (bM (aA (fv 2) (aA (fv 3) (aA (bH (fv 10) fI) (aA (bH (fv 10) fI) (aA (fv 6) (aA (fv 7) aG)))))))))) aQ)
  (aE (bC (aT (bB hr.units) s_eq (fv 8) fS) (aH (aU (bM (aA (fv 2) (aA (fv 3) (aA (fv 4) (aA (oP (fv 5)) (aA (fv 6) (aA (fv 7) aG))))))))) aQ)
  (aE (bC (aT (bB hr.units) s_eq (fv 8) fS) (aH (aU (bM (aA (fv 2) (aA (fv 3) (aA (cP iG qB (fv 4) (fv 9)) (aA (cP iG qB (fv 5) (fv 9)) (aA (fv 6) (aA (fv 7) aG))))))))) aQ)
  (aE (bC (aT (bB hr.units) s_eq (fv 8) fS) (aH (aU (bM (aA (fv 2) (aA (fv 3) (aA (fv 9) (aA (bH (fv 1) fI) (aA (fv 6) (aA (fv 7) aG))))))))) aQ)
  (aE (bC (aT (bB hr.units) s_eq (fv 8) fS) (aH (aU (bM (aA (fv 9) (aA (bH (fv 1) fI) (aA (fv 4) (aA (fv 5) (aA (fv 6) (aA (fv 7) aG))))))))) aQ)
  (aE (bC (aT (bB hr.units) s_eq (fv 8) fS) (aH (aU (bM (aA (fv 2) (aA (fv 3) (aA (fv 4) (aA (fv 5) (aA (fv 2) (aA (fv 3) aG))))))))) aQ)
  (aE (bC (aT (bB hr.units) s_eq (fv 8) fS) (aH (aU (bM (aA (fv 6) (aA (fv 7) (aA (fv 4) (aA (fv 5) (aA (fv 6) (aA (fv 7) aG))))))))) aQ)
  (aH (aU (bM (aA (fv 6) (aA (fv 7) (aA (fv 4) (aA (fv 5) (aA (fv 2) (aA (fv 3) aG))))))))))))))))))))
theorem NR (T : Txt w K mg) : OkG P w K mg base 1 "_law_bit" ["_law_state", "_law_task_here"] (spF K Bt) :=
 okG (k := 0) (N := ["_law_state", "_law_task_here", "_law_bits_here"]) T.f_L_bit T.G_L_bit sc_L_bit (Runs.plain (n := 3) (np := 2)) (fun _ _ _ _ _ _ us hl => match us, hl with | [_, _], _ => rfl) fun cdv A outer s H E hr hgd => by
  have nd : (["_law_state", "_law_task_here", "_law_bits_here"] : List Str).Nodup := sc_L_bit.nd;have tk := takes_of (X := cxOf (L2.CX P w) P w K mg base ["_law_state", "_law_task_here", "_law_bits_here"] "_law_bit" (defScope Bp) (He.ga K "_law_bit") cdv A outer s H E) (E := E) rfl rfl rfl rfl;unfold C1;exact (aE (aZ (i := 2) nd rfl (.inl rfl) (dW hr.units (fv 0) fS))
  (aE (bC (aT (bB hr.units) s_eq (dW hr.units (fv 0) fS) (fQ T.n_len (fv 2))) (aE (bC (aT (bB hr.units) s_eq (dW hr.units (fv 0) fS) fI) (aH (aU fI)) aQ)
  (aE (vZ in_sub Tn hr.units (fv 0) fS fI)
  (aH (cV (iD (fv 2) (oZ T.n_int (mW (rF (bB hr.units) s_eq (bH (fv 1) fI) fS) (pe_one (rF op_in_str s_inT fS (VH T.n_str (st_hu hr) hgd (bH (fv 1) fI))))))))))) aQ)
  (aE (vZ in_add Tt hr.units (fv 0) fS fI)
  (aH (aU (bH (fv 2) (cP fV nG (dW hr.units (fv 0) fS) fI)))))))
theorem LW (T : Txt w K mg) : OkG P w K mg base 2 "_law_task" ["_law_state", "_law_task_here"] (spF K jK) :=
 okG (k := 1) (N := ["_law_state", "_law_task_here", "_law_word", "_law_bit_here", "_law_todo", "_law_at", "_law_waits"]) T.f_L_task T.G_L_task sc_L_task (Runs.plain (n := 7) (np := 2)) (fun _ _ _ _ _ _ us hl => match us, hl with | [_, _], _ => rfl) fun cdv A outer s H E hr hgd => by
  have nd : (["_law_state", "_law_task_here", "_law_word", "_law_bit_here", "_law_todo", "_law_at", "_law_waits"] : List Str).Nodup := sc_L_task.nd;have tk := takes_of (X := cxOf (L2.CX P w) P w K mg base ["_law_state", "_law_task_here", "_law_word", "_law_bit_here", "_law_todo", "_law_at", "_law_waits"] "_law_task" (defScope sM) (He.ga K "_law_task") cdv A outer s H E) (E := E) rfl rfl rfl rfl;unfold gI;exact (aE (aZ (i := 2) nd rfl (.inl rfl) (bH (fv 1) fI))
  (aE (bC (PW.pt (mU (aT (bB hr.units) s_eq (fv 2) fS) (pw_or1 (aT (bB hr.units) s_eq (fv 2) fS)))) (aE (aZ (i := 3) nd rfl (.inl rfl) (A9 (NR T) hr hgd tk (aA (fv 0) (aA (fv 1) aG))))
  (aE (bC (aT (bB hr.units) s_eq (fv 3) fI) (aH (aU fN)) aQ)
  (aE (bC (aT (bB hr.units) s_eq (fv 2) fS) (aH (aU (bH (fv 1) (cP bU dE fI (fv 3))))) aQ)
  (aH (aU (bH (cJ (aA (cJ aG) (aA (cP bU dE (bH (fv 1) fI) (cJ (aA (fv 1) aG))) aG))) (fv 3))))))) aQ)
  (aE (bC (aT (bB hr.units) s_eq (fv 2) fS) (aE (cV (iD (dW hr.units (fv 0) fS) (bM (aA fS aG))))
  (aH (aU (cP bU dE (bH (fv 1) fI) (cJ (aA (bM (aA fS aG)) aG)))))) aQ)
  (aE (bC (aT (bB hr.units) s_eq (fv 2) fS) (aE (bC (aT (op_inD (T5 hr)) s_in (bM (aA (bH (fv 1) fI) (aA (dW hr.units (fv 0) fS) aG))) (dW hr.units (fv 0) fS)) (aH (aU fN)) aQ)
  (aE (cV (iD (dW hr.units (fv 0) fS) (bM (aA (bH (fv 1) fI) (aA (dW hr.units (fv 0) fS) aG)))))
  (aE (vZ J4 N8 hr.units (fv 0) fS (xI (cJ (aA (bM (aA fS aG)) aG)) gW (gV (oZ T.n_int (bH (fv 1) fI)))))
  (aH (aU (cP bU dE (bH (dW hr.units (fv 0) fS) (bH (fv 1) fI)) (cJ (aA (bM (aA fS (aA (fv 1) (aA fI aG)))) aG)))))))) aQ)
  (aE (bC (aT (bB hr.units) s_eq (fv 2) fS) (aE (aZ (i := 4) nd rfl (.inl rfl) (dW hr.units (fv 0) fS))
  (aE (aZ (i := 5) nd rfl (.inl rfl) (Rc (T5 hr) (yG (own := [("_law_waits", 6)]) (t := (.nm 6)) rfl nd (kM (fv 4)) (blkOk_by (own := [("_law_waits", 6)]) (N := ["_law_state", "_law_task_here", "_law_word", "_law_bit_here", "_law_todo", "_law_at", "_law_waits"]) (sc := defScope sM) (by decide +kernel)) (fun _ _ _ _ _ => (pg_name (i := 6) nd rfl (.inl rfl))) (fun _ _ _ _ _ => iN) (fun _ _ _ _ _ => (bH (fv 6) fI))) fS))
  (aE (vZ J4 N8 hr.units (fv 0) fS (yG (own := [("_law_waits", 6)]) (t := (.nm 6)) rfl nd (kM (xI (fv 4) gW (gV (fv 5)))) (blkOk_by (own := [("_law_waits", 6)]) (N := ["_law_state", "_law_task_here", "_law_word", "_law_bit_here", "_law_todo", "_law_at", "_law_waits"]) (sc := defScope sM) (by decide +kernel)) (fun _ _ _ _ _ => (pg_name (i := 6) nd rfl (.inl rfl))) (fun _ _ _ _ _ => (KJ (aT (bB hr.units) s_eq (bH (fv 6) fI) fS))) (fun _ _ _ _ _ => (fv 6))))
  (aE (A7 hr.units (fv 0) fS (xI (fv 4) (gV (cP bU dE (fv 5) fI)) gW))
  (aH (aU (cJ (aA (bM (aA fS (aA (bH (bH (fv 4) (fv 5)) fI) (aA (bH (fv 1) fI) aG)))) aG)))))))) aQ)
  (aE (bC (aT (bB hr.units) s_eq (fv 2) fS) (aE (cV (DC (dW hr.units (fv 0) fS)))
  (aE (A7 hr.units (fv 0) fS (bH (fv 1) fI))
  (aE (vZ J4 N8 hr.units (fv 0) fS (xI (cJ (aA (bM (aA fS aG)) aG)) gW (gV (oZ T.n_int (bH (bH (fv 1) fI) fI)))))
  (aH (aU (bH (bH (bH (fv 1) fI) fI) (bH (fv 1) fI))))))) aQ)
  (aE (cV (iD (dW hr.units (fv 0) fS) (fv 1)))
  (aH (aU (cJ aG))))))))))
theorem Gw (T : Txt w K mg) : OkG P w K mg base 3 "_law_run" ["_law_bodies", "_law_procedure", "_law_bits_here", "_law_extra"] (spF K wV) :=
 okG (k := 2) (N := ["_law_bodies", "_law_procedure", "_law_bits_here", "_law_extra", "_law_state", "_law_turn", "_law_task_here", "_law_block_here"]) T.f_L_run T.G_L_run sc_L_run (Runs.cut (n := 8) (np := 4)) (fun _ _ _ _ _ _ us hl => match us, hl with | [_, _, _, _], _ => rfl) fun cdv A outer s H E hr hgd => by
  have nd : (["_law_bodies", "_law_procedure", "_law_bits_here", "_law_extra", "_law_state", "_law_turn", "_law_task_here", "_law_block_here"] : List Str).Nodup := sc_L_run.nd;have tk := takes_of (X := cxOf (L2.CX P w) P w K mg base ["_law_bodies", "_law_procedure", "_law_bits_here", "_law_extra", "_law_state", "_law_turn", "_law_task_here", "_law_block_here"] "_law_run" (defScope Bm) (He.ga K "_law_run") cdv A outer s H E) (E := E) rfl rfl rfl rfl;unfold Bz eT;exact (aE (aZ (i := 4) nd rfl (.inl rfl) (VL (qL fS (fv 0) (qL fS (yF T.n_list (fv 2)) (qL fS (fv 3) (qL fS fI (qL fS fI (qL fS (cJ aG) (qL fS (cJ aG) Ra)))))))))
  (aE (A7 hr.units (fv 4) fS (cJ (aA (bM (aA fS (aA (fv 1) (aA fB (aA (cJ (aA (cJ aG) (aA (cJ aG) aG))) aG))))) aG)))
  (aE (oY (t := (.nm 5)) (passes_of rfl) rfl (pR (by rfl) T.n_range fI) (pg_name (i := 5) nd rfl (.inl rfl)) (iW [5, 6, 7] (aH (bC (aT lC xT (fQ T.n_len (dW hr.units (fv 4) fS)) fI) (aE (aZ (i := 6) nd rfl (.inl rfl) (bH (dW hr.units (fv 4) fS) fI))
  (aE (A7 hr.units (fv 4) fS (xI (dW hr.units (fv 4) fS) (gV fI) gW))
  (aE (aZ (i := 7) nd rfl (.inl rfl) (A9 (LW T) hr hgd tk (aA (fv 4) (aA (fv 6) aG))))
  (aE (bC (PW.pt (uE (aT Fc N7 (fv 7) fN) (pw_and1 (aT (bB hr.units) s_eq (bH (fv 6) fI) fS)))) (aH (aU (bM (aA fS (aA (oP fI) (aA (sU (dW hr.units (fv 4) fS)) (aA (sU (dW hr.units (fv 4) fS)) aG))))))) aQ)
  (aE (bC (aT Fc N7 (fv 7) fN) (aH (aU (bM (aA fS (aA (fQ T.n_len (dW hr.units (fv 4) fS)) (aA (sU (dW hr.units (fv 4) fS)) (aA (sU (dW hr.units (fv 4) fS)) aG))))))) aQ)
  (aH (A7 hr.units (fv 4) fS (cP bU dE (fv 7) (dW hr.units (fv 4) fS))))))))) aQ))))
  (aE (bC (aT lC xT (fQ T.n_len (dW hr.units (fv 4) fS)) fI) (aH (aU (bM (aA fS (aA fI (aA (cJ aG) (aA (cJ aG) aG))))))) aQ)
  (aE (bC (aT nK Aj (dW hr.units (fv 4) fS) (fQ T.n_len (dW hr.units (fv 4) fS))) (aH (aU (bM (aA fS (aA (dW hr.units (fv 4) fS) (aA (sU (dW hr.units (fv 4) fS)) (aA (sU (dW hr.units (fv 4) fS)) aG))))))) aQ)
  (aH (aU (bM (aA fS (aA (dW hr.units (fv 4) fS) (aA (sU (dW hr.units (fv 4) fS)) (aA (sU (dW hr.units (fv 4) fS)) aG))))))))))))
theorem Ld (T : Txt w K mg) : tA P w K mg base 2 "_law_bits" ["_law_pool_here", "_law_many"] (spF K zT) :=
 jU (k := 1) T.f_L_bits T.G_L_bits LN (Runs.plain (n := 3) (np := 2)) (fun _ _ _ _ _ _ us hl => match us, hl with | [_, _], _ => rfl) fun _ _ _ _ _ _ hr tk nd => by
  unfold AW;exact (aH (aU (yG (own := [("_law_k", 2)]) (t := (.nm 2)) rfl nd (pR (by rfl) T.n_range (aY (cL T) hr tk (aA (fv 0) (aA (cP bU dE (fv 1) fI) aG)))) (blkOk_by (own := [("_law_k", 2)]) (N := ["_law_pool_here", "_law_many", "_law_k"]) (sc := defScope zJ) (by decide +kernel)) (fun _ _ _ _ _ => (pg_name (i := 2) nd rfl (.inl rfl))) (fun _ _ _ _ _ => iN) (fun _ _ _ _ _ => (aY (cL T) hr takes0 (aA (fv 0) (aA fI aG)))))))
theorem EO (T : Txt w K mg) : tA P w K mg base 2 "_law_pens" ["_law_deeds", "_law_begin"] (spF K sP) :=
 jU (k := 1) T.f_L_pens T.G_L_pens LG (Runs.cut (n := 5) (np := 2)) (fun _ _ _ _ _ _ us hl => match us, hl with | [_, _], _ => rfl) fun _ _ _ _ _ _ hr tk nd => by
  unfold AN lA;exact (aE (aZ (i := 2) nd rfl (.inl rfl) (cJ aG))
  (aE (aZ (i := 3) nd rfl (.inl rfl) (cJ aG))
  (aE (oY (t := (.nm 4)) (passes_of rfl) rfl (kM (fv 0)) (pg_name (i := 4) nd rfl (.inl rfl)) (iW [4] (aH (bC (aT (bB hr.units) s_eq (bH (fv 4) fI) fS) (aH (cV (iD (fv 3) (fv 1)))) (aH (bC (aT (bB hr.units) s_eq (bH (fv 4) fI) fS) (aH (aZ (i := 1) nd rfl (.inl rfl) (cP bU dE (xI (DC (fv 3)) gW (gV fI)) (xI (fv 1) (gV fI) gW)))) (aE (aZ (i := 1) nd rfl (.inl rfl) (aY (LY T) hr tk (aA (fv 1) (aA (fv 4) aG))))
  (aH (cV (iD (fv 2) (fv 1)))))))))))
  (aH (aU (cJ (aA (sU (fv 2)) (aA (fv 1) aG))))))))
theorem Gz (T : Txt w K mg) : tA P w K mg base 1 "_law_blocks" ["_law_statement"] (spF K tU) :=
 jU (k := 0) T.f_L_blocks T.G_L_blocks Gg (Runs.plain (n := 2) (np := 1)) (fun _ _ _ _ _ _ us hl => match us, hl with | [_], _ => rfl) fun _ _ _ _ _ _ hr tk nd => by
  unfold uM;exact (aE (bC (aT (bB hr.units) s_eq (bH (fv 0) fI) fS) (aH (aU (yF T.n_list (bH (fv 0) fI)))) aQ)
  (aH (aU (yG (own := [("_law_item", 1)]) (t := (.nm 1)) rfl nd (kM (xI (fv 0) (gV fI) gW)) (blkOk_by (own := [("_law_item", 1)]) (N := ["_law_statement", "_law_item"]) (sc := defScope tM) (by decide +kernel)) (fun _ _ _ _ _ => (pg_name (i := 1) nd rfl (.inl rfl))) (fun _ _ _ _ _ => (KJ (eU (iC (T := "list") T.n_isinstance T.n_list (fv 1))))) (fun _ _ _ _ _ => (fv 1))))))
theorem LV (T : Txt w K mg) : tA P w K mg base 1 "_law_with" ["_law_statement", "_law_blocks_here"] (spF K zP) :=
 jU (k := 0) T.f_L_with T.G_L_with LB (Runs.plain (n := 2) (np := 2)) (fun _ _ _ _ _ _ us hl => match us, hl with | [_, _], _ => rfl) fun _ _ _ _ _ _ hr tk nd => by
  unfold AL;exact (aE (bC (aT (bB hr.units) s_eq (bH (fv 0) fI) fS) (aH (aU (cP bU dE (xI (fv 0) gW (gV fI)) (bM (aA (fv 1) aG))))) aQ)
  (aE (bC (aT (bB hr.units) s_eq (fQ T.n_len (fv 1)) fI) (aH (aU (fv 0))) aQ)
  (aH (aU (cP bU dE (bM (aA (bH (fv 0) fI) aG)) (Rb T.n_tuple (fv 1)))))))
theorem ES (T : Txt w K mg) : ∀ n, tA P w K mg base (1 + n + 1) "_law_copy" ["_law_block_here"] (spF K (sR n))
 | 0 => tP T.f_L_copy T.G_L_copy EC (fun _ _ _ _ _ _ us hl => match us, hl with | [_], _ => rfl)
 | n + 1 => by
  have ih_L_copy := ES T n;exact jU (k := 1 + n + 1) T.f_L_copy T.G_L_copy EC (Runs.plain (n := 3) (np := 1)) (fun _ _ _ _ _ _ us hl => match us, hl with | [_], _ => rfl) fun _ _ _ _ _ _ hr tk nd => by
   unfold AS yI;exact (aH (aU (yG (own := [("_law_row", 1)]) (t := (.nm 1)) rfl nd (kM (fv 0)) (blkOk_by (own := [("_law_row", 1)]) (N := ["_law_block_here", "_law_row", "_law_inner"]) (sc := defScope zI) (by decide +kernel)) (fun _ _ _ _ _ => (pg_name (i := 1) nd rfl (.inl rfl))) (fun _ _ _ _ _ => iN) (fun _ _ _ _ _ => (aY (LV T) hr takes0 (aA (fv 1) (aA (yG (own := [("_law_inner", 2)]) (t := (.nm 2)) rfl nd (kM (aY (Gz T) hr takes0 (aA (fv 1) aG) (by omega))) (blkOk_by (own := [("_law_inner", 2)]) (N := ["_law_block_here", "_law_row", "_law_inner"]) (by kernel_rfl)) (fun _ _ _ _ _ => (pg_name (i := 2) nd rfl (.inl rfl))) (fun _ _ _ _ _ => iN) (fun _ _ _ _ _ => (aY ih_L_copy hr takes0 (aA (fv 2) aG) (by omega)))) aG)) (by omega))))))
theorem Gy (T : Txt w K mg) : tA P w K mg base 13 "_law_copies" ["_law_bodies"] (spF K tT) :=
 jU (k := 12) T.f_L_copies T.G_L_copies Gf (Runs.plain (n := 2) (np := 1)) (fun _ _ _ _ _ _ us hl => match us, hl with | [_], _ => rfl) fun _ _ _ _ _ _ hr tk nd => by
  unfold uL;exact (aH (aU (yG (own := [("_law_body_here", 1)]) (t := (.nm 1)) rfl nd (kM (fv 0)) (blkOk_by (own := [("_law_body_here", 1)]) (N := ["_law_bodies", "_law_body_here"]) (sc := defScope tL) (by decide +kernel)) (fun _ _ _ _ _ => (pg_name (i := 1) nd rfl (.inl rfl))) (fun _ _ _ _ _ => iN) (fun _ _ _ _ _ => (aY (ES T 10) hr takes0 (aA (fv 1) aG))))))
theorem pY (T : Txt w K mg) : ∀ n, tA P w K mg base (0 + n + 1) "_law_same" ["_law_one", "_law_other"] (spF K (dU n))
 | 0 => tP T.f_L_same T.G_L_same EB (fun _ _ _ _ _ _ us hl => match us, hl with | [_, _], _ => rfl)
 | n + 1 => by
  have ih_L_same := pY T n;exact jU (k := 0 + n + 1) T.f_L_same T.G_L_same EB (Runs.plain (n := 3) (np := 2)) (fun _ _ _ _ _ _ us hl => match us, hl with | [_, _], _ => rfl) fun _ _ _ _ _ _ hr tk nd => by
   unfold iX uG;exact (aE (bC (eU (Ot (T := "list") (U := "tuple") T.n_isinstance T.n_list T.n_tuple (fv 0))) (aE (bC (PW.pt (mU (aT (tN hr.units) FX (iC (T := "list") T.n_isinstance T.n_list (fv 0)) (iC (T := "list") T.n_isinstance T.n_list (fv 1))) (pw_or1 (aT (tN hr.units) FX (iC (T := "tuple") T.n_isinstance T.n_tuple (fv 0)) (iC (T := "tuple") T.n_isinstance T.n_tuple (fv 1)))))) (aH (aU fB)) aQ)
  (aH (aU (mW (rF (bB hr.units) s_eq (fQ T.n_len (fv 0)) (fQ T.n_len (fv 1))) (pe_one (Ou T.n_all (yG (own := [("_law_k", 2)]) (t := (.nm 2)) rfl nd (pR (by rfl) T.n_range (fQ T.n_len (fv 0))) (blkOk_by (own := [("_law_k", 2)]) (N := ["_law_one", "_law_other", "_law_k"]) (sc := defScope zG) (by decide +kernel)) (fun _ _ _ _ _ => (pg_name (i := 2) nd rfl (.inl rfl))) (fun _ _ _ _ _ => iN) (fun _ _ _ _ _ => (aY ih_L_same hr takes0 (aA (bH (fv 0) (fv 2)) (aA (bH (fv 1) (fv 2)) aG)) (by omega)))))))))) aQ)
  (aE (bC (PW.pt (mU (eU (Ot (T := "list") (U := "tuple") T.n_isinstance T.n_list T.n_tuple (fv 1))) (pw_or1 (aT (tN hr.units) FX (iC (T := "bool") T.n_isinstance T.n_bool (fv 0)) (iC (T := "bool") T.n_isinstance T.n_bool (fv 1)))))) (aH (aU fB)) aQ)
  (aH (aU (mW (rF (bB hr.units) s_eq (iC (T := "int") T.n_isinstance T.n_int (fv 0)) (iC (T := "int") T.n_isinstance T.n_int (fv 1))) (pe_one (rF (bB hr.units) s_eq (fv 0) (fv 1))))))))
theorem Fe (T : Txt w K mg) : OkG P w K mg base 4 "_law_steered" ["_law_pool_here", "_law_bodies", "_law_procedure", "_law_many", "_law_extra"] (spF K jL) :=
 okG (k := 3) (N := ["_law_pool_here", "_law_bodies", "_law_procedure", "_law_many", "_law_extra", "_law_bits_here", "_law_found"]) T.f_L_steered T.G_L_steered sc_L_steered (Runs.plain (n := 7) (np := 5)) (fun _ _ _ _ _ _ us hl => match us, hl with | [_, _, _, _, _], _ => rfl) fun cdv A outer s H E hr hgd => by
  have nd : (["_law_pool_here", "_law_bodies", "_law_procedure", "_law_many", "_law_extra", "_law_bits_here", "_law_found"] : List Str).Nodup := sc_L_steered.nd;have tk := takes_of (X := cxOf (L2.CX P w) P w K mg base ["_law_pool_here", "_law_bodies", "_law_procedure", "_law_many", "_law_extra", "_law_bits_here", "_law_found"] "_law_steered" (defScope qW) (He.ga K "_law_steered") cdv A outer s H E) (E := E) rfl rfl rfl rfl;unfold rN;exact (aE (aZ (i := 5) nd rfl (.inl rfl) (aY (Ld T) hr tk (aA (fv 0) (aA (fv 3) aG))))
  (aE (aZ (i := 6) nd rfl (.inl rfl) (A9 (Gw T) hr hgd tk (aA (fv 1) (aA (fv 2) (aA (fv 5) (aA (fv 4) aG))))))
  (aE (bC (aT (bB hr.units) s_eq (bH (fv 6) fI) fS) (aE (aZ (i := 5) nd rfl (.inl rfl) (xI (fv 5) gW (gV (bH (fv 6) fI))))
  (aH (aZ (i := 6) nd rfl (.inl rfl) (A9 (Gw T) hr hgd tk (aA (fv 1) (aA (fv 2) (aA (fv 5) (aA (fv 4) aG)))))))) aQ)
  (aH (aU (fv 6))))))
theorem Ia (T : Txt w K mg) : SL P w K mg base 25 "trace" ["book", "procedure", "bits", "pen"] 3 "pen" (L3 K sN) :=
 okGT (k := 24) (N := ["book", "procedure", "bits", "pen", "way", "deeds", "pens", "last"]) T.f_trace_T T.G_trace_T sc_trace_T rfl (fun _ _ _ _ _ _ us ws l1 l2 => match us, ws, l1, l2 with | [_, _, _], [_], _, _ => rfl) fun cdv A outer s H E pn hr => by
  have nd : (["book", "procedure", "bits", "pen", "way", "deeds", "pens", "last"] : List Str).Nodup := sc_trace_T.nd;have tk := takes_gcx (P := P) (w := w) (K := K) (mg := mg) (base := base) (N := ["book", "procedure", "bits", "pen", "way", "deeds", "pens", "last"]) (qual := "trace") (scope := defScope pW) (f := (He.ga K "trace")) (cd := cdv) (A := A) (outer := outer) (s := s) (H := H) (E := E) (pn := pn);unfold sY;exact (Fv (uF (t := (.tp [4, 5])) (aY (uT T) hr tk (aA (fv 0) (aA (fv 1) (aA (fv 2) aG)))) (pg_tup rfl (pgs_cons (pg_name (i := 4) nd rfl (.inl rfl)) (pgs_cons (pg_name (i := 5) nd rfl (.inl rfl)) pgs_nil))))
  (Fv (bC (gM (eU (aY (EM T) hr tk (aA (fv 3) aG)))) (aH (DA T.x_NoPen tk)) aQ)
  (Fv (uF (t := (.tp [6, 7])) (aY (vP T) hr tk (aA (fv 5) (aA (fv 3) aG))) (pg_tup rfl (pgs_cons (pg_name (i := 6) nd rfl (.inl rfl)) (pgs_cons (pg_name (i := 7) nd rfl (.inl rfl)) pgs_nil))))
  (fy_yf (fv 6) hr.hd))))
theorem vR (T : Txt w K mg) : tA P w K mg base 29 "_law_traced" ["_law_book_here", "_law_procedure", "_law_bits_here", "_law_begin"] (spF K lD) :=
 jU (k := 28) T.f_L_traced T.G_L_traced Gc (Runs.cut (n := 7) (np := 4)) (fun _ _ _ _ _ _ us hl => match us, hl with | [_, _, _, _], _ => rfl) fun _ _ _ _ _ _ hr tk nd => by
  unfold qS;exact (aE (aZ (i := 4) nd rfl (.inl rfl) (cJ aG))
  (aE (RW T.xm ⟨⟨fun _ _ _ => rfl, trivial⟩, trivial⟩ rfl rfl tk (fun W pn xe tk po => (aH (RZ (ix := 5) (il := 4) ⟨nd, rfl, rfl, by decide, rfl, rfl, rfl, rfl, rfl, rfl, by decide, by decide, rfl⟩ T.ns tk po (Ia T) hr (aA (fv 0) (aA (fv 1) (aA (fv 2) aG))) (fv 3)))) (hj_as (k := 6) (its := [.c (.str "NoRun") (.str "NoRun"), .f "index", .v 4]) T.xa_NoRun.glo nd rfl rfl (fun a oe cls dd pn hz hf => pss_one (ps_ret (pe_tup (jx_c pe_str (jx_f T.xa_NoRun.rd (T.xa_NoRun.no "index" (by decide)) hz hf (cv 6) (jx_v (cv 4) US)))))) UX))
  (aH (aU (bM (aA fS (aA (sU (fv 4)) aG)))))))
theorem Ic (T : Txt w K mg) : VW P w K mg base 25 "trace" ["book", "procedure", "bits", "pen"] (.ref (He.ga K "HOME")) (spG K wU) :=
 okGD (k := 24) (N := ["book", "procedure", "bits", "pen", "way", "deeds", "pens", "last"]) T.f_trace_D T.G_trace_D sc_trace_D rfl (fun _ _ _ _ _ _ us ks l1 l2 => match us, ks, l1, l2 with | [_, _, _], [_], _, _ => ⟨_, _, _, _, _, _, rfl, rfl, rfl⟩) fun cdv A outer s H E pn hr => by
  have nd : (["book", "procedure", "bits", "pen", "way", "deeds", "pens", "last"] : List Str).Nodup := sc_trace_D.nd;have tk := takes_gcx (P := P) (w := w) (K := K) (mg := mg) (base := base) (N := ["book", "procedure", "bits", "pen", "way", "deeds", "pens", "last"]) (qual := "trace") (scope := defScope pX) (f := (He.ga K "trace")) (cd := cdv) (A := A) (outer := outer) (s := s) (H := H) (E := E) (pn := pn);unfold xB;exact (Fx (uF (t := (.tp [4, 5])) (aY (uT T) hr tk (aA (fv 0) (aA (fv 1) (aA (fv 2) aG)))) (pg_tup rfl (pgs_cons (pg_name (i := 4) nd rfl (.inl rfl)) (pgs_cons (pg_name (i := 5) nd rfl (.inl rfl)) pgs_nil))))
  (Fx (bC (gM (eU (aY (EM T) hr tk (aA (fv 3) aG)))) (aH (DA T.x_NoPen tk)) aQ)
  (Fx (uF (t := (.tp [6, 7])) (aY (vP T) hr tk (aA (fv 5) (aA (fv 3) aG))) (pg_tup rfl (pgs_cons (pg_name (i := 6) nd rfl (.inl rfl)) (pgs_cons (pg_name (i := 7) nd rfl (.inl rfl)) pgs_nil))))
  (fg_yf (fv 6) hr.hd))))
theorem law_fn (T : Txt w K mg) : ∃ fd, (∀ (s : Shared) (us : List Value), us.length = (["_law_script"] : List Str).length -> BindsTo s fd ⟨us, []⟩ ((["_law_script"] : List Str).zip us)) /\ ∀ base, FnG P w K mg base (L2.CX P w) 36 (He.ga K "law") fd ["_law_script"] (spF K m_law_k18) :=
 Nh (N := ["_law_script", "_law_pool_here", "_law_bodies", "_law_book_here", "_law_step", "_law_procedure", "_law_begin", "_law_found", "_law_due"]) T.f_law_k18 sc_law_k18 (Runs.cut (n := 9) (np := 1) (mb := sZ)) (fun _ _ _ _ _ _ us hl => match us, hl with | [_], _ => rfl) fun base cdv A outer s H E hr hgd => by
  have nd : (["_law_script", "_law_pool_here", "_law_bodies", "_law_book_here", "_law_step", "_law_procedure", "_law_begin", "_law_found", "_law_due"] : List Str).Nodup := sc_law_k18.nd;have tk := takes_of (X := cxOf (L2.CX P w) P w K mg base ["_law_script", "_law_pool_here", "_law_bodies", "_law_book_here", "_law_step", "_law_procedure", "_law_begin", "_law_found", "_law_due"] "law" (defScope wR) (He.ga K "law") cdv A outer s H E) (E := E) rfl rfl rfl rfl;unfold sZ oF;exact (aE (aZ (i := 1) nd rfl (.inl rfl) (aY (LX T) hr tk (aA (fv 0) aG)))
  (aE (aZ (i := 2) nd rfl (.inl rfl) (aY (LZ T) hr tk (aA (fv 1) (aA fI (aA fI aG)))))
  (aE (aZ (i := 3) nd rfl (.inl rfl) (Oq T.T_Book (Ff T) hr tk (aA (aY (Gy T) hr tk (aA (fv 2) aG)) aG)))
  (aE (oY (t := (.nm 4)) (passes_of rfl) rfl (pR (by rfl) T.n_range (VI T.n_min fI (fQ T.n_len (fv 1)))) (pg_name (i := 4) nd rfl (.inl rfl)) (iW [4, 5, 6, 7, 8] (aE (aZ (i := 5) nd rfl (.inl rfl) (aY (cL T) hr tk (aA (fv 1) (aA (fQ T.n_len (fv 2)) aG))))
  (aE (aZ (i := 6) nd rfl (.inl rfl) (aY (NQ T) hr tk (aA (fv 1) aG)))
  (aE (aZ (i := 7) nd rfl (.inl rfl) (A9 (Fe T) hr hgd tk (aA (fv 1) (aA (fv 2) (aA (fv 5) (aA fI (aA (cP iG qB fI (oZ T.n_int (rF lC xT (aY (cL T) hr tk (aA (fv 1) (aA fI aG))) fI))) aG)))))))
  (aH (bC (aT (bB hr.units) s_eq (bH (fv 7) fI) fS) (aE (aZ (i := 8) nd rfl (.inl rfl) (bH (aY (EO T) hr tk (aA (bH (fv 7) fI) (aA (fv 6) aG))) fI))
  (aE (bC (gM (eU (aY (pY T 20) hr tk (aA (aY (vR T) hr tk (aA (fv 3) (aA (fv 5) (aA (yF T.n_list (bH (fv 7) fI)) (aA (fv 6) aG))))) (aA (bM (aA fS (aA (fv 8) aG))) aG))))) (aH (aU fB)) aQ)
  (aE (aZ (i := 8) nd rfl (.inl rfl) (bH (aY (EO T) hr tk (aA (bH (fv 7) fI) (aA (bM (aA fI (aA fI (aA fI (aA fI (aA fI (aA fI aG))))))) aG))) fI))
  (aH (bC (gM (eU (aY (pY T 20) hr tk (aA (Os T.n_list (Ic T) hr T.t_HOME (aA (fv 3) (aA (fv 5) (aA (yF T.n_list (bH (fv 7) fI)) aG)))) (aA (fv 8) aG))))) (aH (aU fB)) aQ))))) (aH (bC (aT (tN hr.units) FX (bH (fv 7) fI) fS) (aE (aZ (i := 8) nd rfl (.inl rfl) (bM (aA fS (aA (bH (fv 7) fI) (aA (cJ aG) aG)))))
  (aE (bC (gM (eU (aY (pY T 20) hr tk (aA (aY (vR T) hr tk (aA (fv 3) (aA (fv 5) (aA (yF T.n_list (bH (fv 7) fI)) (aA (fv 6) aG))))) (aA (fv 8) aG))))) (aH (aU fB)) aQ)
  (aH (bC (gM (eU (aY (pY T 20) hr tk (aA (aY (vR T) hr tk (aA (fv 3) (aA (fv 5) (aA (yF T.n_list (bH (fv 7) fI)) (aA (yF T.n_list (fv 6)) aG))))) (aA (fv 8) aG))))) (aH (aU fB)) aQ)))) aQ)))))))))
  (aH (aU (aY (pY T 20) hr tk (aA (A8 (vS T) hr tk T.c_Book (fv 3)) (aA (fv 2) aG)))))))))
end
theorem Ho {K : aD} (h : ex K = true) (i : Nat) {b : Bool} (e : (exs K)[i]? = some b := by rfl) : b = true := bT.mp h b (bN e)
theorem ob_eq (s : C3) : ob s = hk.obs s.abs := QT (HandSHeadRun.getT_eq s)
theorem txt {w : World} {K : aD} {h : Heap} {mg : Str -> Option Value} (X : K.In h) (G : h.Ns mainGlobals mg) (c : He.SaysT fa fn ts w K /\ ex K = true) : Txt w K mg where
  n_isinstance := He.free_ok X G (c.1.d.fact 0 (f := .free "isinstance") rfl)
  n_int := He.free_ok X G (c.1.d.fact 1 (f := .free "int") rfl)
  n_bool := He.free_ok X G (c.1.d.fact 2 (f := .free "bool") rfl)
  n_tuple := He.free_ok X G (c.1.d.fact 3 (f := .free "tuple") rfl)
  n_len := He.free_ok X G (c.1.d.fact 4 (f := .free "len") rfl)
  n_all := He.free_ok X G (c.1.d.fact 5 (f := .free "all") rfl)
  n_str := He.free_ok X G (c.1.d.fact 6 (f := .free "str") rfl)
  lim := UH (Ho c.2 0) (MM c.1 0 (t := Im) rfl)
  k_LIMITS := c.1.tab 0 (t := Im) rfl
  g_LIMITS := He.glo_ok X G (c.1.d.fact 7 (f := .glo "LIMITS") rfl)
  n_range := He.free_ok X G (c.1.d.fact 8 (f := .free "range") rfl)
  i_DEEPEST := He.int_ok X G (c.1.d.fact 9 (f := .int "DEEPEST" 3) rfl)
  n_list := He.free_ok X G (c.1.d.fact 10 (f := .free "list") rfl)
  n_enumerate := He.free_ok X G (c.1.d.fact 11 (f := .free "enumerate") rfl)
  i_MOST_IN_LIST := He.int_ok X G (c.1.d.fact 12 (f := .int "MOST_IN_LIST" 8) rfl)
  i_MOST_IN_PROCEDURE := He.int_ok X G (c.1.d.fact 13 (f := .int "MOST_IN_PROCEDURE" 12) rfl)
  i_MOST_PROCEDURES := He.int_ok X G (c.1.d.fact 14 (f := .int "MOST_PROCEDURES" 3) rfl)
  xa_NoBook := MY (Ho c.2 1) (He.glo_ok X G (c.1.d.fact 15 (f := .glo "NoBook") rfl))
  fx_NoBook := c.1.d.def_ 0 (d := DJ) rfl
  c_Book := He.cls_ok (c.1.d.fact 16 (f := .cls "Book") rfl)
  a_Book_own := He.noat_ok (c.1.d.fact 17 (f := .noat "Book" "own") rfl)
  c_Execution := He.cls_ok (c.1.d.fact 18 (f := .cls "Execution") rfl)
  a_Execution_own := He.noat_ok (c.1.d.fact 19 (f := .noat "Execution" "own") rfl)
  a_Execution_bits := He.noat_ok (c.1.d.fact 20 (f := .noat "Execution" "bits") rfl)
  a_Execution_taken := He.noat_ok (c.1.d.fact 21 (f := .noat "Execution" "taken") rfl)
  a_Execution_deeds := He.noat_ok (c.1.d.fact 22 (f := .noat "Execution" "deeds") rfl)
  a_Execution_stack := He.noat_ok (c.1.d.fact 23 (f := .noat "Execution" "stack") rfl)
  a_Execution_active := He.noat_ok (c.1.d.fact 24 (f := .noat "Execution" "active") rfl)
  a_Execution_ended := He.noat_ok (c.1.d.fact 25 (f := .noat "Execution" "ended") rfl)
  xa_NoRun := MY (Ho c.2 2) (He.glo_ok X G (c.1.d.fact 26 (f := .glo "NoRun") rfl))
  fx_NoRun := c.1.d.def_ 1 (d := Et) rfl
  x_NoProcedure := MX (Ho c.2 3) (He.glo_ok X G (c.1.d.fact 27 (f := .glo "NoProcedure") rfl))
  T_Execution := ⟨He.cls_ok (c.1.d.fact 28 (f := .cls "Execution") rfl), He.mkr_ok (c.1.d.fact 29 (f := .mkr "Execution") rfl), He.glo_ok X G (c.1.d.fact 30 (f := .glo "Execution") rfl)⟩
  x_NoPen := MX (Ho c.2 4) (He.glo_ok X G (c.1.d.fact 31 (f := .glo "NoPen") rfl))
  xm := TV (Ho c.2 5)
  ns := U1 (Ho c.2 6)
  T_Book := ⟨He.cls_ok (c.1.d.fact 32 (f := .cls "Book") rfl), He.mkr_ok (c.1.d.fact 33 (f := .mkr "Book") rfl), He.glo_ok X G (c.1.d.fact 34 (f := .glo "Book") rfl)⟩
  n_min := He.free_ok X G (c.1.d.fact 35 (f := .free "min") rfl)
  t_HOME := fun Bk H => ⟨_, _, rfl, He.tupB_ok (Ho c.2 7) H, ND⟩
  G_is_integer := He.glo_ok X G (c.1.d.fact 36 (f := .glo "is_integer") rfl)
  f_is_integer := c.1.d.def_ 2 (d := xN) rfl
  G_is_bit := He.glo_ok X G (c.1.d.fact 37 (f := .glo "is_bit") rfl)
  f_is_bit := c.1.d.def_ 3 (d := Ew) rfl
  G_is_pen := He.glo_ok X G (c.1.d.fact 38 (f := .glo "is_pen") rfl)
  f_is_pen := c.1.d.def_ 4 (d := Eu) rfl
  G_is_command := He.glo_ok X G (c.1.d.fact 39 (f := .glo "is_command") rfl)
  f_is_command := c.1.d.def_ 5 (d := xO) rfl
  G_executed := He.glo_ok X G (c.1.d.fact 40 (f := .glo "executed") rfl)
  f_executed := c.1.d.def_ 6 (d := BP) rfl
  G_blocks_of := He.glo_ok X G (c.1.d.fact 41 (f := .glo "blocks_of") rfl)
  f_blocks_of := c.1.d.def_ 7 (d := AC) rfl
  G_with_blocks := He.glo_ok X G (c.1.d.fact 42 (f := .glo "with_blocks") rfl)
  f_with_blocks := c.1.d.def_ 8 (d := wD) rfl
  G_copied_block := He.glo_ok X G (c.1.d.fact 43 (f := .glo "copied_block") rfl)
  f_copied_block := c.1.d.def_ 9 (d := uX) rfl
  G_copied_statement := He.glo_ok X G (c.1.d.fact 44 (f := .glo "copied_statement") rfl)
  f_copied_statement := c.1.d.def_ 10 (d := pI) rfl
  G_well_formed := He.glo_ok X G (c.1.d.fact 45 (f := .glo "well_formed") rfl)
  f_well_formed := c.1.d.def_ 11 (d := wF) rfl
  G_first_fault := He.glo_ok X G (c.1.d.fact 46 (f := .glo "first_fault") rfl)
  f_first_fault := c.1.d.def_ 12 (d := wH) rfl
  M_Book_init := He.meth_ok (c.1.d.fact 47 (f := .meth "Book" "__init__") rfl)
  f_Book_init := c.1.d.def_ 13 (d := AF) rfl
  M_Book_len := He.meth_ok (c.1.d.fact 48 (f := .meth "Book" "__len__") rfl)
  f_Book_len := c.1.d.def_ 14 (d := BW) rfl
  M_Book_bodies := He.meth_ok (c.1.d.fact 49 (f := .meth "Book" "bodies") rfl)
  f_Book_bodies := c.1.d.def_ 15 (d := wI) rfl
  G_has_procedure := He.glo_ok X G (c.1.d.fact 50 (f := .glo "has_procedure") rfl)
  f_has_procedure := c.1.d.def_ 16 (d := sW) rfl
  M_Execution_init := He.meth_ok (c.1.d.fact 51 (f := .meth "Execution" "__init__") rfl)
  f_Execution_init := c.1.d.def_ 17 (d := rJ) rfl
  M_Execution_take := He.meth_ok (c.1.d.fact 52 (f := .meth "Execution" "take") rfl)
  f_Execution_take := c.1.d.def_ 18 (d := rG) rfl
  M_Execution_enter := He.meth_ok (c.1.d.fact 53 (f := .meth "Execution" "enter") rfl)
  f_Execution_enter := c.1.d.def_ 19 (d := qQ) rfl
  M_Execution_leave := He.meth_ok (c.1.d.fact 54 (f := .meth "Execution" "leave") rfl)
  f_Execution_leave := c.1.d.def_ 20 (d := qP) rfl
  M_Execution_unwind := He.meth_ok (c.1.d.fact 55 (f := .meth "Execution" "unwind") rfl)
  f_Execution_unwind := c.1.d.def_ 21 (d := pJ) rfl
  M_Execution_begin := He.meth_ok (c.1.d.fact 56 (f := .meth "Execution" "begin") rfl)
  f_Execution_begin := c.1.d.def_ 22 (d := qR) rfl
  M_Execution_step := He.meth_ok (c.1.d.fact 57 (f := .meth "Execution" "step") rfl)
  f_Execution_step := c.1.d.def_ 23 (d := rH) rfl
  G_executed_run := He.glo_ok X G (c.1.d.fact 58 (f := .glo "executed_run") rfl)
  f_executed_run := c.1.d.def_ 24 (d := uW) rfl
  G_pens_behind := He.glo_ok X G (c.1.d.fact 59 (f := .glo "pens_behind") rfl)
  f_pens_behind := c.1.d.def_ 25 (d := wG) rfl
  G_L_pool := He.glo_ok X G (c.1.d.fact 60 (f := .glo "_law_pool") rfl)
  f_L_pool := c.1.d.def_ 26 (d := F0) rfl
  G_L_draw := He.glo_ok X G (c.1.d.fact 61 (f := .glo "_law_draw") rfl)
  f_L_draw := c.1.d.def_ 27 (d := F5) rfl
  G_L_command := He.glo_ok X G (c.1.d.fact 62 (f := .glo "_law_command") rfl)
  f_L_command := c.1.d.def_ 28 (d := AE) rfl
  G_L_pair := He.glo_ok X G (c.1.d.fact 63 (f := .glo "_law_pair") rfl)
  f_L_pair := c.1.d.def_ 29 (d := F3) rfl
  G_L_piece := He.glo_ok X G (c.1.d.fact 64 (f := .glo "_law_piece") rfl)
  f_L_piece := c.1.d.def_ 30 (d := DN) rfl
  G_L_block := He.glo_ok X G (c.1.d.fact 65 (f := .glo "_law_block") rfl)
  f_L_block := c.1.d.def_ 31 (d := DO) rfl
  G_L_around := He.glo_ok X G (c.1.d.fact 66 (f := .glo "_law_around") rfl)
  f_L_around := c.1.d.def_ 32 (d := BV) rfl
  G_L_body := He.glo_ok X G (c.1.d.fact 67 (f := .glo "_law_body") rfl)
  f_L_body := c.1.d.def_ 33 (d := F8) rfl
  G_L_book := He.glo_ok X G (c.1.d.fact 68 (f := .glo "_law_book") rfl)
  f_L_book := c.1.d.def_ 34 (d := F7) rfl
  G_L_number := He.glo_ok X G (c.1.d.fact 69 (f := .glo "_law_number") rfl)
  f_L_number := c.1.d.def_ 35 (d := BR) rfl
  G_L_pen := He.glo_ok X G (c.1.d.fact 70 (f := .glo "_law_pen") rfl)
  f_L_pen := c.1.d.def_ 36 (d := Hw) rfl
  G_L_move := He.glo_ok X G (c.1.d.fact 71 (f := .glo "_law_move") rfl)
  f_L_move := c.1.d.def_ 37 (d := F4) rfl
  G_L_bit := He.glo_ok X G (c.1.d.fact 72 (f := .glo "_law_bit") rfl)
  f_L_bit := c.1.d.def_ 38 (d := Hx) rfl
  G_L_task := He.glo_ok X G (c.1.d.fact 73 (f := .glo "_law_task") rfl)
  f_L_task := c.1.d.def_ 39 (d := Ey) rfl
  G_L_run := He.glo_ok X G (c.1.d.fact 74 (f := .glo "_law_run") rfl)
  f_L_run := c.1.d.def_ 40 (d := Hv) rfl
  G_L_bits := He.glo_ok X G (c.1.d.fact 75 (f := .glo "_law_bits") rfl)
  f_L_bits := c.1.d.def_ 41 (d := F9) rfl
  G_L_pens := He.glo_ok X G (c.1.d.fact 76 (f := .glo "_law_pens") rfl)
  f_L_pens := c.1.d.def_ 42 (d := F2) rfl
  G_L_blocks := He.glo_ok X G (c.1.d.fact 77 (f := .glo "_law_blocks") rfl)
  f_L_blocks := c.1.d.def_ 43 (d := BU) rfl
  G_L_with := He.glo_ok X G (c.1.d.fact 78 (f := .glo "_law_with") rfl)
  f_L_with := c.1.d.def_ 44 (d := Ex) rfl
  G_L_copy := He.glo_ok X G (c.1.d.fact 79 (f := .glo "_law_copy") rfl)
  f_L_copy := c.1.d.def_ 45 (d := F6) rfl
  G_L_copies := He.glo_ok X G (c.1.d.fact 80 (f := .glo "_law_copies") rfl)
  f_L_copies := c.1.d.def_ 46 (d := BS) rfl
  G_L_same := He.glo_ok X G (c.1.d.fact 81 (f := .glo "_law_same") rfl)
  f_L_same := c.1.d.def_ 47 (d := Ez) rfl
  G_L_steered := He.glo_ok X G (c.1.d.fact 82 (f := .glo "_law_steered") rfl)
  f_L_steered := c.1.d.def_ 48 (d := AD) rfl
  G_trace_T := He.glo_ok X G (c.1.d.fact 83 (f := .glo "trace") rfl)
  f_trace_T := c.1.d.def_ 49 (d := DK) rfl
  G_L_traced := He.glo_ok X G (c.1.d.fact 84 (f := .glo "_law_traced") rfl)
  f_L_traced := c.1.d.def_ 50 (d := BQ) rfl
  G_trace_D := He.glo_ok X G (c.1.d.fact 85 (f := .glo "trace") rfl)
  f_trace_D := c.1.d.def_ 51 (d := DL) rfl
  G_law_k18 := He.glo_ok X G (c.1.d.fact 86 (f := .glo "law") rfl)
  f_law_k18 := c.1.d.def_ 52 (d := DM) rfl
end PHZ
namespace PH
open PySem PySem.Spec PyProof.Rows L2
theorem atI0 {α : Type} {x : α} {r : List α} : atI (x :: r) 0 = some x := eX (n := 0) rfl
theorem atI1 {α : Type} {x y : α} {r : List α} : atI (x :: y :: r) 1 = some y := eX (n := 1) rfl
theorem atI2 {α : Type} {x y z : α} {r : List α} : atI (x :: y :: z :: r) 2 = some z := eX (n := 2) rfl
theorem atI3 {α : Type} {x y z w : α} {r : List α} : atI (x :: y :: z :: w :: r) 3 = some w := eX (n := 3) rfl
theorem cO {x : D} {r : List D} {S : aO} : bW (.dat (.tup (x :: r))) (.dat (.int 0)) S = .ok (.dat x) S := Cz atI0
theorem eP {x y : D} {r : List D} {S : aO} : bW (.dat (.tup (x :: y :: r))) (.dat (.int 1)) S = .ok (.dat y) S := Cz atI1
theorem kL {x y z : D} {r : List D} {S : aO} : bW (.dat (.tup (x :: y :: z :: r))) (.dat (.int 2)) S = .ok (.dat z) S := Cz atI2
theorem Iy {x y z w : D} {r : List D} {S : aO} : bW (.dat (.tup (x :: y :: z :: w :: r))) (.dat (.int 3)) S = .ok (.dat w) S := Cz atI3
theorem yD {x : D} {r : List D} {S : aO} : bW (.dat (.lst (x :: r))) (.dat (.int 0)) S = .ok (.dat x) S := rD atI0
theorem Cs {x y : D} {r : List D} {S : aO} : bW (.dat (.lst (x :: y :: r))) (.dat (.int 1)) S = .ok (.dat y) S := rD atI1
def PoolAt (S : aO) (p : Nat) (ks : List Int) : Prop := S[p]? = some (.lst (ks.map D.int)) /\ 2 <= ks.length
theorem O8 {S : aO} {p : Nat} {ks : List Int} {k : Int} {n : Nat} {u : Int} (h : S[p]? = some (.lst (ks.map D.int))) (hk : k = (n : Int)) (hu : ks[n]? = some u) : O9 (.cel p) k S = some (.int u) := by
 subst hk;simp only [O9, h];rw [if_pos (by omega)]
 simp [hu]
theorem Ga {S : aO} {p : Nat} {ks : List Int} {k : Int} {n : Nat} {u : Int} (h : S[p]? = some (.lst (ks.map D.int))) (hk : k = (n : Int)) (hu : n < ks.length) : setC (.cel p) k (.int u) S = some (S.set p (.lst ((ks.set n u).map D.int))) := by
 subst hk;simp only [setC, h];rw [if_pos ⟨by omega, by simpa using hu⟩]
 simp [List.map_set]
theorem AX {g : Int -> Int -> Int} {o i e : FE} {ρ : Ev} {S : aO} {p n : Nat} {k u w : Int} {ks : List Int} (ho : o ρ S = .ok (.cel p) S) (hi : i ρ S = .ok (.dat (.int k)) S) (he : e ρ S = .ok (.dat (.int w)) S) (h : S[p]? = some (.lst (ks.map D.int))) (hk : k = (n : Int)) (hu : ks[n]? = some u) :
  kT g o i e ρ S = .next ρ (S.set p (.lst ((ks.set n (g u w)).map D.int))) := by
 simp only [kT, ho, hi, he, mN, O8 h hk hu, Ga h hk (aI.mp hu).1]
theorem nX {S : aO} {p : Nat} {ks : List Int} {k : Int} {n : Nat} {u : Int} (h : S[p]? = some (.lst (ks.map D.int))) (hk : k = (n : Int)) (hu : ks[n]? = some u) : bW (.cel p) (.dat (.int k)) S = .ok (.dat (.int u)) S :=
 OY h (by rw [eX hk]; simp [hu])
theorem tJ {S : aO} {p : Nat} {c d : Cell} (h : S[p]? = some c) : (S.set p d)[p]? = some d := by
 rw [aW, if_pos rfl, if_pos (aI.mp h).1]
theorem pw18 {S : aO} : M8 (.dat (.int 10)) (.dat (.int 18)) S = .ok (.dat (.int 1000000000000000000)) S := rfl
theorem dw1 (a : Int) : IntMulOk 7919 a := mulL (by decide) (by decide)
theorem dw2 (a : Int) : IntMulOk a 48271 := mulR (by decide) (by decide)
theorem dw3 (a : Int) : CDiv a 1009 := ⟨by decide, by decide⟩
theorem dw4 (a : Int) : CDiv a 2003 := ⟨by decide, by decide⟩
theorem dw5 (a : Int) : CDiv a 11 := ⟨by decide, by decide⟩
theorem dw6 (a b : Int) : IntMulOk (a % 2147483647) b := by
 have h1 : 0 <= a % 2147483647 := dZ _ (by decide)
 have h2 : a % 2147483647 < 2147483647 := eB _ (by decide)
 generalize a % 2147483647 = x at h1 h2;exact mulL (by omega) (by omega)
theorem dw7 : (0 : Int) < 2147483647 := by decide
theorem dw8 : (0 : Int) < 2147483399 := by decide
theorem dw9 {a k : Int} {ks : List Int} {S S1 : aO} {p : Nat} {u : Int} (h0 : 0 < k) (hS1 : S.set p (.lst ((ks.set 0 (u + 1)).map D.int)) = S1) : ∃ (d : Int) (ks' : List Int), cF (Out.ret (.dat (.int (a % k))) S1) = .ok (.dat (.int d)) (S.set p (.lst (ks'.map D.int))) /\ 0 <= d /\ d < k /\ ks'.length = ks.length :=
 ⟨a % k, ks.set 0 (u + 1), by rw [hS1]; rfl, dZ _ (by omega), eB _ h0, by simp⟩
theorem fL {S : aO} {p : Nat} {ks : List Int} {k : Int} (hP : PoolAt S p ks) (h0 : 0 < k) (h1 : k < 1073741824) :
  ∃ (d : Int) (ks' : List Int), cG [.cel p, .dat (.int k)] S = .ok (.dat (.int d)) (S.set p (.lst (ks'.map D.int))) /\ 0 <= d /\ d < k /\ ks'.length = ks.length := by
 obtain ⟨hp, hl⟩ := hP;obtain ⟨u, hu⟩ : ∃ u, ks[0]? = some u := ⟨ks[0], by simp [show 0 < ks.length by omega]⟩
 have hp1 := tJ (d := .lst ((ks.set 0 (u + 1)).map D.int)) hp;have hn : (1 : Int) + (u + 1) % ((ks.length : Int) - 1) = ((1 + ((u + 1) % ((ks.length : Int) - 1)).toNat : Nat) : Int) := by
  have := dZ (u + 1) (show ((ks.length : Int) - 1) ≠ 0 by omega)
  omega
 have hlt : 1 + ((u + 1) % ((ks.length : Int) - 1)).toNat < ks.length := by
  have := eB (u + 1) (show 0 < ((ks.length : Int) - 1) by omega)
  have := dZ (u + 1) (show ((ks.length : Int) - 1) ≠ 0 by omega)
  omega
 generalize hj : 1 + ((u + 1) % ((ks.length : Int) - 1)).toNat = j at hn hlt;obtain ⟨c, hc⟩ : ∃ c, (ks.set 0 (u + 1))[j]? = some c := ⟨(ks.set 0 (u + 1))[j]'(by simpa using hlt), by simp [hlt]⟩
 have h00 : (ks.set 0 (u + 1))[0]? = some (u + 1) := by
  rw [aW, if_pos rfl, if_pos (by omega)]
 have e1 : (kT (fun x y => x + y) (aC 0) (mC (.int 0)) (mC (.int 1))) [some (.cel p), some (.dat (.int k)), none, none, none] S = .next [some (.cel p), some (.dat (.int k)), none, none, none] (S.set p (.lst ((ks.set 0 (u + 1)).map D.int))) := AX rfl rfl rfl hp rfl hu
 have eE : cG [.cel p, .dat (.int k)] S = cF (AR [some (.cel p), some (.dat (.int k)), none, none, none] S) := rfl;rw [eE];unfold AR;generalize hS1 : S.set p (.lst ((ks.set 0 (u + 1)).map D.int)) = S1 at e1 hp1;simp! [e1, nX (k := 0) (n := 0) hp1 rfl h00, qJ hp1, aP, List.length_set, mO (show (0 : Int) < (ks.length : Int) - 1 by omega), hn, nX hp1 rfl hc, pw18]
 by_cases hbig : (1000000000000000000 : Int) <= c
 ·rw [decide_eq_true hbig]
  simp! [if_true];have e2 : Jw (aR uV (aC 3) (aC 1)) (aC 0) (aC 2) [some (.cel p), some (.dat (.int k)), some (.dat (.int (j : Int))), some (.dat (.int c)), none] S1 = .next [some (.cel p), some (.dat (.int k)), some (.dat (.int (j : Int))), some (.dat (.int c)), none] (S1.set p (.lst (((ks.set 0 (u + 1)).set j (c / k)).map D.int))) := by
   unfold Jw;simp! [Bw (show CDiv c k from ⟨h0, h1⟩), Ga (u := c / k) hp1 (rfl : (j : Int) = (j : Int)) (by simpa using hlt)]
  simp! [e2, mO h0];refine ⟨c % k, (ks.set 0 (u + 1)).set j (c / k), ?_, dZ c (by omega), eB c h0, by simp⟩
  rw [<- hS1, eN];rfl
 ·rw [decide_eq_false hbig]
  simp! [nX (k := 0) (n := 0) hp1 rfl h00, lE (dw1 _), lE (dw2 _), mO dw7, mO dw8, Bw (dw3 _), Bw (dw4 _), Bw (dw5 _), lE (dw6 _ _), mO h0];exact dw9 h0 hS1
inductive Cmd where
 | go (k : Int) | turn (n : Int) | mirror | scale (k : Int) | aim (a b : Int) | place (a b : Int) | mark | ret | exch
def Cmd.d : Cmd -> D
 | .go k => .tup [.str "go", .int k]
 | .turn k => .tup [.str "turn", .int k]
 | .mirror => .tup [.str "mirror"]
 | .scale k => .tup [.str "scale", .int k]
 | .aim a b => .tup [.str "aim", .int a, .int b]
 | .place a b => .tup [.str "place", .int a, .int b]
 | .mark => .tup [.str "mark"]
 | .ret => .tup [.str "return"]
 | .exch => .tup [.str "exchange"]
def Cmd.Ok : Cmd -> Prop
 | .go k => -9 <= k /\ k <= 9
 | .turn k => 1 <= k /\ k <= 3
 | .scale k => -3 <= k /\ k <= 3
 | .aim a b => (-9 <= a /\ a <= 9) /\ -9 <= b /\ b <= 9
 | .place a b => (-9 <= a /\ a <= 9) /\ -9 <= b /\ b <= 9
 | _ => True
abbrev PL (ks : List Int) : Cell := .lst (ks.map D.int)
theorem PoolAt.next {S : aO} {p : Nat} {ks ks' : List Int} (h : PoolAt S p ks) (l : ks'.length = ks.length) : PoolAt (S.set p (PL ks')) p ks' := ⟨tJ h.1, by rw [l]; exact h.2⟩
inductive Stt where
 | cmd (c : Cmd) | fin (w : Int) | keep (b : List Stt) | again (b : List Stt) | either (a b : List Stt) | call (g : Int) (s : Bool) (a b : List Stt) | bad | odd (x : D)
mutual
def Stt.d : Stt -> D
 | .cmd c => c.d
 | .fin w => .tup [.str "end", .int w]
 | .keep b => .tup [.str "keep", .lst (bP b)]
 | .again b => .tup [.str "again", .lst (bP b)]
 | .either a b => .tup [.str "either", .lst (bP a), .lst (bP b)]
 | .call g s a b => .tup [.str "call", .int g, .bl s, .lst [.lst (bP a), .lst (bP b)]]
 | .bad => .tup [.str "bad"]
 | .odd x => x
def bP : List Stt -> List D
 | [] => []
 | s :: r => s.d :: bP r
end
mutual
/-- of a depth of n at most; calls of the first many -/
def Stt.Ok (many : Int) : Stt -> Nat -> Prop
 | .cmd c, _ => c.Ok
 | .fin w, _ => 0 <= w /\ w <= 1
 | .keep b, n => 0 < n /\ OkL many b (n - 1)
 | .again b, n => 0 < n /\ OkL many b (n - 1)
 | .either a b, n => 0 < n /\ OkL many a (n - 1) /\ OkL many b (n - 1)
 | .call g _ a b, n => (0 < n /\ 0 <= g /\ g < many) /\ OkL many a (n - 1) /\ OkL many b (n - 1)
 | .bad, _ => True
 | .odd _, _ => False
def OkL (many : Int) : List Stt -> Nat -> Prop
 | [], _ => True
 | s :: r, n => (s.Ok many n /\ r.length < 10) /\ OkL many r n
end
def WfNo (many : Int) (x : D) : Prop := ∀ (lv : Int) (S : aO), kR [.dat x, .dat (.int lv), .dat (.int many)] S = .ok (.dat (.bl false)) S
mutual
/-- the same; values that are no statements may stand in it -/
def Stt.Okx (many : Int) : Stt -> Nat -> Prop
 | .cmd c, _ => c.Ok
 | .fin w, _ => 0 <= w /\ w <= 1
 | .keep b, n => 0 < n /\ Bc many b (n - 1)
 | .again b, n => 0 < n /\ Bc many b (n - 1)
 | .either a b, n => 0 < n /\ Bc many a (n - 1) /\ Bc many b (n - 1)
 | .call g _ a b, n => (0 < n /\ 0 <= g /\ g < many) /\ Bc many a (n - 1) /\ Bc many b (n - 1)
 | .bad, _ => True
 | .odd x, _ => WfNo many x
def Bc (many : Int) : List Stt -> Nat -> Prop
 | [], _ => True
 | s :: r, n => s.Okx many n /\ Bc many r n
end
mutual
theorem Stt.Ok.x {many : Int} : ∀ {s : Stt} {n : Nat}, s.Ok many n -> s.Okx many n
 | .cmd c, _, h => h
 | .fin w, _, h => h
 | .keep b, n, h => ⟨h.1, OkL.x h.2⟩
 | .again b, n, h => ⟨h.1, OkL.x h.2⟩
 | .either a b, n, h => ⟨h.1, OkL.x h.2.1, OkL.x h.2.2⟩
 | .call g _ a b, n, h => ⟨h.1, OkL.x h.2.1, OkL.x h.2.2⟩
 | .bad, _, _ => trivial
 | .odd x, _, h => h.elim
theorem OkL.x {many : Int} : ∀ {l : List Stt} {n : Nat}, OkL many l n -> Bc many l n
 | [], _, _ => trivial
 | s :: r, n, h => ⟨h.1.1.x, OkL.x h.2⟩
end
def Stt.isOdd : Stt -> Bool
 | .odd _ => true
 | _ => false
theorem Stt.Ok.no {many : Int} {s : Stt} {n : Nat} (h : s.Ok many n) : s.isOdd = false := by
 cases s <;> first | rfl | exact h.elim
theorem cY : ∀ l : List Stt, (bP l).length = l.length
 | [] => rfl
 | s :: r => by simp [bP, cY r]
theorem oS : ∀ l m : List Stt, bP (l ++ m) = bP l ++ bP m
 | [], m => rfl
 | s :: r, m => by simp [bP, oS r m]
theorem OkL.len {many : Int} : ∀ {l : List Stt} {n : Nat}, OkL many l n -> l.length <= 10
 | [], _, _ => by simp
 | s :: r, n, h => by have := h.1.2; simp; omega
def LS (S : aO) : Prop := ∀ c ∈ S, ∀ n, c.below n = true
theorem LS.app {S : aO} {ds : List D} (h : LS S) : LS (S ++ [.lst ds]) := fun c hc n => by
 rcases dH.mp hc with hc | hc
 ·exact h c hc n
 ·rw [bK.mp hc]; rfl
theorem LS.set {S : aO} {ds : List D} {k : Nat} (h : LS S) : LS (S.set k (.lst ds)) := fun c hc n => by
 rcases tF hc with hc | hc
 ·exact h c hc n
 ·rw [hc]; rfl
theorem LS.take {S : aO} {n m : Nat} (h : LS S) : ((S.take n).all fun c => c.below m) = true := bT.mpr fun c hc => h c (yQ hc) m
theorem eK {i : Int} {S : aO} : fG [.dat (.int i)] S = .ok (.dat (.bl true)) S := by
 rw [show fG [.dat (.int i)] S = cF (pT [some (.dat (.int i))] S) from rfl]
 unfold pT;simp! [if_true];rfl
theorem Ef {i : Int} {S : aO} : vT [.dat (.int i)] S = .ok (.dat (.bl (decide (0 <= i) && decide (i <= 1)))) S := by
 rw [show vT [.dat (.int i)] S = cF (AK [some (.dat (.int i))] S) from rfl]
 unfold AK;simp! [eK]
 by_cases h : 0 <= i
 ·simp! [decide_eq_true h]; rfl
 ·simp! [decide_eq_false h]; rfl
theorem tX {S : aO} : B7 (.dat (.str "go")) S = .ok (.dat (.tup [.int 1, .int (-9), .int 9])) S := rfl
theorem uB {S : aO} : gN true (.dat (.str "go")) S = .ok (.dat (.bl false)) S := rfl
theorem mI {S : aO} : B7 (.dat (.str "turn")) S = .ok (.dat (.tup [.int 1, .int 1, .int 3])) S := rfl
theorem mL {S : aO} : gN true (.dat (.str "turn")) S = .ok (.dat (.bl false)) S := rfl
theorem iK {S : aO} : B7 (.dat (.str "mirror")) S = .ok (.dat (.tup [.int 0, .int 0, .int 0])) S := rfl
theorem iM {S : aO} : gN true (.dat (.str "mirror")) S = .ok (.dat (.bl false)) S := rfl
theorem jW {S : aO} : B7 (.dat (.str "scale")) S = .ok (.dat (.tup [.int 1, .int (-3), .int 3])) S := rfl
theorem jY {S : aO} : gN true (.dat (.str "scale")) S = .ok (.dat (.bl false)) S := rfl
theorem pO {S : aO} : B7 (.dat (.str "aim")) S = .ok (.dat (.tup [.int 2, .int (-9), .int 9])) S := rfl
theorem pP {S : aO} : gN true (.dat (.str "aim")) S = .ok (.dat (.bl false)) S := rfl
theorem jX {S : aO} : B7 (.dat (.str "place")) S = .ok (.dat (.tup [.int 2, .int (-9), .int 9])) S := rfl
theorem jZ {S : aO} : gN true (.dat (.str "place")) S = .ok (.dat (.bl false)) S := rfl
theorem mJ {S : aO} : B7 (.dat (.str "mark")) S = .ok (.dat (.tup [.int 0, .int 0, .int 0])) S := rfl
theorem mM {S : aO} : gN true (.dat (.str "mark")) S = .ok (.dat (.bl false)) S := rfl
theorem iJ {S : aO} : B7 (.dat (.str "return")) S = .ok (.dat (.tup [.int 0, .int 0, .int 0])) S := rfl
theorem iL {S : aO} : gN true (.dat (.str "return")) S = .ok (.dat (.bl false)) S := rfl
theorem fH {S : aO} : B7 (.dat (.str "exchange")) S = .ok (.dat (.tup [.int 0, .int 0, .int 0])) S := rfl
theorem fJ {S : aO} : gN true (.dat (.str "exchange")) S = .ok (.dat (.bl false)) S := rfl
theorem KA {S : aO} : gN true (.dat (.str "end")) S = .ok (.dat (.bl true)) S := rfl
theorem Cv {S : aO} : gN true (.dat (.str "keep")) S = .ok (.dat (.bl true)) S := rfl
theorem Ay {S : aO} : gN true (.dat (.str "again")) S = .ok (.dat (.bl true)) S := rfl
theorem uC {S : aO} : gN true (.dat (.str "either")) S = .ok (.dat (.bl true)) S := rfl
theorem A5 {S : aO} : gN true (.dat (.str "call")) S = .ok (.dat (.bl true)) S := rfl
theorem Qp {S : aO} : gN true (.dat (.str "bad")) S = .ok (.dat (.bl true)) S := rfl
theorem wJ {x : D} {r : List D} : cutD (x :: r) (some 1) none = r := by
 unfold cutD;rw [HT.sIx_none, show ((1 : Int)) = ((1 : Nat) : Int) from rfl, HT.sIx_nat]
 simp
theorem all_nil {S : aO} : DD (.dat (.lst [])) S = .ok (.dat (.bl true)) S := rfl
theorem I8 {a : Bool} {S : aO} : DD (.dat (.lst [.bl a])) S = .ok (.dat (.bl a)) S := by cases a <;> rfl
theorem I7 {a b : Bool} {S : aO} : DD (.dat (.lst [.bl a, .bl b])) S = .ok (.dat (.bl (a && b))) S := by cases a <;> cases b <;> rfl
theorem sz {n : Nat} (h : n <= 1000) : n <= sizeLine := by show n <= 16777216; omega
theorem J0 {c : Cmd} {S : aO} (h : c.Ok) : gE [.dat c.d] S = .ok (.dat (.bl true)) S := by
 rw [show gE [.dat c.d] S = cF (kB [some (.dat c.d), none, none, none, none] S) from rfl]
 unfold kB mX;cases c with
 | go k =>
  obtain ⟨h1, h2⟩ := h;simp! [Cmd.d, cO, tX, uB, mI, mL, iK, iM, jW, jY, pO, pP, jX, jZ, mJ, mM, iJ, iL, fH, fJ, wJ, A3, jO, pE, eK, all_nil, I8, I7, decide_eq_true h1, decide_eq_true h2, sz];rfl
 | turn k =>
  obtain ⟨h1, h2⟩ := h;simp! [Cmd.d, cO, tX, uB, mI, mL, iK, iM, jW, jY, pO, pP, jX, jZ, mJ, mM, iJ, iL, fH, fJ, wJ, A3, jO, pE, eK, all_nil, I8, I7, decide_eq_true h1, decide_eq_true h2, sz];rfl
 | mirror => simp! [Cmd.d, cO, tX, uB, mI, mL, iK, iM, jW, jY, pO, pP, jX, jZ, mJ, mM, iJ, iL, fH, fJ, wJ, A3, jO, pE, eK, all_nil, sz]; rfl
 | scale k =>
  obtain ⟨h1, h2⟩ := h;simp! [Cmd.d, cO, tX, uB, mI, mL, iK, iM, jW, jY, pO, pP, jX, jZ, mJ, mM, iJ, iL, fH, fJ, wJ, A3, jO, pE, eK, all_nil, I8, I7, decide_eq_true h1, decide_eq_true h2, sz];rfl
 | aim a b =>
  obtain ⟨⟨h1, h2⟩, h3, h4⟩ := h;simp! [Cmd.d, cO, tX, uB, mI, mL, iK, iM, jW, jY, pO, pP, jX, jZ, mJ, mM, iJ, iL, fH, fJ, wJ, A3, jO, pE, eK, all_nil, I8, I7, decide_eq_true h1, decide_eq_true h2, decide_eq_true h3, decide_eq_true h4, sz];rfl
 | place a b =>
  obtain ⟨⟨h1, h2⟩, h3, h4⟩ := h;simp! [Cmd.d, cO, tX, uB, mI, mL, iK, iM, jW, jY, pO, pP, jX, jZ, mJ, mM, iJ, iL, fH, fJ, wJ, A3, jO, pE, eK, all_nil, I8, I7, decide_eq_true h1, decide_eq_true h2, decide_eq_true h3, decide_eq_true h4, sz];rfl
 | mark => simp! [Cmd.d, cO, tX, uB, mI, mL, iK, iM, jW, jY, pO, pP, jX, jZ, mJ, mM, iJ, iL, fH, fJ, wJ, A3, jO, pE, eK, all_nil, sz]; rfl
 | ret => simp! [Cmd.d, cO, tX, uB, mI, mL, iK, iM, jW, jY, pO, pP, jX, jZ, mJ, mM, iJ, iL, fH, fJ, wJ, A3, jO, pE, eK, all_nil, sz]; rfl
 | exch => simp! [Cmd.d, cO, tX, uB, mI, mL, iK, iM, jW, jY, pO, pP, jX, jZ, mJ, mM, iJ, iL, fH, fJ, wJ, A3, jO, pE, eK, all_nil, sz]; rfl
theorem jJ {z : Str} {r : List D} {S : aO} (h : gN true (.dat (.str z)) S = .ok (.dat (.bl true)) S) : gE [.dat (.tup (.str z :: r))] S = .ok (.dat (.bl false)) S := by
 rw [show gE [.dat (.tup (.str z :: r))] S = cF (kB [some (.dat (.tup (.str z :: r))), none, none, none, none] S) from rfl]
 unfold kB mX;simp! [cO, h];rw [decide_eq_false (by simp; omega)]
 simp! [cO, h];rfl
def Stt.blocks : Stt -> List (List Stt)
 | .keep b => [b]
 | .again b => [b]
 | .either a b => [a, b]
 | .call _ _ a b => [a, b]
 | _ => []
def bls (bs : List (List Stt)) : List D := bs.map fun b => .lst (bP b)
theorem wZ {s : Stt} {S : aO} (ho : s.isOdd = false) : lN [.dat s.d] S = .ok (.dat (.lst (bls s.blocks))) S := by
 rw [show lN [.dat s.d] S = cF (rM [some (.dat s.d), none] S) from rfl]
 unfold rM;cases s with
 | cmd c => cases c <;> (simp! [Stt.d, Cmd.d, cO]; rfl)
 | fin w => simp! [Stt.d, cO]; rfl
 | keep b => simp! [Stt.d, cO, eP]; rfl
 | again b => simp! [Stt.d, cO, eP]; rfl
 | either a b => simp! [Stt.d, cO, eP, kL]; rfl
 | call g s a b => simp! [Stt.d, cO, eP, kL, Iy]; rfl
 | bad => simp! [Stt.d, cO]; rfl
 | odd x => cases ho
theorem GL {s : Stt} {S : aO} (ho : s.isOdd = false) : nV [.dat s.d, .dat (.lst (bls s.blocks))] S = .ok (.dat s.d) S := by
 rw [show nV [.dat s.d, .dat (.lst (bls s.blocks))] S = cF (nY [some (.dat s.d), some (.dat (.lst (bls s.blocks))), none] S) from rfl]
 unfold nY;cases s with
 | cmd c => cases c <;> (simp! [Stt.d, Cmd.d, cO]; rfl)
 | fin w => simp! [Stt.d, cO]; rfl
 | keep b => simp! [Stt.d, Stt.blocks, bls, aM, bI, cO, yD]; rfl
 | again b => simp! [Stt.d, Stt.blocks, bls, aM, bI, cO, yD]; rfl
 | either a b => simp! [Stt.d, Stt.blocks, bls, aM, bI, cO, yD, Cs]; rfl
 | call g s a b => simp! [Stt.d, Stt.blocks, bls, aM, bI, cO, eP, kL]; rfl
 | bad => simp! [Stt.d, cO]; rfl
 | odd x => cases ho
def Stt.wf (lv : Int) : Stt -> Bool
 | .cmd _ => true
 | .fin _ => true
 | .bad => false
 | .odd _ => false
 | _ => !decide (lv = 3)
theorem isb {i : Int} (h : 0 <= i /\ i <= 1) : (decide (0 <= i) && decide (i <= 1)) = true := by simp [h.1, h.2]
theorem GM {s : Stt} {lv many : Int} {n : Nat} {S : aO} (h : s.Okx many n) : kR [.dat s.d, .dat (.int lv), .dat (.int many)] S = .ok (.dat (.bl (s.wf lv))) S := by
 by_cases ho : s.isOdd = true
 ·cases s <;> first | (cases ho; done) | exact h lv S
 rw [show kR [.dat s.d, .dat (.int lv), .dat (.int many)] S = cF (nZ [some (.dat s.d), some (.dat (.int lv)), some (.dat (.int many)), none] S) from rfl]
 unfold nZ;cases s with
 | cmd c => simp! [Stt.d, J0 h]; rfl
 | fin w => simp! [Stt.d, jJ KA, cO, eP, Ef, isb h]; rfl
 | bad => simp! [Stt.d, jJ Qp]; rfl
 | odd x => exact absurd rfl ho
 | keep b =>
  by_cases hl : lv = 3
  ·simp! [Stt.d, jJ Cv, cO, eP, decide_eq_true hl]; simp [Stt.wf, hl]; rfl
  ·simp! [Stt.d, jJ Cv, cO, eP, decide_eq_false hl]; simp [Stt.wf, hl]; rfl
 | again b =>
  by_cases hl : lv = 3
  ·simp! [Stt.d, jJ Ay, cO, eP, decide_eq_true hl]; simp [Stt.wf, hl]; rfl
  ·simp! [Stt.d, jJ Ay, cO, eP, decide_eq_false hl]; simp [Stt.wf, hl]; rfl
 | either a b =>
  by_cases hl : lv = 3
  ·simp! [Stt.d, jJ uC, cO, eP, kL, decide_eq_true hl]; simp [Stt.wf, hl]; rfl
  ·simp! [Stt.d, jJ uC, cO, eP, kL, decide_eq_false hl]; simp [Stt.wf, hl]; rfl
 | call g b a c =>
  obtain ⟨⟨_, h1, h2⟩, _⟩ := h
  by_cases hl : lv = 3
  ·simp! [Stt.d, jJ A5, cO, eP, kL, Iy, decide_eq_true hl]; simp [Stt.wf, hl]; rfl
  ·simp! [Stt.d, jJ A5, cO, eP, kL, Iy, decide_eq_false hl, eK, decide_eq_true h1, decide_eq_true h2, yD, Cs]; simp [Stt.wf, hl]; rfl
inductive FR where
 | fault (p : List Int) (m : Int) | okk (m : Int)
abbrev tupI (p : List Int) : D := .tup (p.map D.int)
def FR.d : FR -> D
 | .fault p m => .tup [tupI p, .int m]
 | .okk m => .tup [.non, .int m]
def FR.then (r : FR) (k : Int -> FR) : FR := match r with
 | .fault p m => .fault p m
 | .okk m => k m
mutual
/-- what stands in the blocks of s, at the path here -/
def El (lv : Int) (here : List Int) : Stt -> Int -> FR
 | .keep b, met => wX (lv + 1) (here ++ [0]) 0 b met
 | .again b, met => wX (lv + 1) (here ++ [0]) 0 b met
 | .either a b, met => (wX (lv + 1) (here ++ [0]) 0 a met).then (wX (lv + 1) (here ++ [1]) 0 b)
 | .call _ _ a b, met => (wX (lv + 1) (here ++ [0]) 0 a met).then (wX (lv + 1) (here ++ [1]) 0 b)
 | _, met => .okk met
def wX (lv : Int) (path : List Int) (at_ : Int) : List Stt -> Int -> FR
 | [], met => .okk met
 | s :: r, met => if at_ = 8 \/ met = 12 \/ s.wf lv = false then .fault (path ++ [at_]) met else
  (El lv (path ++ [at_]) s (met + 1)).then (wX lv path (at_ + 1) r)
end
def GB (n : Nat) : Prop := ∀ {S : aO} {l : List Stt} {lv many met : Int} {path : List Int} {k : Nat}, Bc many l k -> 0 <= lv -> lv <= 3 -> path.length <= 2 * lv.toNat -> 4 - lv.toNat <= n ->
 dO n [.dat (.lst (bP l)), .dat (.int lv), .dat (.int many), .dat (tupI path), .dat (.int met)] S = .ok (.dat (wX lv path 0 l met).d) S
theorem ID {cl : Bool} {p : List Int} {i : Int} {S : aO} (h : p.length <= 100) : dD cl (.dat (tupI p)) (.dat (.tup [.int i])) S = .ok (.dat (tupI (p ++ [i]))) S := by
 rw [mT (sz (by simp; omega))]
 simp [tupI]
theorem FR.then_okk {m : Int} {k : Int -> FR} : (FR.okk m).then k = k m := rfl
theorem FR.then_fault {p : List Int} {m : Int} {k : Int -> FR} : (FR.fault p m).then k = .fault p m := rfl
theorem ff_in {n : Nat} (ih : GB n) {S : aO} {s : Stt} {lv many met : Int} {path : List Int} {k : Nat} {a b c : Option Vl} (h : s.Okx many k) (h0 : 0 <= lv) (h3 : lv < 3) (hp : path.length <= 2 * lv.toNat + 1) (hn : 4 - (lv + 1).toNat <= n) :
  loop (.tp [8, 9]) (gA (dO n)) (eG 0 (bls s.blocks)) [a, some (.dat (.int lv)), some (.dat (.int many)), b, some (.dat (.int met)), c, some (.dat s.d), some (.dat (tupI path)), none, none, none] S =
   match El lv path s met with
   | .fault p m => .ret (.dat (.tup [tupI p, .int m])) S
   | .okk m => .next [a, some (.dat (.int lv)), some (.dat (.int many)), b, some (.dat (.int m)), c, some (.dat s.d), some (.dat (tupI path)), none, none, none] S := by
 have turn : ∀ {l : List Stt} {met : Int} {i : Int}, Bc many l (k - 1) -> dO n [.dat (.lst (bP l)), .dat (.int (lv + 1)), .dat (.int many), .dat (tupI (path ++ [i])), .dat (.int met)] S = .ok (.dat (wX (lv + 1) (path ++ [i]) 0 l met).d) S := fun hl => ih hl (by omega) (by omega) (by simp; omega) hn
 have one : ∀ {l : List Stt} {r : List D} {met : Int} {i : Int}, Bc many l (k - 1) -> loop (.tp [8, 9]) (gA (dO n)) (.tup [.int i, .lst (bP l)] :: r) [a, some (.dat (.int lv)), some (.dat (.int many)), b, some (.dat (.int met)), c, some (.dat s.d), some (.dat (tupI path)), none, none, none] S =
   match wX (lv + 1) (path ++ [i]) 0 l met with
   | .fault p m => .ret (.dat (.tup [tupI p, .int m])) S
   | .okk m => loop (.tp [8, 9]) (gA (dO n)) r [a, some (.dat (.int lv)), some (.dat (.int many)), b, some (.dat (.int m)), c, some (.dat s.d), some (.dat (tupI path)), none, none, none] S := fun {l r met i} hl => by
  have e := turn (met := met) (i := i) hl;rw [loop];simp only [pE, kG, aL, bF, if_true, bY, cE];rw [gA];simp! [ID (show path.length <= 100 by omega), e]
  cases q : wX (lv + 1) (path ++ [i]) 0 l met with
  | fault p m => simp! [FR.d, Hb]
  | okk m => simp! [FR.d, Hb]
 cases s with
 | cmd c => simp only [Stt.blocks, bls, bI, eG, loop, El]
 | fin w => simp only [Stt.blocks, bls, bI, eG, loop, El]
 | bad => simp only [Stt.blocks, bls, bI, eG, loop, El]
 | odd w => simp only [Stt.blocks, bls, bI, eG, loop, El]
 | keep x =>
  simp only [Stt.blocks, bls, bI, aM, eG, El, kZ, mR, A6];rw [one h.2];cases wX (lv + 1) (path ++ [0]) 0 x met <;> rfl
 | again x =>
  simp only [Stt.blocks, bls, bI, aM, eG, El, kZ, mR, A6];rw [one h.2];cases wX (lv + 1) (path ++ [0]) 0 x met <;> rfl
 | either x y =>
  simp only [Stt.blocks, bls, bI, aM, eG, El, kZ, mR, A6];rw [one h.2.1];cases wX (lv + 1) (path ++ [0]) 0 x met with
  | fault p m => rfl
  | okk m =>
   simp only [FR.then_okk];rw [one h.2.2];cases wX (lv + 1) (path ++ [1]) 0 y m <;> rfl
 | call g f x y =>
  simp only [Stt.blocks, bls, bI, aM, eG, El, kZ, mR, A6];rw [one h.2.1];cases wX (lv + 1) (path ++ [0]) 0 x met with
  | fault p m => rfl
  | okk m =>
   simp only [FR.then_okk];rw [one h.2.2];cases wX (lv + 1) (path ++ [1]) 0 y m <;> rfl
theorem Om {n : Nat} (ih : GB n) {S : aO} {lv many : Int} {path : List Int} {k : Nat} {a : Option Vl} (h0 : 0 <= lv) (h3 : lv <= 3) (hp : path.length <= 2 * lv.toNat) (hn : 4 - (lv + 1).toNat <= n) :
  ∀ (l : List Stt) (at_ : Nat) (met : Int), Bc many l k -> loop (.tp [5, 6]) (kW (dO n)) (eG at_ (bP l)) [a, some (.dat (.int lv)), some (.dat (.int many)), some (.dat (tupI path)), some (.dat (.int met)), none, none, none, none, none, none] S =
   match wX lv path (at_ : Nat) l met with
   | .fault p m => .ret (.dat (.tup [tupI p, .int m])) S
   | .okk m => .next [a, some (.dat (.int lv)), some (.dat (.int many)), some (.dat (tupI path)), some (.dat (.int m)), none, none, none, none, none, none] S
 | [], at_, met, _ => rfl
 | s :: r, at_, met, h => by
  have rest := Om ih (S := S) (many := many) (k := k) (a := a) h0 h3 hp hn r (at_ + 1);simp only [bP, eG];rw [loop];simp only [pE, kG, aL, bF, if_true, bY, cE];rw [kW];simp! [ID (show path.length <= 100 by omega)]
  by_cases h8 : ((at_ : Nat) : Int) = 8
  ·simp! [decide_eq_true h8]
   unfold wX;rw [if_pos (.inl h8)]
  ·simp! [decide_eq_false h8]
   by_cases hm : met = 12
   ·simp! [decide_eq_true hm]
    unfold wX;rw [if_pos (.inr (.inl hm))]
   ·simp! [decide_eq_false hm, GM h.1]
    cases hw : s.wf lv with
    | false =>
     simp! [if_true];unfold wX;rw [if_pos (.inr (.inr hw))]
    | true =>
     have hlv : El lv (path ++ [((at_ : Nat) : Int)]) s (met + 1) = .okk (met + 1) /\ s.blocks = [] \/ lv < 3 := by
      cases s with
      | cmd c => exact .inl ⟨rfl, rfl⟩
      | fin w => exact .inl ⟨rfl, rfl⟩
      | bad => cases hw
      | odd x => cases hw
      | keep b => refine .inr ?_; simp [Stt.wf] at hw; omega
      | again b => refine .inr ?_; simp [Stt.wf] at hw; omega
      | either a b => refine .inr ?_; simp [Stt.wf] at hw; omega
      | call g f a b => refine .inr ?_; simp [Stt.wf] at hw; omega
     have ea : ∀ x y z : Option Vl, Li (fun x y => x + y) 4 (mC (.int 1)) [a, some (.dat (.int lv)), some (.dat (.int many)), some (.dat (tupI path)), some (.dat (.int met)), x, y, z, none, none, none] S = .next [a, some (.dat (.int lv)), some (.dat (.int many)), some (.dat (tupI path)), some (.dat (.int (met + 1))), x, y, z, none, none, none] S := fun _ _ _ => rfl
     have e2 : wX lv path ((at_ : Nat) : Int) (s :: r) met = (El lv (path ++ [((at_ : Nat) : Int)]) s (met + 1)).then (wX lv path (((at_ + 1 : Nat) : Int)) r) := by
      rw [wX, if_neg (by rintro (h | h | h) <;> first | exact h8 h | exact hm h | (rw [hw] at h; cases h))]
      rfl
     rw [e2];have ho : s.isOdd = false := by cases s <;> first | rfl | (cases hw; done)
     simp! [ea, wZ ho];rcases hlv with ⟨q1, q2⟩ | hlv
     ·rw [q1, q2]
      simp! [bls, bI, eG, loop, FR.then_okk];exact rest (met + 1) h.2
     ·rw [ff_in ih h.1 h0 hlv (by simp; omega) hn]
      cases q : El lv (path ++ [((at_ : Nat) : Int)]) s (met + 1) with
      | fault p m => simp! [FR.then_fault]
      | okk m =>
       simp! [FR.then_okk];exact rest m h.2
theorem Oo (n : Nat) : GB n := by
 induction n with
 | zero =>
  intro S l lv many met path k hl h0 h3 hp hn;omega
 | succ n ih =>
  intro S l lv many met path k hl h0 h3 hp hn;rw [show dO (n + 1) [.dat (.lst (bP l)), .dat (.int lv), .dat (.int many), .dat (tupI path), .dat (.int met)] S = cF (oD (dO n) [some (.dat (.lst (bP l))), some (.dat (.int lv)), some (.dat (.int many)), some (.dat (tupI path)), some (.dat (.int met)), none, none, none, none, none, none] S) from rfl]
  unfold oD;have e := Om ih (S := S) (a := some (.dat (.lst (bP l)))) h0 h3 hp (by omega) l 0 met hl
  rw [mR] at e;simp! [e];cases q : wX lv path 0 l met with
  | fault p m => simp! [if_true]; rfl
  | okk m => simp! [if_true]; rfl
theorem A0 {α : Type} {t : Tg} {e : FE} {ρ : Ev} {S : aO} {f g : α -> D} : ∀ {xs : List α}, (∀ x ∈ xs, ∃ ρ1, pE t (.dat (f x)) ρ = some ρ1 /\ e ρ1 S = .ok (.dat (g x)) S) -> jO t hY e ρ (xs.map f) S = .ok (xs.map g) S
 | [], _ => rfl
 | x :: xs, h => by
  obtain ⟨ρ1, h1, h2⟩ := h x (aV ..);have ih := A0 (xs := xs) fun y hy => h y (aK _ hy)
  rw [aM, jO];simp only [h1, KF, h2, if_true, ih, aM]
theorem gS {α : Type} {cl : Bool} {t : Tg} {e : FE} {ρ : Ev} {S : aO} {f g : α -> D} {xs : List α} {vs : List Nat} (hl : xs.length <= sizeLine) (h : ∀ x ∈ xs, ∃ ρ1, pE t (.dat (f x)) (wipeE ρ vs) = some ρ1 /\ e ρ1 S = .ok (.dat (g x)) S) : A3 cl t hY e ρ vs (xs.map f) S = newL cl (xs.map g) S := by
 unfold A3;rw [aP, if_pos hl, A0 h]
theorem qO : ∀ l : List Stt, bP l = l.map Stt.d
 | [] => rfl
 | s :: r => by rw [bP, qO r]; rfl
theorem BD {many : Int} {s : Stt} {k : Nat} (h : s.Ok many k) : ∀ b ∈ s.blocks, 0 < k /\ OkL many b (k - 1) := by
 intro b hb;cases s with
 | cmd c => cases hb
 | fin w => cases hb
 | bad => cases hb
 | odd x => cases hb
 | keep x => simp [Stt.blocks] at hb; subst hb; exact h
 | again x => simp [Stt.blocks] at hb; subst hb; exact h
 | either x y => simp [Stt.blocks] at hb; rcases hb with rfl | rfl; exact ⟨h.1, h.2.1⟩; exact ⟨h.1, h.2.2⟩
 | call g f x y => simp [Stt.blocks] at hb; rcases hb with rfl | rfl; exact ⟨h.1.1, h.2.1⟩; exact ⟨h.1.1, h.2.2⟩
theorem OkL.mem {many : Int} : ∀ {l : List Stt} {k : Nat}, OkL many l k -> ∀ s ∈ l, s.Ok many k
 | [], _, _, s, hs => by cases hs
 | x :: r, k, h, s, hs => by
  rcases bJ.mp hs with rfl | hs
  ·exact h.1.1
  ·exact OkL.mem h.2 s hs
theorem DR {s : Stt} : s.blocks.length <= 2 := by cases s <;> simp [Stt.blocks]
def Vb (n : Nat) : Prop := (∀ {S : aO} {many : Int} {s : Stt} {k : Nat}, s.Ok many k -> 2 * k + 1 <= n -> iH n [.dat s.d] S = .ok (.dat s.d) S) /\ ∀ {S : aO} {many : Int} {l : List Stt} {k : Nat}, OkL many l k -> 2 * k + 2 <= n -> eW n [.dat (.lst (bP l))] S = .ok (.dat (.lst (bP l))) S
theorem Rr (n : Nat) : Vb n := by
 induction n with
 | zero => exact ⟨fun _ h => by omega, fun _ h => by omega⟩
 | succ n ih =>
  constructor
  ·intro S many s k h hn
   rw [show iH (n + 1) [.dat s.d] S = cF (iP (eW n) [some (.dat s.d), none] S) from rfl]
   unfold iP;simp! [wZ h.no];rw [show bls s.blocks = s.blocks.map (fun b => .lst (bP b)) from rfl, gS (g := fun b => .lst (bP b)) (sz (by have := DR (s := s); omega)) fun b hb => ⟨_, rfl, ?_⟩]
   ·simp! [show s.blocks.map (fun b => D.lst (bP b)) = bls s.blocks from rfl, GL h.no]
    rfl
   ·obtain ⟨h1, h2⟩ := BD h b hb
    simp! [ih.2 h2 (by omega)]
  ·intro S many l k h hn
   rw [show eW (n + 1) [.dat (.lst (bP l))] S = cF (mZ (iH n) [some (.dat (.lst (bP l))), none] S) from rfl]
   unfold mZ;simp! [qO];rw [gS (g := Stt.d) (sz (by have := h.len; omega)) fun s hs => ⟨_, rfl, ?_⟩]
   ·rfl
   ·simp! [ih.1 (h.mem s hs) (by omega)]
theorem Pf {s : Stt} {S : aO} (ho : s.isOdd = false) : tU [.dat s.d] S = .ok (.dat (.lst (bls s.blocks))) S := by
 rw [show tU [.dat s.d] S = cF (uM [some (.dat s.d), none] S) from rfl]
 unfold uM;cases s with
 | cmd c => cases c <;> (simp! [Stt.d, Cmd.d, cO, wJ, A3, jO, pE, sz]; rfl)
 | fin w => simp! [Stt.d, cO, wJ, A3, jO, pE, sz]; rfl
 | keep b => simp! [Stt.d, cO, wJ, A3, jO, pE, sz]; rfl
 | again b => simp! [Stt.d, cO, wJ, A3, jO, pE, sz]; rfl
 | either a b => simp! [Stt.d, cO, wJ, A3, jO, pE, sz]; rfl
 | call g s a b => simp! [Stt.d, cO, Iy]; rfl
 | bad => simp! [Stt.d, cO, wJ, A3, jO, pE, sz]; rfl
 | odd x => cases ho
theorem cut_3 {a b c d : D} : cutD [a, b, c, d] none (some 3) = [a, b, c] := rfl
theorem VX {s : Stt} {S : aO} (ho : s.isOdd = false) : zP [.dat s.d, .dat (.lst (bls s.blocks))] S = .ok (.dat s.d) S := by
 rw [show zP [.dat s.d, .dat (.lst (bls s.blocks))] S = cF (AL [some (.dat s.d), some (.dat (.lst (bls s.blocks)))] S) from rfl]
 unfold AL;cases s with
 | cmd c => cases c <;> (simp! [Stt.d, Cmd.d, Stt.blocks, bls, bI, cO]; rfl)
 | fin w => simp! [Stt.d, Stt.blocks, bls, bI, cO]; rfl
 | keep b => simp! [Stt.d, Stt.blocks, bls, aM, bI, cO]; rfl
 | again b => simp! [Stt.d, Stt.blocks, bls, aM, bI, cO]; rfl
 | either a b => simp! [Stt.d, Stt.blocks, bls, aM, bI, cO]; rfl
 | call g s a b => simp! [Stt.d, Stt.blocks, bls, aM, bI, cO, cut_3]; rfl
 | bad => simp! [Stt.d, Stt.blocks, bls, bI, cO]; rfl
 | odd x => cases ho
theorem VY {many : Int} (n : Nat) : ∀ {S : aO} {l : List Stt} {k : Nat}, OkL many l k -> k + 1 <= n -> sR n [.dat (.lst (bP l))] S = .ok (.dat (.lst (bP l))) S := by
 induction n with
 | zero => intro S l k h hn; omega
 | succ n ih =>
  intro S l k h hn;rw [show sR (n + 1) [.dat (.lst (bP l))] S = cF (AS (sR n) [some (.dat (.lst (bP l))), none, none] S) from rfl]
  unfold AS;simp! [qO];rw [gS (g := Stt.d) (sz (by have := h.len; omega)) fun s hs => ⟨_, rfl, ?_⟩]
  ·rfl
  ·unfold yI
   simp! [Pf (h.mem s hs).no];rw [show bls s.blocks = s.blocks.map (fun b => .lst (bP b)) from rfl, gS (g := fun b => .lst (bP b)) (sz (by have := DR (s := s); omega)) fun b hb => ⟨_, rfl, ?_⟩]
   ·simp! [show s.blocks.map (fun b => D.lst (bP b)) = bls s.blocks from rfl, VX (h.mem s hs).no]
   ·obtain ⟨h1, h2⟩ := BD (h.mem s hs) b hb
    simp! [ih h2 (by omega)]
theorem Pe {many : Int} {bs : List (List Stt)} {S : aO} {k : Nat} (hb : ∀ b ∈ bs, OkL many b k) (hk : k <= 9) (hl : bs.length <= 10) : tT [.dat (.lst (bls bs))] S = .ok (.dat (.lst (bls bs))) S := by
 rw [show tT [.dat (.lst (bls bs))] S = cF (uL [some (.dat (.lst (bls bs))), none] S) from rfl]
 unfold uL;simp! [if_true];rw [show bls bs = bs.map (fun b => .lst (bP b)) from rfl, gS (g := fun b => .lst (bP b)) (sz (by omega)) fun b hb' => ⟨_, rfl, ?_⟩]
 ·rfl
 ·simp! [VY 10 (hb b hb') (by omega)]
def AH (p : Int) : List (List Stt) -> Option (Int × List Int)
 | [] => none
 | b :: r => match wX 0 [] 0 b 0 with
  | .fault q _ => some (p, q)
  | .okk _ => AH (p + 1) r
def Ig (i : Int) (q : List Int) : Er := ⟨"NoBook", ["path", "procedure"], [tupI q, .int i]⟩
theorem Eg {S : aO} {many : Int} {k : Nat} {a : Option Vl} {bs0 : List D} (hm : many = (bs0.length : Int)) : ∀ (bs : List (List Stt)) (p : Nat), (∀ b ∈ bs, OkL many b k) ->
  match AH (p : Nat) bs with
  | none => loop (.tp [2, 3]) eC (eG p (bls bs)) [a, some (.dat (.lst bs0)), none, none, none, none] S = .next [a, some (.dat (.lst bs0)), none, none, none, none] S
  | some (i, q) => ∃ ρ', loop (.tp [2, 3]) eC (eG p (bls bs)) [a, some (.dat (.lst bs0)), none, none, none, none] S = .err (Ig i q) ρ' S
 | [], p, _ => rfl
 | b :: r, p, h => by
  have ih := Eg (S := S) (k := k) (a := a) hm r (p + 1) fun b hb => h b (aK _ hb)
  have hb := h b (aV ..);have e1 : dO 10 [.dat (.lst (bP b)), .dat (.int 0), .dat (.int (bs0.length : Int)), .dat (.tup []), .dat (.int 0)] S = .ok (.dat (wX 0 [] 0 b 0).d) S := by
   rw [<- hm];exact Oo 10 (path := []) hb.x (by omega) (by omega) (by simp) (by simp)
  have el : loop (.tp [2, 3]) eC (eG p (bls (b :: r))) [a, some (.dat (.lst bs0)), none, none, none, none] S = (match eC [a, some (.dat (.lst bs0)), some (.dat (.int (p : Nat))), some (.dat (.lst (bP b))), none, none] S with
   | .next ρ2 S2 => loop (.tp [2, 3]) eC (eG (p + 1) (bls r)) ρ2 S2
   | .cnt ρ2 S2 => loop (.tp [2, 3]) eC (eG (p + 1) (bls r)) ρ2 S2
   | .brk ρ2 S2 => .next ρ2 S2
   | .ret d S2 => .ret d S2
   | .err e ρ2 S2 => .err e ρ2 S2
   | .stuck => .stuck) := rfl
  rw [el, eC];simp! [e1];rw [AH];cases q : wX 0 [] 0 b 0 with
  | fault pp mm =>
   simp! [FR.d, Hb];exact ⟨_, rfl⟩
  | okk mm =>
   simp! [FR.d, Hb];rw [<- eC];exact ih
def gP (bs : List (List Stt)) : D := .ins "Book" ["own"] [.lst (bls bs)]
theorem Nc {d : Vl} : ∀ {ρ : Ev} {i : Nat}, i < ρ.length -> lk (ρ.set i (some d)) i = some d
 | [], i, h => by simp at h
 | x :: r, 0, h => rfl
 | x :: r, i + 1, h => Nc (ρ := r) (by simpa using h)
theorem Kk {ρ : Ev} {i : Nat} : (wipeE ρ [i]).length = ρ.length := by simp [wipeE]
theorem xP {cl : Bool} {S : aO} {many : Int} {k i : Nat} {bs : List (List Stt)} {ρ : Ev} (hb : ∀ b ∈ bs, OkL many b k) (hk : k <= 9) (hl : bs.length <= 10) (h : i < ρ.length) : A3 cl (.nm i) hY (bA (eW 20) (aB (aC i) aJ)) ρ [i] (bls bs) S = newL cl (bls bs) S := by
 rw [show bls bs = bs.map (fun b => .lst (bP b)) from rfl, gS (g := fun b => .lst (bP b)) (sz (by omega)) fun b hb' => ?_]
 have e2 := Nc (d := .dat (.lst (bP b))) (ρ := wipeE ρ [i]) (i := i) (by rw [Kk]; exact h)
 refine ⟨(wipeE ρ [i]).set i (some (.dat (.lst (bP b)))), rfl, ?_⟩
 simp (config := { implicitDefEqProofs := false }) only [JJ, JH, T7, e2, eL, Ft, OG, Fs];exact (Rr 20).2 (hb b hb') (by omega)
theorem Qq {S : aO} {many : Int} {k n : Nat} {bs : List (List Stt)} (hb : ∀ b ∈ bs, OkL many b k) (hk : k <= 9) (hm : many = (bs.length : Int)) (h1 : 1 <= bs.length) (h3 : bs.length <= 3) (hn : S[n]? = some (.ins "Book" [])) :
  lP [.cel n, .dat (.lst (bls bs))] S = match AH 0 bs with
   | none => .ok (.dat .non) (S.set n (.ins "Book" [("own", .dat (.lst (bls bs)))]))
   | some (i, q) => .err (Ig i q) S := by
 rw [show lP [.cel n, .dat (.lst (bls bs))] S = cF (rP [some (.cel n), some (.dat (.lst (bls bs))), none, none, none, none] S) from rfl]
 unfold rP;have hl : (bls bs).length = bs.length := by simp [bls]
 have e := Eg (S := S) (a := some (.cel n)) (bs0 := bls bs) (by rw [hl]; exact hm) bs 0 hb
 rw [mR] at e;simp! [hl, decide_eq_true (show (1 : Int) <= (bs.length : Int) by omega), decide_eq_true (show (bs.length : Int) <= 3 by omega)]
 cases q : AH 0 bs with
 | none =>
  rw [q] at e;simp! [e, xP hb hk (show bs.length <= 10 by omega), Cy hn (by simp)]
  rfl
 | some x =>
  obtain ⟨i, p⟩ := x;rw [q] at e;obtain ⟨ρ', e⟩ := e;simp! [e];rfl
theorem Nf {S : aO} {bs : List (List Stt)} (hl : bs.length <= 10) : En "Book" qG (.dat (gP bs)) S = .ok (.dat (.int (bs.length : Int))) S := by
 have e : qG [.dat (gP bs)] S = .ok (.dat (.int (bs.length : Int))) S := by
  rw [show qG [.dat (gP bs)] S = cF (uO [some (.dat (gP bs))] S) from rfl]
  unfold uO gP;simp! [sG, eY];simp [bls];rfl
 rw [En, if_pos (by simp [pH, gP, FQ]), e, UJ, if_pos (by omega)]
theorem FF {S : aO} {many : Int} {k : Nat} {bs : List (List Stt)} (hb : ∀ b ∈ bs, OkL many b k) (hk : k <= 9) (hl : bs.length <= 10) : kS [.dat (gP bs)] S = .ok (.dat (.lst (bls bs))) S := by
 rw [show kS [.dat (gP bs)] S = cF (oE [some (.dat (gP bs)), none] S) from rfl]
 unfold oE gP;simp! [sG, eY, xP hb hk hl];rfl
theorem QZ {S : aO} {many : Int} {k : Nat} {bs : List (List Stt)} (ls : LS S) (hb : ∀ b ∈ bs, OkL many b k) (hk : k <= 9) (hm : many = (bs.length : Int)) (h1 : 1 <= bs.length) (h3 : bs.length <= 3) :
  Ee false "Book" lP [.dat (.lst (bls bs))] S = match AH 0 bs with
   | none => .ok (.dat (gP bs)) S
   | some (i, q) => .err (Ig i q) S := by
 have t : ((S ++ [Cell.ins "Book" []]).take S.length) = S := by simp
 have ls' := ls.take (n := S.length) (m := S.length);rw [List.take_length] at ls';unfold Ee;rw [Qq hb hk hm h1 h3 (by simp)]
 cases q : AH 0 bs with
 | none =>
  dsimp only [made];rw [dM _ _ (bX _), Nat.sub_self];simp [FJ, gP, ls']
 | some x =>
  obtain ⟨i, p⟩ := x;dsimp only [made];rw [t, if_pos ls']
end PH
namespace PH
open PySem PySem.Spec PyProof PyProof.Rows L2
mutual
/-- the height -/
def D.ht : D -> Nat
 | .lst xs => D.hts xs + 1
 | .tup xs => D.hts xs + 1
 | _ => 0
def D.hts : List D -> Nat
 | [] => 0
 | x :: r => max (D.ht x) (D.hts r)
end
mutual
/-- no instances, no dicts; texts that may be compared -/
def D.Pl : D -> Prop
 | .lst xs => xs.length <= 1000 /\ D.Pls xs
 | .tup xs => xs.length <= 1000 /\ D.Pls xs
 | .str x => PyData.strOk x = true
 | .ins _ _ _ => False
 | .dct => False
 | .opq _ => False
 | _ => True
def D.Pls : List D -> Prop
 | [] => True
 | x :: r => D.Pl x /\ D.Pls r
end
mutual
theorem Sj : ∀ d : D, d.Pl -> ∃ p, d.py = some p /\ p.canLay0 = true /\ p.depth = d.ht
 | .non, _ => ⟨_, rfl, rfl, rfl⟩
 | .bl b, _ => ⟨_, rfl, rfl, rfl⟩
 | .int i, _ => ⟨_, rfl, rfl, rfl⟩
 | .str x, h => ⟨_, rfl, h, rfl⟩
 | .lst xs, h => by
  obtain ⟨ps, e1, e2, e3⟩ := IX xs h.2;refine ⟨.list ps, ?_, e2, ?_⟩
  ·simp only [D.py, e1]
  ·simp only [PyData.depth, D.ht, e3]
 | .tup xs, h => by
  obtain ⟨ps, e1, e2, e3⟩ := IX xs h.2;refine ⟨.tuple ps, ?_, e2, ?_⟩
  ·simp only [D.py, e1]
  ·simp only [PyData.depth, D.ht, e3]
 | .ins _ _ _, h => h.elim
 | .dct, h => h.elim
 | .opq _, h => h.elim
theorem IX : ∀ ds : List D, D.Pls ds -> ∃ ps, D.pys ds = some ps /\ PyData.canLayAll0 ps = true /\ PyData.depthAll ps = D.hts ds
 | [], _ => ⟨_, rfl, rfl, rfl⟩
 | d :: r, h => by
  obtain ⟨p, e1, e2, e3⟩ := Sj d h.1;obtain ⟨ps, f1, f2, f3⟩ := IX r h.2;refine ⟨p :: ps, ?_, ?_, ?_⟩
  ·simp only [D.pys, e1, f1]
  ·simp only [PyData.canLayAll0, e2, f2, Bool.and_self]
  ·simp only [PyData.depthAll, D.hts, e3, f3]
end
mutual
theorem Stt.plain {many : Int} : ∀ (s : Stt) (k : Nat), s.Ok many k -> s.d.Pl /\ s.d.ht <= 3 * k + 1
 | .cmd c, k, h => by cases c <;> exact ⟨⟨by simp, by simp only [D.Pl, D.Pls, and_true]; decide +kernel⟩, by simp [Stt.d, Cmd.d, D.ht, D.hts]⟩
 | .fin w, k, h => ⟨⟨by simp, by simp only [D.Pl, D.Pls, and_true]; decide +kernel⟩, by simp [Stt.d, D.ht, D.hts]⟩
 | .bad, k, h => ⟨⟨by simp, by simp only [D.Pl, D.Pls, and_true]; decide +kernel⟩, by simp [Stt.d, D.ht, D.hts]⟩
 | .odd x, k, h => h.elim
 | .keep b, k, h => by
  obtain ⟨h1, h2⟩ := iO b (k - 1) h.2;have l1 := h.2.len;have := h.1;exact ⟨⟨by simp, by show PyData.strOk _ = true; decide +kernel, ⟨by rw [cY]; omega, h1⟩, trivial⟩, by simp [Stt.d, D.ht, D.hts]; omega⟩
 | .again b, k, h => by
  obtain ⟨h1, h2⟩ := iO b (k - 1) h.2;have l1 := h.2.len;have := h.1;exact ⟨⟨by simp, by show PyData.strOk _ = true; decide +kernel, ⟨by rw [cY]; omega, h1⟩, trivial⟩, by simp [Stt.d, D.ht, D.hts]; omega⟩
 | .either a b, k, h => by
  obtain ⟨h1, h2⟩ := iO a (k - 1) h.2.1;obtain ⟨h3, h4⟩ := iO b (k - 1) h.2.2;have l1 := h.2.1.len;have l2 := h.2.2.len;have := h.1;exact ⟨⟨by simp, by show PyData.strOk _ = true; decide +kernel, ⟨by rw [cY]; omega, h1⟩, ⟨by rw [cY]; omega, h3⟩, trivial⟩, by simp [Stt.d, D.ht, D.hts]; omega⟩
 | .call g f a b, k, h => by
  obtain ⟨h1, h2⟩ := iO a (k - 1) h.2.1;obtain ⟨h3, h4⟩ := iO b (k - 1) h.2.2;have l1 := h.2.1.len;have l2 := h.2.2.len;have := h.1.1;exact ⟨⟨by simp, by show PyData.strOk _ = true; decide +kernel, trivial, trivial, ⟨by simp, ⟨by rw [cY]; omega, h1⟩, ⟨by rw [cY]; omega, h3⟩, trivial⟩, trivial⟩, by simp [Stt.d, D.ht, D.hts]; omega⟩
theorem iO {many : Int} : ∀ (l : List Stt) (k : Nat), OkL many l k -> D.Pls (bP l) /\ D.hts (bP l) <= 3 * k + 1
 | [], k, _ => ⟨trivial, by simp [bP, D.hts]⟩
 | s :: r, k, h => by
  obtain ⟨h1, h2⟩ := Stt.plain s k h.1.1;obtain ⟨h3, h4⟩ := iO r k h.2;exact ⟨⟨h1, h3⟩, by simp [bP, D.hts]; omega⟩
end
theorem J8 : ∀ {xs : List D} {x : D}, x ∈ xs -> x.ht <= D.hts xs
 | y :: r, x, h => by
  rcases bJ.mp h with rfl | h
  ·simp [D.hts]; omega
  ·have := J8 h; simp [D.hts]; omega
theorem IY : ∀ {xs : List D} {x : D}, D.Pls xs -> x ∈ xs -> x.Pl
 | y :: r, x, hp, h => by
  rcases bJ.mp h with rfl | h
  ·exact hp.1
  ·exact IY hp.2 h
theorem all_true {α : Type} {S : aO} (xs : List α) : DD (.dat (.lst (xs.map fun _ => D.bl true))) S = .ok (.dat (.bl true)) S := by
 have : ∀ xs : List α, DU (xs.map fun _ => D.bl true) = some (xs.map fun _ => true) := fun xs => by
  induction xs with
  | nil => rfl
  | cons x r ih => simp only [aM, DU, ih]
 simp only [DD, oW, this]
 congr 3
 simp
theorem Re {S : aO} : eV (.dat .non) (.dat .non) S = .ok (.dat (.bl true)) S := by
 show (if shp .none .none = true then Res.ok (Vl.dat (D.bl (PyData.eqv .none .none))) S else .stuck) = _
 rw [if_pos (by decide +kernel)]
 rfl
theorem Bl {n : Nat} {xs : List D} {S : aO} {f : FD} {i : Nat} {x y : D} (hx : xs[i]? = some x) (ex : bW (.dat y) (.dat (.int (0 + (i : Int)))) S = .ok (.dat x) S) (h : f [.dat x, .dat x] S = .ok (.dat (.bl true)) S) : uG f [some (.dat y), some (.dat y), some (.dat (.int (0 + (i : Int))))] S = .ok (.dat (.bl true)) S := by
 unfold uG;simp! [ex, h]
theorem QB (n : Nat) : ∀ {S : aO} {d : D}, d.Pl -> d.ht < n -> dU n [.dat d, .dat d] S = .ok (.dat (.bl true)) S := by
 induction n with
 | zero => intro S d _ h; omega
 | succ n ih =>
  intro S d hp hd;rw [show dU (n + 1) [.dat d, .dat d] S = cF (iX (dU n) [some (.dat d), some (.dat d), none] S) from rfl]
  unfold iX;cases d with
  | non => simp! [Re]; rfl
  | bl b => simp! [if_true]; rfl
  | int i => simp! [if_true]; rfl
  | str x => simp! [if_true]; rfl
  | ins _ _ _ => exact hp.elim
  | dct => exact hp.elim
  | opq _ => exact hp.elim
  | lst xs =>
   have hl := hp.1;simp! [gT (show -(2 ^ 62) <= (xs.length : Int) by omega) (show (xs.length : Int) < 2 ^ 62 by omega), gK, gX]
   rw [gS (g := fun _ => D.bl true) (sz (by simp; omega)) fun i hi => ⟨_, rfl, ?_⟩]
   ·simp! [if_true]
    rw [all_true];rfl
   ·have hi' : i < xs.length := dR.mp hi
    have hx : xs[i]? = some xs[i] := bO hi';have hm : xs[i] ∈ xs := fW hi';have := J8 hm;have hd' : D.hts xs + 1 < n + 1 := hd;exact Bl (n := n) hx (rD (by rw [eX (n := i) (by omega), hx])) (ih (IY hp.2 hm) (by omega))
  | tup xs =>
   have hl := hp.1;simp! [gT (show -(2 ^ 62) <= (xs.length : Int) by omega) (show (xs.length : Int) < 2 ^ 62 by omega), gK, gX]
   rw [gS (g := fun _ => D.bl true) (sz (by simp; omega)) fun i hi => ⟨_, rfl, ?_⟩]
   ·simp! [if_true]
    rw [all_true];rfl
   ·have hi' : i < xs.length := dR.mp hi
    have hx : xs[i]? = some xs[i] := bO hi';have hm : xs[i] ∈ xs := fW hi';have := J8 hm;have hd' : D.hts xs + 1 < n + 1 := hd;exact Bl (n := n) hx (Cz (by rw [eX (n := i) (by omega), hx])) (ih (IY hp.2 hm) (by omega))
theorem oG {lo : Int} {n : Nat} : gK lo (n + 1) = .int lo :: gK (lo + 1) n := by
 unfold gK;rw [List.range_succ_eq_map, aM, jD]
 congr 1
 ·simp
 ·apply iE
  intro k _;simp only [Function.comp]
  congr 1
  omega
abbrev rm (S : aO) (q : Nat) (m : Int) : aO := S.set q (.lst [.int m])
theorem rL {bs : List (List Stt)} : (bls bs).length = bs.length := by simp [bls]
theorem P5 {ns : List Int} {lo hi : Option Int} : ∃ ms : List Int, cutD (ns.map D.int) lo hi = ms.map D.int /\ ms.length <= ns.length := by
 refine ⟨(ns.drop (HT.sIx (ns.map D.int).length 0 lo)).take (HT.sIx (ns.map D.int).length (ns.map D.int).length hi - HT.sIx (ns.map D.int).length 0 lo), ?_, ?_⟩
 ·simp only [cutD, IJ, List.map_drop]
 ·simp; omega
theorem QK {ns : List Int} {S : aO} (hn : ns.length <= 63) : ∃ ks : List Int, zQ [.scr ns] S = .ok (.cel S.length) (S ++ [PL ks]) /\ 2 <= ks.length := by
 obtain ⟨ms, e, hl⟩ := P5 (ns := ns) (lo := none) (hi := some 63);rw [show zQ [.scr ns] S = cF (AM [some (.scr ns), none] S) from rfl]
 unfold AM;simp! [e];rw [gS (g := D.int) (sz (by omega)) fun i hi => ⟨_, rfl, ?_⟩]
 ·cases ms with
  | nil =>
   refine ⟨[0, 0], ?_, by simp⟩
   simp! [bI, List.isEmpty_nil, gL (show [D.int 0].length + [D.int 0].length <= sizeLine from sz (by simp))]
   rfl
  | cons i r =>
   refine ⟨0 :: i :: r, ?_, by simp⟩
   simp! [aM, List.isEmpty_cons, gL (show [D.int 0].length + (D.int i :: r.map D.int).length <= sizeLine from sz (by simp at *; omega))]
   rfl
 ·simp! [if_true]
theorem TZ {T : aO} {d : D} : trunc 0 (.ok (.dat d) T) = .ok (.dat d) [] := by simp [trunc, Vl.below]
theorem FG {many : Int} : ∀ {bs : List (List Stt)} {k : Nat}, (∀ b ∈ bs, OkL many b k) -> D.Pls (bls bs) /\ D.hts (bls bs) <= 3 * k + 2
 | [], k, _ => ⟨trivial, by simp [bls, D.hts]⟩
 | b :: r, k, h => by
  obtain ⟨h1, h2⟩ := FG (bs := r) (k := k) fun b hb => h b (aK _ hb)
  have hb := h b (aV ..);obtain ⟨h3, h4⟩ := iO b k hb;have := hb.len;refine ⟨⟨⟨by rw [cY]; omega, h3⟩, h1⟩, ?_⟩
  simp only [bls] at h2;simp only [bls, aM, D.hts, D.ht];omega
structure Dr (p q c N : Nat) (many : Int) (S : aO) (r l : Int) : Prop where
 ls : LS S
 n2 : 2 <= N
 pool : ∃ ks, S[p]? = some (PL ks) /\ ks.length = N
 room : S[q]? = some (PL [r])
 call : S[c]? = some (PL [l, many])
 pq : p ≠ q
 pc : p ≠ c
 qc : q ≠ c
def Sam (Z : List Nat) (S S' : aO) : Prop := S'.length = S.length /\ ∀ i : Nat, i ∉ Z -> S'[i]? = S[i]?
theorem Sam.refl {Z : List Nat} {S : aO} : Sam Z S S := ⟨rfl, fun _ _ => rfl⟩
theorem Sam.trans {Z : List Nat} {S S1 S2 : aO} (a : Sam Z S S1) (b : Sam Z S1 S2) : Sam Z S S2 := ⟨by rw [b.1, a.1], fun i h => by rw [b.2 i h, a.2 i h]⟩
theorem Sam.set {Z : List Nat} {S : aO} {k : Nat} {x : Cell} (h : k ∈ Z) : Sam Z S (S.set k x) := ⟨by simp, fun i hi => by
 rw [aW, if_neg (show ¬ k = i from fun e => hi (by rw [<- e]; exact h))]⟩
section
variable {p q c N : Nat} {many r l : Int} {S : aO}
theorem nJ {S : aO} {i j : Nat} {x : Cell} (h : i ≠ j) : (S.set i x)[j]? = S[j]? := by rw [aW, if_neg h]
theorem Dr.setp {ks : List Int} (D : Dr p q c N many S r l) (h : ks.length = N) : Dr p q c N many (S.set p (PL ks)) r l := by
 obtain ⟨k0, h0, _⟩ := D.pool;exact ⟨D.ls.set, D.n2, ⟨ks, tJ h0, h⟩, by rw [nJ D.pq]; exact D.room, by rw [nJ D.pc]; exact D.call, D.pq, D.pc, D.qc⟩
theorem Dr.setq {r' : Int} (D : Dr p q c N many S r l) : Dr p q c N many (S.set q (PL [r'])) r' l := by
 obtain ⟨k0, h0, h1⟩ := D.pool;exact ⟨D.ls.set, D.n2, ⟨k0, by rw [nJ (Ne.symm D.pq)]; exact h0, h1⟩, tJ D.room, by rw [nJ D.qc]; exact D.call, D.pq, D.pc, D.qc⟩
theorem Dr.setc {l' : Int} (D : Dr p q c N many S r l) : Dr p q c N many (S.set c (PL [l', many])) r l' := by
 obtain ⟨k0, h0, h1⟩ := D.pool;exact ⟨D.ls.set, D.n2, ⟨k0, by rw [nJ (Ne.symm D.pc)]; exact h0, h1⟩, by rw [nJ (Ne.symm D.qc)]; exact D.room, tJ D.call, D.pq, D.pc, D.qc⟩
theorem Dr.draw {k : Int} (D : Dr p q c N many S r l) (h0 : 0 < k) (h1 : k < 1073741824) : ∃ (d : Int) (S' : aO), cG [.cel p, .dat (.int k)] S = .ok (.dat (.int d)) S' /\ 0 <= d /\ d < k /\ Dr p q c N many S' r l /\ Sam [p, q, c] S S' := by
 obtain ⟨ks, hk, hl⟩ := D.pool;obtain ⟨d, ks', e, h2, h3, l⟩ := fL (S := S) (p := p) (ks := ks) ⟨hk, by rw [hl]; exact D.n2⟩ h0 h1
 exact ⟨d, _, e, h2, h3, D.setp (by omega), Sam.set (by simp)⟩
theorem Dr.ixq (D : Dr p q c N many S r l) : bW (.cel q) (.dat (.int 0)) S = .ok (.dat (.int r)) S := nX (k := 0) (n := 0) D.room rfl rfl
theorem Dr.ixc0 (D : Dr p q c N many S r l) : bW (.cel c) (.dat (.int 0)) S = .ok (.dat (.int l)) S := nX (k := 0) (n := 0) D.call rfl rfl
theorem Dr.ixc1 (D : Dr p q c N many S r l) : bW (.cel c) (.dat (.int 1)) S = .ok (.dat (.int many)) S := nX (k := 1) (n := 1) D.call rfl rfl
theorem Dr.augq {w : Int} {g : Int -> Int -> Int} {o i e : FE} {ρ : Ev} (D : Dr p q c N many S r l) (ho : o ρ S = .ok (.cel q) S) (hi : i ρ S = .ok (.dat (.int 0)) S) (he : e ρ S = .ok (.dat (.int w)) S) : kT g o i e ρ S = .next ρ (S.set q (PL [g r w])) := AX (k := 0) (n := 0) ho hi he D.room rfl rfl
theorem Dr.augc {w : Int} {g : Int -> Int -> Int} {o i e : FE} {ρ : Ev} (D : Dr p q c N many S r l) (ho : o ρ S = .ok (.cel c) S) (hi : i ρ S = .ok (.dat (.int 0)) S) (he : e ρ S = .ok (.dat (.int w)) S) : kT g o i e ρ S = .next ρ (S.set c (PL [g l w, many])) := AX (k := 0) (n := 0) ho hi he D.call rfl rfl
end
section
variable {S : aO} {cl : Bool} {a b c d e f g h i j : D}
theorem kLst4 : Dl cl [.dat a, .dat b, .dat c, .dat d] S = newL cl [a, b, c, d] S := rfl
theorem kLst5 : Dl cl [.dat a, .dat b, .dat c, .dat d, .dat e] S = newL cl [a, b, c, d, e] S := rfl
theorem kLst9 : Dl cl [.dat a, .dat b, .dat c, .dat d, .dat e, .dat f, .dat g, .dat h, .dat i] S = newL cl [a, b, c, d, e, f, g, h, i] S := rfl
theorem kTup8 : kTup [.dat a, .dat b, .dat c, .dat d, .dat e, .dat f, .dat g, .dat h] S = .ok (.dat (.tup [a, b, c, d, e, f, g, h])) S := rfl
end
def menus : List (List Int) := [[0, 0, 0, 1, 1], [0, 0, 2, 3, 1], [0, 6, 7, 8, 8], [0, 4, 5, 6, 7], [0, 1, 3, 6, 8], [0, 1, 2, 3, 4, 5, 6, 7, 8], [1, 1, 2, 3, 4], [5, 6, 7, 8, 8]]
def NW : List D := menus.map fun ks => .lst (ks.map D.int)
theorem QX {mood : Int} {S : aO} (h0 : 0 <= mood) (h1 : mood <= 7) : ∃ ks : List Int, bW (.dat (.lst NW)) (.dat (.int mood)) S = .ok (.dat (.lst (ks.map D.int))) S /\ 0 < ks.length /\ ks.length <= 9 /\ ∀ k ∈ ks, 0 <= k /\ k <= 8 := by
 rcases (by omega : mood = 0 \/ mood = 1 \/ mood = 2 \/ mood = 3 \/ mood = 4 \/ mood = 5 \/ mood = 6 \/ mood = 7) with rfl | rfl | rfl | rfl | rfl | rfl | rfl | rfl
 ·exact ⟨[0, 0, 0, 1, 1], rfl, by decide, by decide, by decide⟩
 ·exact ⟨[0, 0, 2, 3, 1], rfl, by decide, by decide, by decide⟩
 ·exact ⟨[0, 6, 7, 8, 8], rfl, by decide, by decide, by decide⟩
 ·exact ⟨[0, 4, 5, 6, 7], rfl, by decide, by decide, by decide⟩
 ·exact ⟨[0, 1, 3, 6, 8], rfl, by decide, by decide, by decide⟩
 ·exact ⟨[0, 1, 2, 3, 4, 5, 6, 7, 8], rfl, by decide, by decide, by decide⟩
 ·exact ⟨[1, 1, 2, 3, 4], rfl, by decide, by decide, by decide⟩
 ·exact ⟨[5, 6, 7, 8, 8], rfl, by decide, by decide, by decide⟩
theorem Qk {ks : List Int} {d : Int} {S : aO} (h0 : 0 <= d) (h1 : d < (ks.length : Int)) : ∃ k ∈ ks, bW (.dat (.lst (ks.map D.int))) (.dat (.int d)) S = .ok (.dat (.int k)) S := by
 have hd : d.toNat < ks.length := by omega
 refine ⟨ks[d.toNat], fW hd, rD ?_⟩
 rw [eX (n := d.toNat) (by omega)]
 simp [hd]
theorem Nx {d : Int} {S : aO} (h0 : 0 <= d) (h1 : d < 8) : ∃ k : Int, bW (.dat (.tup [.int (-1), .int (-1), .int (-1), .int 1, .int 1, .int 0, .int 2, .int (-3)])) (.dat (.int d)) S = .ok (.dat (.int k)) S /\ -3 <= k /\ k <= 3 := by
 rcases (by omega : d = 0 \/ d = 1 \/ d = 2 \/ d = 3 \/ d = 4 \/ d = 5 \/ d = 6 \/ d = 7) with rfl | rfl | rfl | rfl | rfl | rfl | rfl | rfl
 ·exact ⟨-1, rfl, by decide, by decide⟩
 ·exact ⟨-1, rfl, by decide, by decide⟩
 ·exact ⟨-1, rfl, by decide, by decide⟩
 ·exact ⟨1, rfl, by decide, by decide⟩
 ·exact ⟨1, rfl, by decide, by decide⟩
 ·exact ⟨0, rfl, by decide, by decide⟩
 ·exact ⟨2, rfl, by decide, by decide⟩
 ·exact ⟨-3, rfl, by decide, by decide⟩
theorem UU {d a : Int} {S : aO} (h0 : 0 <= d) (h1 : d < 4) (ha : -9 <= a) (hb : a <= 9) : ∃ k : Int, bW (.dat (.lst [.int a, .int 2, .int (a % 3 - 1), .int 1])) (.dat (.int d)) S = .ok (.dat (.int k)) S /\ -9 <= k /\ k <= 9 := by
 have := dZ a (show (3 : Int) ≠ 0 by decide)
 have := eB a (show (0 : Int) < 3 by decide)
 rcases (by omega : d = 0 \/ d = 1 \/ d = 2 \/ d = 3) with rfl | rfl | rfl | rfl
 ·exact ⟨a, rfl, ha, hb⟩
 ·exact ⟨2, rfl, by decide, by decide⟩
 ·exact ⟨a % 3 - 1, rfl, by omega, by omega⟩
 ·exact ⟨1, rfl, by decide, by decide⟩
theorem JN {S : aO} {p : Nat} {ks : List Int} {mood : Int} (hP : PoolAt S p ks) (h0 : 0 <= mood) (h7 : mood <= 7) : ∃ (c : Cmd) (ks' : List Int), jM [.cel p, .dat (.int mood)] S = .ok (.dat c.d) (S.set p (PL ks')) /\ c.Ok /\ ks'.length = ks.length := by
 obtain ⟨ms, e0, m1, m2, m3⟩ := QX (mood := mood) (S := S) h0 h7;obtain ⟨d, k1, e1, d0, d1, l1⟩ := fL hP (k := (ms.length : Int)) (by omega) (by omega)
 have P1 := hP.next l1;obtain ⟨kd, hk, ei⟩ := Qk (ks := ms) (d := d) (S := S.set p (PL k1)) d0 d1;obtain ⟨hk0, hk8⟩ := m3 kd hk;have eE : jM [.cel p, .dat (.int mood)] S = cF (rO [some (.cel p), some (.dat (.int mood)), none, none, none, none] S) := rfl;rw [eE];unfold rO;have em : ∀ S, dD false (.dat (.lst [.lst [.int 0, .int 0, .int 0, .int 1, .int 1], .lst [.int 0, .int 0, .int 2, .int 3, .int 1], .lst [.int 0, .int 6, .int 7, .int 8, .int 8], .lst [.int 0, .int 4, .int 5, .int 6, .int 7], .lst [.int 0, .int 1, .int 3, .int 6, .int 8]])) (.dat (.lst [.lst [.int 0, .int 1, .int 2, .int 3, .int 4, .int 5, .int 6, .int 7, .int 8], .lst [.int 1, .int 1, .int 2, .int 3, .int 4], .lst [.int 5, .int 6, .int 7, .int 8, .int 8]])) S = .ok (.dat (.lst NW)) S := fun S => rfl
 simp! [kLst5, kLst9, em, e0, aP, e1, ei];obtain ⟨d2, k2, e2, h2, h3, l2⟩ := fL P1 (k := 19) (by decide) (by decide)
 obtain ⟨d3, k3, e3, h4, h5, l3⟩ := fL P1 (k := 3) (by decide) (by decide)
 obtain ⟨d4, k4, e4, h6, h7, l4⟩ := fL P1 (k := 8) (by decide) (by decide)
 obtain ⟨d5, k5, e5, h8, h9, l5⟩ := fL (P1.next l2) (k := 19) (by decide) (by decide)
 obtain ⟨d6, k6, e6, h10, h11, l6⟩ := fL (P1.next l2) (k := 4) (by decide) (by decide)
 simp only [eN] at e2 e3 e4 e5 e6;rcases (by omega : kd = 0 \/ kd = 1 \/ kd = 2 \/ kd = 3 \/ kd = 4 \/ kd = 5 \/ kd = 6 \/ kd = 7 \/ kd = 8) with rfl | rfl | rfl | rfl | rfl | rfl | rfl | rfl | rfl
 ·obtain ⟨v, ev, v1, v2⟩ := UU (a := d2 - 9) (S := S.set p (PL k6)) h10 h11 (by omega) (by omega)
  simp! [e2, kLst4, e6, mO (show (0 : Int) < 3 by decide), ev]
  exact ⟨.go v, k6, rfl, ⟨v1, v2⟩, by omega⟩
 ·simp! [e3]
  exact ⟨.turn (1 + d3), k3, rfl, ⟨by omega, by omega⟩, by omega⟩
 ·simp! [if_true]
  exact ⟨.mirror, k1, rfl, trivial, l1⟩
 ·obtain ⟨v, ev, v1, v2⟩ := Nx (S := S.set p (PL k4)) h6 h7
  simp! [kTup8, e4, ev];exact ⟨.scale v, k4, rfl, ⟨v1, v2⟩, by omega⟩
 ·simp! [cO, e2, e5]
  exact ⟨.aim (d2 - 9) (d5 - 9), k5, rfl, ⟨⟨by omega, by omega⟩, by omega, by omega⟩, by omega⟩
 ·simp! [eP, e2, e5]
  exact ⟨.place (d2 - 9) (d5 - 9), k5, rfl, ⟨⟨by omega, by omega⟩, by omega, by omega⟩, by omega⟩
 ·simp! [cO]
  exact ⟨.mark, k1, rfl, trivial, l1⟩
 ·simp! [eP]
  exact ⟨.ret, k1, rfl, trivial, l1⟩
 ·simp! [kL]
  exact ⟨.exch, k1, rfl, trivial, l1⟩
theorem QM {S : aO} {p : Nat} {ks : List Int} {mood : Int} (hP : PoolAt S p ks) : ∃ (c c' : Cmd) (ks' : List Int), sQ [.cel p, .dat (.int mood)] S = .ok (.dat (.lst [c.d, c'.d])) (S.set p (PL ks')) /\ c.Ok /\ c'.Ok /\ ks'.length = ks.length := by
 obtain ⟨d, k1, e1, d0, d1, l1⟩ := fL hP (k := 3) (by decide) (by decide)
 have P1 := hP.next l1;obtain ⟨d2, k2, e2, h2, h3, l2⟩ := fL P1 (k := 4) (by decide) (by decide)
 simp only [eN] at e2;have eE : sQ [.cel p, .dat (.int mood)] S = cF (AO [some (.cel p), some (.dat (.int mood)), none, none, none] S) := rfl;rw [eE];unfold AO;have fin : ∀ (x : Int) (S : aO), 0 <= x -> x < 4 -> ∃ c c' : Cmd, bW (.dat (.lst ([.lst [.tup [.str "go", .int (1 + d)], .tup [.str "go", .int (-(1 + d))]], .lst [.tup [.str "turn", .int (1 + d)], .tup [.str "turn", .int (4 - (1 + d))]], .lst [.tup [.str "mirror"], .tup [.str "mirror"]]] ++ [.lst [.tup [.str "exchange"], .tup [.str "exchange"]]]))) (.dat (.int x)) S = .ok (.dat (.lst [c.d, c'.d])) S /\ c.Ok /\ c'.Ok := fun x S h0 h1 => by
  rcases (by omega : x = 0 \/ x = 1 \/ x = 2 \/ x = 3) with rfl | rfl | rfl | rfl
  ·exact ⟨.go (1 + d), .go (-(1 + d)), rfl, ⟨by omega, by omega⟩, ⟨by omega, by omega⟩⟩
  ·exact ⟨.turn (1 + d), .turn (4 - (1 + d)), rfl, ⟨by omega, by omega⟩, ⟨by omega, by omega⟩⟩
  ·exact ⟨.mirror, .mirror, rfl, trivial, trivial⟩
  ·exact ⟨.exch, .exch, rfl, trivial, trivial⟩
 simp! [e1, e2]
 by_cases hm : mood = 6
 ·subst hm
  have := dZ d2 (show (2 : Int) ≠ 0 by decide)
  have := eB d2 (show (0 : Int) < 2 by decide)
  obtain ⟨c, c', e, o1, o2⟩ := fin (1 + d2 % 2) (S.set p (PL k2)) (by omega) (by omega)
  simp! [mO (show (0 : Int) < 2 by decide), gL, sz, e]
  exact ⟨c, c', k2, rfl, o1, o2, by omega⟩
 ·by_cases h7 : mood = 7
  ·subst h7
   obtain ⟨c, c', e, o1, o2⟩ := fin 3 (S.set p (PL k2)) (by omega) (by omega)
   simp! [gL, sz, e];exact ⟨c, c', k2, rfl, o1, o2, by omega⟩
  ·obtain ⟨c, c', e, o1, o2⟩ := fin d2 (S.set p (PL k2)) (by omega) (by omega)
   simp! [decide_eq_false hm, decide_eq_false h7, gL, sz, e];exact ⟨c, c', k2, rfl, o1, o2, by omega⟩
mutual
def Stt.Gd (many : Int) : Stt -> Nat -> Prop
 | .cmd c, _ => c.Ok
 | .fin w, _ => 0 <= w /\ w <= 1
 | .keep b, n => 0 < n /\ GdL many b (n - 1)
 | .again b, n => 0 < n /\ GdL many b (n - 1)
 | .either a b, n => 0 < n /\ GdL many a (n - 1) /\ GdL many b (n - 1)
 | .call g _ a b, n => (0 < n /\ 0 <= g /\ g < many) /\ GdL many a (n - 1) /\ GdL many b (n - 1)
 | .bad, _ => False
 | .odd _, _ => False
def GdL (many : Int) : List Stt -> Nat -> Prop
 | [], _ => True
 | s :: r, n => s.Gd many n /\ GdL many r n
end
mutual
def Stt.size : Stt -> Nat
 | .keep b => cD b + 1
 | .again b => cD b + 1
 | .either a b => cD a + cD b + 1
 | .call _ _ a b => cD a + cD b + 1
 | _ => 1
def cD : List Stt -> Nat
 | [] => 0
 | s :: r => s.size + cD r
end
theorem size_pos (s : Stt) : 1 <= s.size := by cases s <;> simp [Stt.size]
theorem eI : ∀ l : List Stt, l.length <= cD l
 | [] => bX _
 | s :: r => by have := eI r; have := size_pos s; simp [cD]; omega
theorem iY : ∀ l m : List Stt, cD (l ++ m) = cD l + cD m
 | [], m => by simp [cD]
 | s :: r, m => by simp [cD, iY r m]; omega
theorem GdL.app {many : Int} : ∀ {l m : List Stt} {n : Nat}, GdL many l n -> GdL many m n -> GdL many (l ++ m) n
 | [], m, n, _, h => h
 | s :: r, m, n, h, h' => ⟨h.1, GdL.app h.2 h'⟩
mutual
theorem Stt.Gd.ok {many : Int} : ∀ {s : Stt} {n : Nat}, s.Gd many n -> s.size <= 11 -> s.Ok many n
 | .cmd c, n, h, _ => h
 | .fin w, n, h, _ => h
 | .keep b, n, h, hs => ⟨h.1, GdL.ok h.2 (by simp [Stt.size] at hs; omega)⟩
 | .again b, n, h, hs => ⟨h.1, GdL.ok h.2 (by simp [Stt.size] at hs; omega)⟩
 | .either a b, n, h, hs => ⟨h.1, GdL.ok h.2.1 (by simp [Stt.size] at hs; omega), GdL.ok h.2.2 (by simp [Stt.size] at hs; omega)⟩
 | .call g _ a b, n, h, hs => ⟨h.1, GdL.ok h.2.1 (by simp [Stt.size] at hs; omega), GdL.ok h.2.2 (by simp [Stt.size] at hs; omega)⟩
 | .bad, n, h, _ => h.elim
 | .odd _, n, h, _ => h.elim
theorem GdL.ok {many : Int} : ∀ {l : List Stt} {n : Nat}, GdL many l n -> cD l <= 10 -> OkL many l n
 | [], n, _, _ => trivial
 | s :: r, n, h, hs => by
  have := eI r;have := size_pos s;simp only [cD] at hs;exact ⟨⟨Stt.Gd.ok h.1 (by omega), by omega⟩, GdL.ok h.2 (by omega)⟩
end
mutual
theorem Hj {many : Int} : ∀ {s : Stt} {n : Nat} {lv met : Int} {here : List Int}, s.Gd many n -> 0 <= lv -> lv + n <= 3 -> s.size <= 9 -> met + s.size <= 13 -> 0 <= met -> El lv here s met = .okk (met + s.size - 1)
 | .cmd c, n, lv, met, here, h, h0, h3, h9, h12, hm => by simp [El, Stt.size]
 | .fin c, n, lv, met, here, h, h0, h3, h9, h12, hm => by simp [El, Stt.size]
 | .bad, n, lv, met, here, h, h0, h3, h9, h12, hm => h.elim
 | .odd _, n, lv, met, here, h, h0, h3, h9, h12, hm => h.elim
 | .keep b, n, lv, met, here, h, h0, h3, h9, h12, hm => by
  have := h.1;simp only [Stt.size] at h9 h12;rw [El, qN (n := n - 1) h.2 (by omega) (by omega) (by omega) (by omega) hm (by omega), Stt.size]
  congr 1
  omega
 | .again b, n, lv, met, here, h, h0, h3, h9, h12, hm => by
  have := h.1;simp only [Stt.size] at h9 h12;rw [El, qN (n := n - 1) h.2 (by omega) (by omega) (by omega) (by omega) hm (by omega), Stt.size]
  congr 1
  omega
 | .either a b, n, lv, met, here, h, h0, h3, h9, h12, hm => by
  have := h.1;simp only [Stt.size] at h9 h12;rw [El, qN (n := n - 1) h.2.1 (by omega) (by omega) (by omega) (by omega) hm (by omega), FR.then_okk, qN (n := n - 1) h.2.2 (by omega) (by omega) (by omega) (by omega) (by omega) (by omega), Stt.size]
  congr 1
  omega
 | .call g f a b, n, lv, met, here, h, h0, h3, h9, h12, hm => by
  have := h.1.1;simp only [Stt.size] at h9 h12;rw [El, qN (n := n - 1) h.2.1 (by omega) (by omega) (by omega) (by omega) hm (by omega), FR.then_okk, qN (n := n - 1) h.2.2 (by omega) (by omega) (by omega) (by omega) (by omega) (by omega), Stt.size]
  congr 1
  omega
theorem qN {many : Int} : ∀ {l : List Stt} {n : Nat} {lv at_ met : Int} {path : List Int}, GdL many l n -> 0 <= lv -> lv + n <= 3 -> at_ + cD l <= 8 -> met + cD l <= 12 -> 0 <= met -> 0 <= at_ -> wX lv path at_ l met = .okk (met + cD l)
 | [], n, lv, at_, met, path, h, h0, h3, h8, h12, hm, ha => by simp [wX, cD]
 | s :: r, n, lv, at_, met, path, h, h0, h3, h8, h12, hm, ha => by
  have hp := size_pos s;simp only [cD] at h8 h12;have hw : s.wf lv = true := by
   cases s with
   | cmd c => rfl
   | fin c => rfl
   | bad => exact h.1.elim
   | odd x => exact h.1.elim
   | keep b => have := h.1.1; simp [Stt.wf]; omega
   | again b => have := h.1.1; simp [Stt.wf]; omega
   | either a b => have := h.1.1; simp [Stt.wf]; omega
   | call g f a b => have := h.1.1.1; simp [Stt.wf]; omega
  rw [wX, if_neg (by rintro (e | e | e) <;> first | omega | (rw [hw] at e; cases e)), Hj (n := n) h.1 h0 h3 (by omega) (by omega) (by omega), FR.then_okk, qN (n := n) h.2 h0 h3 (by omega) (by omega) (by omega) (by omega), cD]
  congr 1
  omega
end
section
variable {p q c N : Nat} {many : Int}
theorem Dr.command {S : aO} {r l mood : Int} (D : Dr p q c N many S r l) (h0 : 0 <= mood) (h7 : mood <= 7) : ∃ (cm : Cmd) (S' : aO), jM [.cel p, .dat (.int mood)] S = .ok (.dat cm.d) S' /\ cm.Ok /\ Dr p q c N many S' r l /\ Sam [p, q, c] S S' := by
 obtain ⟨ks, hk, hl⟩ := D.pool;obtain ⟨cm, ks', e, ho, l⟩ := JN (S := S) (p := p) (ks := ks) ⟨hk, by rw [hl]; exact D.n2⟩ h0 h7
 exact ⟨cm, _, e, ho, D.setp (by omega), Sam.set (by simp)⟩
theorem Dr.pair {S : aO} {r l mood : Int} (D : Dr p q c N many S r l) : ∃ (cm cm' : Cmd) (S' : aO), sQ [.cel p, .dat (.int mood)] S = .ok (.dat (.lst [cm.d, cm'.d])) S' /\ cm.Ok /\ cm'.Ok /\ Dr p q c N many S' r l /\ Sam [p, q, c] S S' := by
 obtain ⟨ks, hk, hl⟩ := D.pool;obtain ⟨cm, cm', ks', e, ho, ho', l⟩ := QM (S := S) (p := p) (ks := ks) (mood := mood) ⟨hk, by rw [hl]; exact D.n2⟩
 exact ⟨cm, cm', _, e, ho, ho', D.setp (by omega), Sam.set (by simp)⟩
structure Left (p q c N : Nat) (many : Int) (S : aO) (r : Int) (n : Nat) (ls : List Stt) (S' : aO) (r' l' : Int) : Prop where
 dr : Dr p q c N many S' r' l'
 sam : Sam [p, q, c] S S'
 r0 : 0 <= r'
 sz : (cD ls : Int) + r' <= r
 gd : GdL many ls n
end
def GE (n : Nat) : Prop := ∀ {p q c N : Nat} {many : Int} {S : aO} {r l mood lv low : Int}, Dr p q c N many S r l -> 0 <= mood -> mood <= 7 -> 0 <= lv -> lv <= 3 -> 0 <= low -> 0 <= r -> r <= 8 -> many <= 3 -> 2 * (3 - lv.toNat) + r.toNat + 2 <= n ->
 ∃ (ls : List Stt) (S' : aO) (r' l' : Int), wW n [.cel p, .dat (.int mood), .dat (.int lv), .cel q, .cel c, .dat (.int low)] S = .ok (.dat (.lst (bP ls))) S' /\ Left p q c N many S r (3 - lv.toNat) ls S' r' l'
def AZ (n : Nat) : Prop := ∀ {p q c N : Nat} {many : Int} {S : aO} {r l mood lv low : Int}, Dr p q c N many S r l -> 0 <= mood -> mood <= 7 -> 0 <= lv -> lv <= 3 -> 0 <= low -> 0 < r -> r <= 8 -> many <= 3 -> 2 * (3 - lv.toNat) + r.toNat + 1 <= n ->
 ∃ (ls : List Stt) (S' : aO) (r' l' : Int), lO n [.cel p, .dat (.int mood), .dat (.int lv), .cel q, .cel c, .dat (.int low)] S = .ok (.dat (.lst (bP ls))) S' /\ Left p q c N many S r (3 - lv.toNat) ls S' r' l'
theorem yK {n : Nat} (ih : AZ n) {p q c N : Nat} {many mood lv low : Int} (h0 : 0 <= mood) (h7 : mood <= 7) (l0 : 0 <= lv) (l3 : lv <= 3) (lo : 0 <= low) (hm : many <= 3) :
  ∀ (is : List D) (ls : List Stt) (S : aO) (r l : Int), Dr p q c N many S r l -> 0 <= r -> (cD ls : Int) + r <= 8 -> 2 * (3 - lv.toNat) + r.toNat + 1 <= n -> GdL many ls (3 - lv.toNat) -> ∃ (ls' : List Stt) (S' : aO) (r' l' : Int),
   loop (.nm 7) (lK (lO n)) is [some (.cel p), some (.dat (.int mood)), some (.dat (.int lv)), some (.cel q), some (.cel c), some (.dat (.int low)), some (.dat (.lst (bP ls))), none] S =
    .next [some (.cel p), some (.dat (.int mood)), some (.dat (.int lv)), some (.cel q), some (.cel c), some (.dat (.int low)), some (.dat (.lst (bP ls'))), none] S' /\ Left p q c N many S (cD ls + r) (3 - lv.toNat) ls' S' r' l'
 | [], ls, S, r, l, D, r0, r8, hn, g => ⟨ls, S, r, l, rfl, D, Sam.refl, r0, Int.le_refl _, g⟩
 | i :: is, ls, S, r, l, D, r0, r8, hn, g => by
  rw [loop];simp only [pE, bY, cE];rw [lK];simp! [D.ixq]
  by_cases hr : 0 < r
  ·obtain ⟨l1, S1, r1, c1, e1, L1⟩ := ih D h0 h7 l0 l3 lo hr (by omega) hm hn
   have hl := eI ls;have hl1 := eI l1;have hsz := L1.sz;have hr1 := L1.r0;simp! [decide_eq_true hr, e1, gL (show (bP ls).length + (bP l1).length <= sizeLine by rw [cY, cY]; exact PH.sz (by omega))]
   rw [<- lK, <- oS];obtain ⟨l2, S2, r2, c2, e2, L2⟩ := yK ih (p := p) (q := q) (c := c) (N := N) h0 h7 l0 l3 lo hm is (ls ++ l1) S1 r1 c1 L1.dr hr1 (by rw [iY]; omega) (by omega) (g.app L1.gd)
   have := L2.sz;rw [iY] at this;exact ⟨l2, S2, r2, c2, e2, L2.dr, L1.sam.trans L2.sam, L2.r0, by omega, L2.gd⟩
  ·simp! [decide_eq_false hr]
   rw [<- lK];exact yK ih h0 h7 l0 l3 lo hm is ls S r l D r0 r8 hn g
theorem PF {n : Nat} (ih : AZ n) : GE (n + 1) := by
 intro p q c N many S r l mood lv low D h0 h7 l0 l3 lo r0 r8 hm hn;rw [show wW (n + 1) [.cel p, .dat (.int mood), .dat (.int lv), .cel q, .cel c, .dat (.int low)] S = cF (xD (lO n) [some (.cel p), some (.dat (.int mood)), some (.dat (.int lv)), some (.cel q), some (.cel c), some (.dat (.int low)), none, none] S) from rfl]
 unfold xD;obtain ⟨d, S1, e1, d0, d1, D1, s1⟩ := D.draw (k := 3) (by decide) (by decide)
 obtain ⟨l2, S2, r2, c2, e2, L2⟩ := yK ih h0 h7 l0 l3 lo hm (gK 0 d.toNat) [] S1 r l D1 r0 (by simp [cD]; omega) (by omega) trivial
 simp! [e1, gT (show -(2 ^ 62) <= d by omega) (show d < 2 ^ 62 by omega)]
 rw [show ([] : List PH.D) = bP [] from rfl, e2]
 simp! [if_true];have := L2.sz;simp only [cD] at this;exact ⟨l2, S2, r2, c2, rfl, L2.dr, s1.trans L2.sam, L2.r0, by omega, L2.gd⟩
theorem TJ {a b : PH.D} : cutD [a, b] none (some 1) = [a] := rfl
theorem ds1 {s : Stt} : [s.d] = bP [s] := rfl
theorem NM {n : Nat} (ihB : GE n) (ihP : AZ n) : AZ (n + 1) := by
 intro p q c N many S r l mood lv low D h0 h7 l0 l3 lo r0 r8 hm hn;rw [show lO (n + 1) [.cel p, .dat (.int mood), .dat (.int lv), .cel q, .cel c, .dat (.int low)] S = cF (xC (wW n) (lO n) [some (.cel p), some (.dat (.int mood)), some (.dat (.int lv)), some (.cel q), some (.cel c), some (.dat (.int low)), none, none, none, none, none, none] S) from rfl]
 unfold xC;obtain ⟨d, S1, e1, d0, d1, D1, s1⟩ := D.draw (k := 17) (by decide) (by decide)
 have ea : ∀ z : Option Vl, kT (fun x y => x - y) (aC 3) (mC (.int 0)) (mC (.int 1)) [some (.cel p), some (.dat (.int mood)), some (.dat (.int lv)), some (.cel q), some (.cel c), some (.dat (.int low)), z, none, none, none, none, none] S1 = .next [some (.cel p), some (.dat (.int mood)), some (.dat (.int lv)), some (.cel q), some (.cel c), some (.dat (.int low)), z, none, none, none, none, none] (S1.set q (PL [r - 1])) := fun z => D1.augq rfl rfl rfl
 have D2 := D1.setq (r' := r - 1);have s2 : Sam [p, q, c] S (S1.set q (PL [r - 1])) := s1.trans (Sam.set (by simp))
 generalize S1.set q (PL [r - 1]) = S2 at ea D2 s2;obtain ⟨cm, S3, e2, c2, D3, s3⟩ := D2.command h0 h7;have LC : Left p q c N many S r (3 - lv.toNat) [.cmd cm] S3 (r - 1) l := ⟨D3, s2.trans s3, by omega, by simp [cD, Stt.size]; omega, c2, trivial⟩
 have oc : ∃ (ls : List Stt) (S' : aO) (r' l' : Int), cF (Out.ret (.dat (.lst [cm.d])) S3) = .ok (.dat (.lst (bP ls))) S' /\ Left p q c N many S r (3 - lv.toNat) ls S' r' l' := ⟨_, _, _, _, rfl, LC⟩;rcases (by omega : d < 6 \/ d = 6 \/ (7 <= d /\ d < 15 /\ 2 < lv) \/ (7 <= d /\ d < 9 /\ lv <= 2) \/ (d = 9 /\ lv <= 2) \/ (d = 10 /\ lv <= 2) \/ (11 <= d /\ d < 15 /\ lv <= 2) \/ (15 <= d)) with hd | hd | ⟨ha, hb, hl⟩ | ⟨ha, hb, hl⟩ | ⟨hd, hl⟩ | ⟨hd, hl⟩ | ⟨ha, hb, hl⟩ | hd
 ·simp! [e1, decide_eq_false (show ¬ (6 : Int) < d by omega), decide_eq_false (show ¬ d = 6 by omega), decide_eq_false (show ¬ (10 : Int) < d by omega), ea, decide_eq_true hd, e2]
  exact oc
 ·subst hd
  by_cases hr : r < 2
  ·simp! [e1, D1.ixq, decide_eq_true hr, ea, e2]
   exact oc
  ·have eb : ∀ z : Option Vl, kT (fun x y => x - y) (aC 3) (mC (.int 0)) (mC (.int 1)) [some (.cel p), some (.dat (.int mood)), some (.dat (.int lv)), some (.cel q), some (.cel c), some (.dat (.int low)), z, none, none, none, none, none] S2 = .next [some (.cel p), some (.dat (.int mood)), some (.dat (.int lv)), some (.cel q), some (.cel c), some (.dat (.int low)), z, none, none, none, none, none] (S2.set q (PL [r - 1 - 1])) := fun z => D2.augq rfl rfl rfl
   have D4 := D2.setq (r' := r - 1 - 1);have s4 : Sam [p, q, c] S (S2.set q (PL [r - 1 - 1])) := s2.trans (Sam.set (by simp))
   generalize S2.set q (PL [r - 1 - 1]) = S4 at eb D4 s4;obtain ⟨ca, cb, S5, e5, oa, ob, D5, s5⟩ := D4.pair (mood := mood)
   by_cases hr2 : 0 < r - 1 - 1
   ·obtain ⟨l6, S6, r6, c6, e6, L6⟩ := ihP D5 h0 h7 l0 l3 lo hr2 (by omega) hm (by omega)
    have hs := L6.sz;have := L6.r0;have hl6 := eI l6;simp! [e1, D1.ixq, decide_eq_false hr, ea, eb, e5, D5.ixq, decide_eq_true hr2, e6, TJ, wJ, gL (show [ca.d].length + (bP l6).length <= sizeLine from sz (by rw [cY]; simp; omega)), gL (show ([ca.d] ++ bP l6).length + [cb.d].length <= sizeLine from sz (by simp [cY]; omega))]
    refine ⟨[.cmd ca] ++ l6 ++ [.cmd cb], S6, r6, c6, ?_, L6.dr, s4.trans (s5.trans L6.sam), L6.r0, ?_, ?_⟩
    ·rw [oS, oS]; rfl
    ·rw [iY, iY]; simp only [cD, Stt.size]; omega
    ·exact GdL.app (GdL.app (l := [.cmd ca]) ⟨oa, trivial⟩ L6.gd) ⟨ob, trivial⟩
   ·simp! [e1, D1.ixq, decide_eq_false hr, ea, eb, e5, D5.ixq, decide_eq_false hr2, TJ, wJ, gL, sz, cX, cH, bQ]
    refine ⟨[.cmd ca, .cmd cb], S5, r - 1 - 1, l, rfl, D5, s4.trans s5, by omega, ?_, oa, ob, trivial⟩
    simp only [cD, Stt.size]; omega
 ·have h1 := dZ d (show (6 : Int) ≠ 0 by decide)
  have h2 := eB d (show (0 : Int) < 6 by decide)
  simp! [e1, decide_eq_true (show (6 : Int) < d by omega), decide_eq_true hb, decide_eq_true hl, mO (show (0 : Int) < 6 by decide), decide_eq_false (show ¬ d % 6 = 6 by omega), decide_eq_false (show ¬ (10 : Int) < d % 6 by omega), ea, decide_eq_true (show d % 6 < 6 by omega), e2]
  exact oc
 ·have e54 : 3 - (lv + 1).toNat = 3 - lv.toNat - 1 := by omega
  obtain ⟨la, Sa, ra, ca, ea1, La⟩ := ihB (lv := lv + 1) (low := 0) D2 h0 h7 (by omega) (by omega) (by omega) (by omega) (by omega) hm (by omega)
  obtain ⟨lb, Sb, rb, cb, eb1, Lb⟩ := ihB (lv := lv + 1) (low := low) La.dr h0 h7 (by omega) (by omega) lo La.r0 (by have := La.sz; omega) hm (by have := La.sz; have := La.r0; omega)
  have := La.sz;have := Lb.sz;have ga := La.gd;have gb := Lb.gd;rw [e54] at ga gb;simp! [e1, decide_eq_true (show (6 : Int) < d by omega), decide_eq_true (show d < 15 by omega), decide_eq_false (show ¬ (2 : Int) < lv by omega), decide_eq_false (show ¬ d = 6 by omega), decide_eq_false (show ¬ (10 : Int) < d by omega), ea, decide_eq_false (show ¬ d < 6 by omega), decide_eq_true hb, ea1, eb1]
  refine ⟨[.either la lb], Sb, rb, cb, rfl, Lb.dr, s2.trans (La.sam.trans Lb.sam), Lb.r0, ?_, ⟨by omega, ga, gb⟩, trivial⟩
  simp only [cD, Stt.size]; omega
 ·subst hd
  have e54 : 3 - (lv + 1).toNat = 3 - lv.toNat - 1 := by omega
  obtain ⟨la, Sa, ra, ca, ea1, La⟩ := ihB (lv := lv + 1) (low := 0) D2 h0 h7 (by omega) (by omega) (by omega) (by omega) (by omega) hm (by omega)
  have := La.sz;have ga := La.gd;rw [e54] at ga;simp! [e1, decide_eq_false (show ¬ (2 : Int) < lv by omega), ea, ea1]
  refine ⟨[.again la], Sa, ra, ca, rfl, La.dr, s2.trans La.sam, La.r0, ?_, ⟨by omega, ga⟩, trivial⟩
  simp only [cD, Stt.size]; omega
 ·subst hd
  have e54 : 3 - (lv + 1).toNat = 3 - lv.toNat - 1 := by omega
  obtain ⟨la, Sa, ra, ca, ea1, La⟩ := ihB (lv := lv + 1) (low := low) D2 h0 h7 (by omega) (by omega) (by omega) (by omega) (by omega) hm (by omega)
  have := La.sz;have ga := La.gd;rw [e54] at ga;simp! [e1, decide_eq_false (show ¬ (2 : Int) < lv by omega), ea, ea1]
  refine ⟨[.keep la], Sa, ra, ca, rfl, La.dr, s2.trans La.sam, La.r0, ?_, ⟨by omega, ga⟩, trivial⟩
  simp only [cD, Stt.size]; omega
 ·by_cases hc : l < 1
  ·simp! [e1, decide_eq_true (show (6 : Int) < d by omega), decide_eq_true hb, decide_eq_false (show ¬ (2 : Int) < lv by omega), decide_eq_false (show ¬ d = 6 by omega), decide_eq_true (show (10 : Int) < d by omega), D1.ixc0, decide_eq_true hc, ea, e2]
   exact oc
  ·by_cases hlo : many <= low
   ·simp! [e1, decide_eq_true (show (6 : Int) < d by omega), decide_eq_true hb, decide_eq_false (show ¬ (2 : Int) < lv by omega), decide_eq_false (show ¬ d = 6 by omega), decide_eq_true (show (10 : Int) < d by omega), D1.ixc0, decide_eq_false hc, D1.ixc1, decide_eq_true hlo, ea, e2]
    exact oc
   ·have e54 : 3 - (lv + 1).toNat = 3 - lv.toNat - 1 := by omega
    have ec : ∀ z : Option Vl, kT (fun x y => x - y) (aC 4) (mC (.int 0)) (mC (.int 1)) [some (.cel p), some (.dat (.int mood)), some (.dat (.int lv)), some (.cel q), some (.cel c), some (.dat (.int low)), z, none, none, none, none, none] S2 = .next [some (.cel p), some (.dat (.int mood)), some (.dat (.int lv)), some (.cel q), some (.cel c), some (.dat (.int low)), z, none, none, none, none, none] (S2.set c (PL [l - 1, many])) := fun z => D2.augc rfl rfl rfl
    have D4 := D2.setc (l' := l - 1);have s4 : Sam [p, q, c] S (S2.set c (PL [l - 1, many])) := s2.trans (Sam.set (by simp))
    generalize S2.set c (PL [l - 1, many]) = S4 at ec D4 s4;obtain ⟨g, S5, e5, g0, g1, D5, s5⟩ := D4.draw (k := many - low) (by omega) (by omega)
    obtain ⟨f, S6, e6, f0, f1, D6, s6⟩ := D5.draw (k := 3) (by decide) (by decide)
    obtain ⟨la, Sa, ra, ca, ea1, La⟩ := ihB (lv := lv + 1) (low := low) D6 h0 h7 (by omega) (by omega) lo (by omega) (by omega) hm (by omega)
    obtain ⟨lb, Sb, rb, cb, eb1, Lb⟩ := ihB (lv := lv + 1) (low := low) La.dr h0 h7 (by omega) (by omega) lo La.r0 (by have := La.sz; omega) hm (by have := La.sz; have := La.r0; omega)
    have := La.sz;have := Lb.sz;have ga := La.gd;have gb := Lb.gd;rw [e54] at ga gb;simp! [e1, decide_eq_true (show (6 : Int) < d by omega), decide_eq_true hb, decide_eq_false (show ¬ (2 : Int) < lv by omega), decide_eq_false (show ¬ d = 6 by omega), decide_eq_true (show (10 : Int) < d by omega), D1.ixc0, decide_eq_false hc, D1.ixc1, decide_eq_false hlo, ea, decide_eq_false (show ¬ d < 6 by omega), decide_eq_false (show ¬ d < 9 by omega), decide_eq_false (show ¬ d = 9 by omega), decide_eq_false (show ¬ d = 10 by omega), decide_eq_false (show ¬ (14 : Int) < d by omega), ec, D4.ixc1, e5, e6, ea1, eb1]
    refine ⟨[.call (low + g) (decide (f = 0)) la lb], Sb, rb, cb, rfl, Lb.dr, s4.trans (s5.trans (s6.trans (La.sam.trans Lb.sam))), Lb.r0, ?_, ⟨⟨by omega, by omega, by omega⟩, ga, gb⟩, trivial⟩
    simp only [cD, Stt.size]; omega
 ·obtain ⟨w, S4, e4, w0, w1, D4, s4⟩ := D2.draw (k := 2) (by decide) (by decide)
  simp! [e1, decide_eq_true (show (6 : Int) < d by omega), decide_eq_false (show ¬ d < 15 by omega), decide_eq_false (show ¬ d = 6 by omega), decide_eq_true (show (10 : Int) < d by omega), ea, decide_eq_false (show ¬ d < 6 by omega), decide_eq_false (show ¬ d < 9 by omega), decide_eq_false (show ¬ d = 9 by omega), decide_eq_false (show ¬ d = 10 by omega), decide_eq_true (show (14 : Int) < d by omega), e4]
  refine ⟨[.fin w], S4, r - 1, l, rfl, D4, s2.trans s4, by omega, ?_, ⟨w0, by omega⟩, trivial⟩
  simp only [cD, Stt.size]; omega
theorem AB : ∀ n, GE n /\ AZ n
 | 0 => ⟨fun _ _ _ _ _ _ _ _ _ h => by omega, fun _ _ _ _ _ _ _ _ _ h => by omega⟩
 | n + 1 => ⟨PF (AB n).2, NM (AB n).1 (AB n).2⟩
theorem MK {p q c N : Nat} {many : Int} {S : aO} {r l mood : Int} (D : Dr p q c N many S r l) (h0 : 0 <= mood) (h7 : mood <= 7) (hr : 3 < r) (m1 : 1 <= many) (m3 : many <= 3) :
  ∃ (ls : List Stt) (S' : aO) (r' l' : Int), tV [.cel p, .dat (.int mood), .cel q, .cel c] S = .ok (.dat (.lst (bP ls))) S' /\ Left p q c N many S r 3 ls S' r' l' := by
 rw [show tV [.cel p, .dat (.int mood), .cel q, .cel c] S = cF (uN [some (.cel p), some (.dat (.int mood)), some (.cel q), some (.cel c), none, none, none, none, none] S) from rfl]
 unfold uN;have ea : kT (fun x y => x - y) (aC 2) (mC (.int 0)) (mC (.int 4)) [some (.cel p), some (.dat (.int mood)), some (.cel q), some (.cel c), none, none, none, none, none] S = .next [some (.cel p), some (.dat (.int mood)), some (.cel q), some (.cel c), none, none, none, none, none] (S.set q (PL [r - 4])) := D.augq rfl rfl rfl
 have D1 := D.setq (r' := r - 4);have s1 : Sam [p, q, c] S (S.set q (PL [r - 4])) := Sam.set (by simp)
 generalize S.set q (PL [r - 4]) = S1 at ea D1 s1;have eb : kT (fun x y => x - y) (aC 3) (mC (.int 0)) (mC (.int 1)) [some (.cel p), some (.dat (.int mood)), some (.cel q), some (.cel c), none, none, none, none, none] S1 = .next [some (.cel p), some (.dat (.int mood)), some (.cel q), some (.cel c), none, none, none, none, none] (S1.set c (PL [l - 1, many])) := D1.augc rfl rfl rfl
 have D2 := D1.setc (l' := l - 1);have s2 : Sam [p, q, c] S1 (S1.set c (PL [l - 1, many])) := Sam.set (by simp)
 generalize S1.set c (PL [l - 1, many]) = S2 at eb D2 s2;obtain ⟨g, S3, e3, g0, g1, D3, s3⟩ := D2.draw (k := many) (by omega) (by omega)
 obtain ⟨f, S4, e4, f0, f1, D4, s4⟩ := D3.draw (k := 3) (by decide) (by decide)
 obtain ⟨a, S5, e5, a0, a1, D5, s5⟩ := D4.draw (k := 2) (by decide) (by decide)
 obtain ⟨ca, S6, e6, oa, D6, s6⟩ := D5.command h0 h7;obtain ⟨cb, S7, e7, ob, D7, s7⟩ := D6.command h0 h7;obtain ⟨b, S8, e8, b0, b1, D8, s8⟩ := D7.draw (k := 2) (by decide) (by decide)
 have s18 : Sam [p, q, c] S S8 := s1.trans (s2.trans (s3.trans (s4.trans (s5.trans (s6.trans (s7.trans s8))))));have fin : ∀ (x y : Cmd) (T : aO), x.Ok -> y.Ok -> Dr p q c N many T (r - 4) (l - 1) -> Sam [p, q, c] S T -> ∃ (ls : List Stt) (S' : aO) (r' l' : Int), cF (((bW (.dat (.lst [.lst [], .lst [x.d, .tup [.str "call", .int g, .bl (decide (f = 0)), .lst [.lst [], .lst []]], y.d]])) (.dat (.int a)) T).bind fun u T1 => ((bW (.dat (.lst [.lst [], .lst [x.d, .tup [.str "call", .int g, .bl (decide (f = 0)), .lst [.lst [], .lst []]], y.d]])) (.dat (.int (1 - a))) T1).bind fun v T2 => kTup [.dat (.str "either"), u, v] T2)).toS [] fun w T3 => (Dl false [w] T3).toS [] UM) = .ok (.dat (.lst (bP ls))) S' /\ Left p q c N many S r 3 ls S' r' l' := fun x y T ox oy DT sT => by
  have sz : ∀ (u v : List Stt), cD u + cD v = 3 -> (cD [.either u v] : Int) + (r - 4) <= r := fun u v h => by simp only [cD, Stt.size]; omega
  have hc : GdL many [.cmd x, .call g (decide (f = 0)) [] [], .cmd y] 2 := ⟨ox, ⟨⟨by omega, g0, g1⟩, trivial, trivial⟩, oy, trivial⟩
  rcases (by omega : a = 0 \/ a = 1) with rfl | rfl
  ·exact ⟨[.either [] [.cmd x, .call g (decide (f = 0)) [] [], .cmd y]], T, r - 4, l - 1, rfl, DT, sT, by omega, sz _ _ rfl, ⟨by omega, trivial, hc⟩, trivial⟩
  ·exact ⟨[.either [.cmd x, .call g (decide (f = 0)) [] [], .cmd y] []], T, r - 4, l - 1, rfl, DT, sT, by omega, sz _ _ rfl, ⟨by omega, hc, trivial⟩, trivial⟩
 simp! [ea, eb, D2.ixc1, e3, e4, e5, e6, e7, e8]
 by_cases hb : b = 0
 ·obtain ⟨cx, cy, S9, e9, ox, oy, D9, s9⟩ := D8.pair (mood := mood)
  simp! [decide_eq_true hb, e9, yD, Cs];obtain ⟨ls, S', r', l', e, L⟩ := fin cx cy S9 ox oy D9 (s18.trans s9);refine ⟨ls, S', r', l', ?_, L⟩
  rw [<- e];rcases (by omega : a = 0 \/ a = 1) with rfl | rfl <;> rfl
 ·simp! [decide_eq_false hb, yD, Cs]
  obtain ⟨ls, S', r', l', e, L⟩ := fin ca cb S8 oa ob D8 s18;refine ⟨ls, S', r', l', ?_, L⟩
  rw [<- e];rcases (by omega : a = 0 \/ a = 1) with rfl | rfl <;> rfl
theorem BC {p q c N : Nat} {many mood low : Int} {z8 : Option Vl} {z5 : Option Vl} (h0 : 0 <= mood) (h7 : mood <= 7) (lo : 0 <= low) (hm : many <= 3) :
  ∀ (is : List D) (ls : List Stt) (S : aO) (r l : Int), Dr p q c N many S r l -> 0 <= r -> (cD ls : Int) + r <= 8 -> GdL many ls 3 -> ∃ (ls' : List Stt) (S' : aO) (r' l' : Int),
   loop (.nm 7) lB is [some (.cel p), some (.dat (.int mood)), some (.cel q), some (.cel c), some (.dat (.int low)), z5, some (.dat (.lst (bP ls))), none, z8] S =
    .next [some (.cel p), some (.dat (.int mood)), some (.cel q), some (.cel c), some (.dat (.int low)), z5, some (.dat (.lst (bP ls'))), none, z8] S' /\ Left p q c N many S (cD ls + r) 3 ls' S' r' l'
 | [], ls, S, r, l, D, r0, r8, g => ⟨ls, S, r, l, rfl, D, Sam.refl, r0, Int.le_refl _, g⟩
 | i :: is, ls, S, r, l, D, r0, r8, g => by
  rw [loop];simp only [pE, bY, cE];rw [lB];simp! [D.ixq]
  by_cases hr : 0 < r
  ·obtain ⟨l1, S1, r1, c1, e1, L1⟩ := (AB 30).2 (lv := 0) D h0 h7 (by omega) (by omega) lo hr (by omega) hm (by simp; omega)
   have hl := eI ls;have hl1 := eI l1;have hsz := L1.sz;have hr1 := L1.r0;simp! [decide_eq_true hr, e1, gL (show (bP ls).length + (bP l1).length <= sizeLine by rw [cY, cY]; exact PH.sz (by omega))]
   rw [<- lB, <- oS];obtain ⟨l2, S2, r2, c2, e2, L2⟩ := BC (p := p) (q := q) (c := c) (N := N) (z8 := z8) (z5 := z5) h0 h7 lo hm is (ls ++ l1) S1 r1 c1 L1.dr hr1 (by rw [iY]; omega) (g.app L1.gd)
   have := L2.sz;rw [iY] at this;exact ⟨l2, S2, r2, c2, e2, L2.dr, L1.sam.trans L2.sam, L2.r0, by omega, L2.gd⟩
  ·simp! [decide_eq_false hr]
   rw [<- lB];exact BC h0 h7 lo hm is ls S r l D r0 r8 g
def Hr : Stt := .either [.fin 1] []
theorem SC {p q c N : Nat} {many : Int} {S : aO} {r l mood low : Int} (D : Dr p q c N many S r l) (h0 : 0 <= mood) (h7 : mood <= 7) (lo : 0 <= low) (r0 : 0 <= r) (r8 : r <= 8) (m1 : 1 <= many) (m3 : many <= 3) :
  ∃ (ls : List Stt) (S' : aO) (r' l' : Int), vU [.cel p, .dat (.int mood), .cel q, .cel c, .dat (.int low)] S = .ok (.dat (.lst (bP ls))) S' /\ Left p q c N many S (r + 2) 3 ls S' r' l' := by
 rw [show vU [.cel p, .dat (.int mood), .cel q, .cel c, .dat (.int low)] S = cF (AV [some (.cel p), some (.dat (.int mood)), some (.cel q), some (.cel c), some (.dat (.int low)), none, none, none, none] S) from rfl]
 unfold AV;obtain ⟨d, S1, e1, d0, d1, D1, s1⟩ := D.draw (k := 6) (by decide) (by decide)
 obtain ⟨a, S2, e2, a0, a1, D2, s2⟩ := D1.draw (k := 2) (by decide) (by decide)
 -- behind the loop
 have fin : ∀ (ls : List Stt) (T : aO) (r1 l1 : Int), Dr p q c N many T r1 l1 -> Sam [p, q, c] S T -> 0 <= r1 -> (cD ls : Int) + r1 <= r -> GdL many ls 3 -> ∃ (ls' : List Stt) (S' : aO) (r' l' : Int), cF (aS (tW (jN (aR (dD false) (mC (.int 1)) (bA cG (aB (aC 0) (aB (mC (.int 4)) aJ))))) (.nm 7) lB)
 (aS (bV (cS false (aB (cS false (aB (cC (aB (mC (.str "either")) (aB (cS false (aB (cC (aB (mC (.str "end")) (aB (mC (.int 1)) aJ))) aJ)) (aB (cS false aJ) aJ)))) aJ)) (aB (cS false (aB (cC (aB (mC (.str "end")) (aB (mC (.int 1)) aJ))) aJ)) aJ))) (.nm 8))
 (aS (bR (Bu (mB (aR eV (aC 5) (mC (.int 1)))) (mB (aR eV (aC 5) (mC (.int 3))))) (bS (aR (dD false) (aC 6) (aR bW (aC 8) (aR uV (aC 5) (mC (.int 2)))))) bE)
 (aS (bR (mB (aR eV (aC 5) (mC (.int 2)))) (bS (aR (dD false) (aR bW (aC 8) (mC (.int 0))) (aC 6))) bE)
 (bS (aC 6))))) [some (.cel p), some (.dat (.int mood)), some (.cel q), some (.cel c), some (.dat (.int low)), some (.dat (.int d)), some (.dat (.lst (bP ls))), none, none] T) = .ok (.dat (.lst (bP ls'))) S' /\ Left p q c N many S (r + 2) 3 ls' S' r' l' := fun ls T r1 l1 DT sT r10 hsz g => by
  obtain ⟨x, T1, e3, x0, x1, D3, s3⟩ := DT.draw (k := 4) (by decide) (by decide)
  obtain ⟨l4, T4, r4, c4, e4, L4⟩ := BC (z8 := none) (z5 := some (.dat (.int d))) h0 h7 lo m3 (gK 0 (1 + x).toNat) ls T1 r1 l1 D3 r10 (by omega) g
  have hs4 := L4.sz;have hr4 := L4.r0;have hl4 := eI l4;have s4 := sT.trans (s3.trans L4.sam);simp! [e3, gT (show -(2 ^ 62) <= 1 + x by omega) (show 1 + x < 2 ^ 62 by omega), e4]
  have hA : GdL many [Hr] 3 := ⟨⟨by omega, ⟨⟨by omega, by omega⟩, trivial⟩, trivial⟩, trivial⟩
  have hB : GdL many [.fin 1] 3 := ⟨⟨by omega, by omega⟩, trivial⟩
  have a1 : (bP l4).length + (bP [Hr]).length <= sizeLine := sz (by rw [cY, cY]; simp; omega)
  have a2 : (bP l4).length + (bP [.fin 1]).length <= sizeLine := sz (by rw [cY, cY]; simp; omega)
  have a3 : (bP [Hr]).length + (bP l4).length <= sizeLine := sz (by rw [cY, cY]; simp; omega)
  have q1 : ∀ T, bW (.dat (.lst [.lst [.tup [.str "either", .lst [.tup [.str "end", .int 1]], .lst []]], .lst [.tup [.str "end", .int 1]]])) (.dat (.int 0)) T = .ok (.dat (.lst (bP [Hr]))) T := fun T => rfl
  have q2 : ∀ T, bW (.dat (.lst [.lst [.tup [.str "either", .lst [.tup [.str "end", .int 1]], .lst []]], .lst [.tup [.str "end", .int 1]]])) (.dat (.int 1)) T = .ok (.dat (.lst (bP [.fin 1]))) T := fun T => rfl
  rcases (by omega : d = 0 \/ d = 1 \/ d = 2 \/ d = 3 \/ d = 4 \/ d = 5) with rfl | rfl | rfl | rfl | rfl | rfl
  ·simp! [if_true]
   exact ⟨l4, T4, r4, c4, rfl, L4.dr, s4, hr4, by omega, L4.gd⟩
  ·have f1 : ∀ T, uV (.dat (.int 1)) (.dat (.int 2)) T = .ok (.dat (.int 0)) T := fun T => rfl
   simp! [f1, q1, gL a1];refine ⟨l4 ++ [Hr], T4, r4, c4, by rw [oS]; rfl, L4.dr, s4, hr4, ?_, L4.gd.app hA⟩
   rw [iY]; simp only [cD, Hr, Stt.size]; omega
  ·simp! [q1, gL a3]
   refine ⟨[Hr] ++ l4, T4, r4, c4, by rw [oS]; rfl, L4.dr, s4, hr4, ?_, hA.app L4.gd⟩
   rw [iY]; simp only [cD, Hr, Stt.size]; omega
  ·have f1 : ∀ T, uV (.dat (.int 3)) (.dat (.int 2)) T = .ok (.dat (.int 1)) T := fun T => rfl
   simp! [f1, q2, gL a2];refine ⟨l4 ++ [.fin 1], T4, r4, c4, by rw [oS]; rfl, L4.dr, s4, hr4, ?_, L4.gd.app hB⟩
   rw [iY]; simp only [cD, Stt.size]; omega
  ·simp! [if_true]
   exact ⟨l4, T4, r4, c4, rfl, L4.dr, s4, hr4, by omega, L4.gd⟩
  ·simp! [if_true]
   exact ⟨l4, T4, r4, c4, rfl, L4.dr, s4, hr4, by omega, L4.gd⟩
 have fin0 := fin [] S2 r l D2 (s1.trans s2) r0 (by simp [cD]) trivial
 rw [KG] at fin0
 by_cases ha : a = 0
 ·by_cases hr : 3 < r
  ·by_cases hl : 0 < l
   ·obtain ⟨la, Sa, ra, ca, ea, La⟩ := MK D2 h0 h7 hr m1 m3
    have := La.sz;have f := fin la Sa ra ca La.dr (s1.trans (s2.trans La.sam)) La.r0 (by omega) La.gd
    rw [KG] at f;simp! [e1, e2, decide_eq_true ha, D2.ixq, decide_eq_true hr, D2.ixc0, decide_eq_true hl, ea] at f ⊢;exact f
   ·simp! [e1, e2, decide_eq_true ha, D2.ixq, decide_eq_true hr, D2.ixc0, decide_eq_false hl] at fin0 ⊢
    exact fin0
  ·simp! [e1, e2, decide_eq_true ha, D2.ixq, decide_eq_false hr] at fin0 ⊢
   exact fin0
 ·simp! [e1, e2, decide_eq_false ha] at fin0 ⊢
  exact fin0
structure Bk (p n N : Nat) (S0 : aO) (many l : Int) (bs : List (List Stt)) (T : aO) : Prop where
 ls : LS T
 n2 : 2 <= N
 hp : p < n
 len : n + 2 <= T.length
 pool : ∃ ks, T[p]? = some (PL ks) /\ ks.length = N
 call : T[n]? = some (PL [l, many])
 bod : T[n + 1]? = some (.lst (bls bs))
 old : ∀ i, i < n -> i ≠ p -> T[i]? = S0[i]?
theorem sF {T : aO} {c : Cell} {i : Nat} (h : i < T.length) : (T ++ [c])[i]? = T[i]? := aN h
theorem FC {p n N : Nat} {S0 T : aO} {many l mood low rm : Int} {bs : List (List Stt)} (B : Bk p n N S0 many l bs T) (h0 : 0 <= mood) (h7 : mood <= 7) (lo : 0 <= low) (r0 : 0 <= rm) (r8 : rm <= 8) (m1 : 1 <= many) (m3 : many <= 3) (hb : bs.length <= 3) :
  ∃ (b : List Stt) (T2 : aO) (l' : Int), vU [.cel p, .dat (.int mood), .cel T.length, .cel n, .dat (.int low)] (T ++ [PL [rm]]) = .ok (.dat (.lst (bP b))) T2 /\ T2[n + 1]? = some (.lst (bls bs)) /\ GdL many b 3 /\ (cD b : Int) <= rm + 2 /\ Bk p n N S0 many l' (bs ++ [b]) (T2.set (n + 1) (.lst (bls bs ++ [.lst (bP b)]))) := by
 obtain ⟨ks, hk, hkl⟩ := B.pool;have hlen := B.len;have hp := B.hp;have D : Dr p T.length n N many (T ++ [PL [rm]]) rm l := ⟨B.ls.app, B.n2, ⟨ks, by rw [sF (by omega)]; exact hk, hkl⟩, by simp, by rw [sF (by omega)]; exact B.call, by omega, by omega, by omega⟩
 obtain ⟨b, T2, r', l', e, L⟩ := SC D h0 h7 lo r0 r8 m1 m3;have hsz := L.sz;have hr := L.r0;have h1 : T2[n + 1]? = some (.lst (bls bs)) := by
  rw [L.sam.2 (n + 1) (by simp; omega), sF (by omega)]
  exact B.bod
 have hl2 : T2.length = T.length + 1 := by rw [L.sam.1]; simp
 refine ⟨b, T2, l', e, h1, L.gd, by omega, L.dr.ls.set, B.n2, B.hp, by simp; omega, ?_, by rw [nJ (by omega)]; exact L.dr.call, ?_, fun i hi hip => ?_⟩
 ·obtain ⟨ks', hk', hkl'⟩ := L.dr.pool
  exact ⟨ks', by rw [nJ (by omega)]; exact hk', hkl'⟩
 ·rw [tJ h1]
  simp [bls]
 ·rw [nJ (by omega), L.sam.2 i (by simp; omega), sF (by omega)]
  exact B.old i hi hip
theorem BB {p n N : Nat} {S0 : aO} {many mood most size : Int} {wild : Bool} (h0 : 0 <= mood) (h7 : mood <= 7) (m1 : 1 <= many) (m3 : many <= 3) (z3 : 3 <= size) (z8 : size <= 8) :
  ∀ (j : Nat) (i : Int) (bs : List (List Stt)) (T : aO) (l : Int), Bk p n N S0 many l bs T -> 0 <= i -> bs.length + j <= 3 -> (∀ b ∈ bs, GdL many b 3 /\ (cD b : Int) <= size) -> ∃ (bs' : List (List Stt)) (T' : aO) (l' : Int),
   loop (.nm 8) nH (gK i j) [some (.cel p), some (.dat (.int most)), some (.dat (.int size)), some (.dat (.int mood)), some (.dat (.bl wild)), some (.dat (.int many)), some (.cel n), some (.cel (n + 1)), none, none, none] T =
    .next [some (.cel p), some (.dat (.int most)), some (.dat (.int size)), some (.dat (.int mood)), some (.dat (.bl wild)), some (.dat (.int many)), some (.cel n), some (.cel (n + 1)), none, none, none] T' /\ Bk p n N S0 many l' bs' T' /\ (∀ b ∈ bs', GdL many b 3 /\ (cD b : Int) <= size) /\ bs'.length = bs.length + j
 | 0, i, bs, T, l, B, _, _, g => ⟨bs, T, l, rfl, B, g, rfl⟩
 | j + 1, i, bs, T, l, B, hi, hj, g => by
  have hlen := B.len;have hrm : 0 <= size - 2 - (if decide ((2 : Int) < many) = true then 1 else 0) /\ size - 2 - (if decide ((2 : Int) < many) = true then 1 else 0) <= size - 2 := by split <;> omega
  generalize hR : (size - 2 - (if decide ((2 : Int) < many) = true then (1 : Int) else 0)) = R at hrm
  obtain ⟨b1, T1, l1, e1, a1, g1, s1, B1⟩ := FC (rm := R) (mood := mood) (low := 0) B h0 h7 (by omega) (by omega) (by omega) m1 m3 (by omega)
  obtain ⟨b2, T2, l2, e2, a2, g2, s2, B2⟩ := FC (rm := R) (mood := mood) (low := i + 1) B h0 h7 (by omega) (by omega) (by omega) m1 m3 (by omega)
  have hat : (T ++ [PL [R]])[n + 1]? = some (.lst (bls bs)) := by rw [sF (by omega)]; exact B.bod
  have hsl : (bls bs).length < sizeLine := by rw [rL]; exact Nat.lt_of_le_of_lt (show bs.length <= 3 by omega) (by decide)
  rw [show PL [R] = .lst [.int R] from rfl] at e1 e2 hat
  rw [oG, loop];simp only [pE, bY, cE];rw [nH];cases wild with
  | true =>
   simp! [hR, mP hat, e1, nP a1 hsl];rw [<- nH];obtain ⟨bs', T', l', e, B', g', n'⟩ := BB (most := most) h0 h7 m1 m3 z3 z8 j (i + 1) (bs ++ [b1]) _ l1 B1 (by omega) (by simp; omega) (fun b hb => by
    rcases dH.mp hb with hb | hb
    ·exact g b hb
    ·rw [bK.mp hb]; exact ⟨g1, by omega⟩)
   exact ⟨bs', T', l', e, B', g', by rw [n']; simp; omega⟩
  | false =>
   simp! [hR, mP hat, e2, nP a2 hsl];rw [<- nH];obtain ⟨bs', T', l', e, B', g', n'⟩ := BB (most := most) h0 h7 m1 m3 z3 z8 j (i + 1) (bs ++ [b2]) _ l2 B2 (by omega) (by simp; omega) (fun b hb => by
    rcases dH.mp hb with hb | hb
    ·exact g b hb
    ·rw [bK.mp hb]; exact ⟨g2, by omega⟩)
   exact ⟨bs', T', l', e, B', g', by rw [n']; simp; omega⟩
structure Good (bs : List (List Stt)) : Prop where
 l1 : 1 <= bs.length
 l3 : bs.length <= 3
 gd : ∀ b ∈ bs, GdL (bs.length : Int) b 3 /\ cD b <= 8
theorem Rz {S : aO} {p : Nat} {ks : List Int} {most size : Int} (hP : PoolAt S p ks) (ls : LS S) (m1 : 1 <= most) (m3 : most <= 3) (z3 : 3 <= size) (z8 : size <= 8) :
  ∃ (bs : List (List Stt)) (ks' : List Int), zS [.cel p, .dat (.int most), .dat (.int size)] S = .ok (.dat (.lst (bls bs))) (S.set p (PL ks')) /\ Good bs /\ (∀ b ∈ bs, (cD b : Int) <= size) /\ (bs.length : Int) <= most /\ ks'.length = ks.length := by
 obtain ⟨d1, k1, e1, h10, h11, l1⟩ := fL hP (k := 6) (by decide) (by decide)
 obtain ⟨d2, k2, e2, h20, h21, l2⟩ := fL (hP.next l1) (k := 8) (by decide) (by decide)
 obtain ⟨d3, k3, e3, h30, h31, l3⟩ := fL ((hP.next l1).next l2) (k := most) (by omega) (by omega)
 simp only [eN] at e2 e3;have hp : p < S.length := (aI.mp hP.1).1;have P3 : PoolAt (S.set p (PL k3)) p k3 := ⟨tJ hP.1, by have := hP.2; omega⟩
 have ls3 : LS (S.set p (PL k3)) := ls.set;have hS3 : (S.set p (PL k3)).length = S.length := by simp
 rw [show zS [.cel p, .dat (.int most), .dat (.int size)] S = trunc S.length (cF (AU [some (.cel p), some (.dat (.int most)), some (.dat (.int size)), none, none, none, none, none, none, none, none] S)) from rfl]
 unfold AU;simp! [e1, e2, e3, gT (show -(2 ^ 62) <= 1 + d3 by omega) (show 1 + d3 < 2 ^ 62 by omega), List.length_set, bL]
 have B : Bk p S.length k3.length S (1 + d3) 4 [] (S.set p (PL k3) ++ [PL [4, 1 + d3]] ++ [.lst []]) := by
  refine ⟨ls3.app.app, by have := hP.2; omega, hp, by simp, ⟨k3, ?_, rfl⟩, ?_, ?_, fun i hi hip => ?_⟩
  ·rw [sF (by simp; omega), sF (by simp; omega)]; exact P3.1
  ·rw [sF (by simp), <- hS3]; simp
  ·rw [show S.length + 1 = (S.set p (PL k3) ++ [PL [4, 1 + d3]]).length by simp]; simp [bls]
  ·rw [sF (by simp; omega), sF (by simp; omega), nJ (Ne.symm hip)]
 obtain ⟨bs, T, l, e, B', g, nb⟩ := BB (p := p) (most := most) (wild := decide (d2 = 0)) (mood := d1) h10 (by omega) (by omega) (by omega) z3 z8 (1 + d3).toNat 0 [] _ 4 B (by omega) (by simp; omega) (fun b hb => nomatch hb)
 have nb' : bs.length = (1 + d3).toNat := by rw [nb]; simp
 have hm : (bs.length : Int) = 1 + d3 := by omega
 rw [show ([PL [4, 1 + d3]] : aO) = [.lst [.int 4, .int (1 + d3)]] from rfl, show PL k3 = .lst (k3.map D.int) from rfl] at e
 simp! [e, nO B'.bod];obtain ⟨ks', hk, hkl⟩ := B'.pool;have hlen := B'.len;have et : (T.set (S.length + 1) Cell.dead).take S.length = S.set p (PL ks') := by
  apply gQ
  intro i;rw [eA]
  by_cases hi : i < S.length
  ·rw [if_pos hi, nJ (by omega)]
   by_cases hip : i = p
   ·rw [hip, hk, tJ hP.1]
   ·rw [nJ (Ne.symm hip)]; exact B'.old i hi hip
  ·rw [if_neg hi, dC (by simp; omega)]
 refine ⟨bs, ks', ?_, ⟨by omega, by omega, fun b hb => ?_⟩, fun b hb => (g b hb).2, by omega, by omega⟩
 ·show trunc S.length (.ok (.dat (.lst (bls bs))) (T.set (S.length + 1) Cell.dead)) = _
  dsimp only [trunc];rw [et];have : ((S.set p (PL ks')).all fun c => c.below S.length) = true := bT.mpr fun c hc => (LS.set ls : LS (S.set p (PL ks'))) c hc _
  simp only [Vl.below, this, Bool.and_self, if_true]
 ·have := (g b hb).2
  rw [hm];exact ⟨(g b hb).1, by omega⟩
def pre (i : Int) (p : List Int × Stt) : List Int × Stt := (i :: p.1, p.2)
theorem take_set {T : aO} {n c : Nat} {x : Cell} (h : n <= c) : (T.set c x).take n = T.take n := by
 apply gQ
 intro i;rw [eA, eA]
 by_cases hi : i < n
 ·rw [if_pos hi, if_pos hi, nJ (by omega)]
 ·rw [if_neg hi, if_neg hi]
theorem KL {many : Int} : ∀ {l : List Stt} {n : Nat} {lv at_ met : Int} {path : List Int}, GdL many l n -> (∀ s ∈ l, s.size <= 9) -> 0 <= lv -> lv + n <= 3 -> at_ + l.length <= 8 -> met + cD l <= 12 -> 0 <= met -> 0 <= at_ -> wX lv path at_ l met = .okk (met + cD l)
 | [], n, lv, at_, met, path, h, _, h0, h3, h8, h12, hm, ha => by simp [wX, cD]
 | s :: r, n, lv, at_, met, path, h, h9, h0, h3, h8, h12, hm, ha => by
  have hp := size_pos s;have hs9 := h9 s (aV ..);simp only [cD, aL] at h8 h12;have hw : s.wf lv = true := by
   cases s with
   | cmd c => rfl
   | fin c => rfl
   | bad => exact h.1.elim
   | odd x => exact h.1.elim
   | keep b => have := h.1.1; simp [Stt.wf]; omega
   | again b => have := h.1.1; simp [Stt.wf]; omega
   | either a b => have := h.1.1; simp [Stt.wf]; omega
   | call g f a b => have := h.1.1.1; simp [Stt.wf]; omega
  rw [wX, if_neg (by rintro (e | e | e) <;> first | omega | (rw [hw] at e; cases e)), Hj (n := n) h.1 h0 h3 hs9 (by omega) (by omega), FR.then_okk, KL (n := n) h.2 (fun s hs => h9 s (aK _ hs)) h0 h3 (by omega) (by omega) (by omega) (by omega), cD]
  congr 1
  omega
theorem GdL.okTop {many : Int} : ∀ {l : List Stt} {n : Nat}, GdL many l n -> (∀ s ∈ l, s.size <= 9) -> l.length <= 10 -> OkL many l n
 | [], n, _, _, _ => trivial
 | s :: r, n, h, h9, hl => by
  simp only [aL] at hl;exact ⟨⟨Stt.Gd.ok h.1 (by have := h9 s (aV ..); omega), by omega⟩, GdL.okTop h.2 (fun s hs => h9 s (aK _ hs)) (by omega)⟩
structure Good2 (bs : List (List Stt)) : Prop where
 l1 : 1 <= bs.length
 l3 : bs.length <= 3
 gd : ∀ b ∈ bs, GdL (bs.length : Int) b 3 /\ b.length <= 8 /\ cD b <= 12 /\ ∀ s ∈ b, s.size <= 9
theorem CF : ∀ {l : List Stt} {s : Stt}, s ∈ l -> s.size <= cD l
 | x :: r, s, h => by
  rcases bJ.mp h with rfl | h
  ·simp [cD]
  ·have := CF h; simp [cD]; omega
theorem Good.two {bs : List (List Stt)} (h : Good bs) : Good2 bs := ⟨h.l1, h.l3, fun b hb => by
 obtain ⟨h1, h2⟩ := h.gd b hb;have := eI b;exact ⟨h1, by omega, by omega, fun s hs => by have := CF hs; omega⟩⟩
theorem Good2.ok {bs : List (List Stt)} (h : Good2 bs) : ∀ b ∈ bs, OkL (bs.length : Int) b 3 := fun b hb => by
 obtain ⟨h1, h2, h3, h4⟩ := h.gd b hb;exact h1.okTop h4 (by omega)
theorem good2_none : ∀ {bs : List (List Stt)} {p many : Int}, (∀ b ∈ bs, GdL many b 3 /\ b.length <= 8 /\ cD b <= 12 /\ ∀ s ∈ b, s.size <= 9) -> AH p bs = none
 | [], p, many, _ => rfl
 | b :: r, p, many, h => by
  obtain ⟨h1, h2, h3, h4⟩ := h b (aV ..);rw [AH, KL (n := 3) h1 h4 (by omega) (by omega) (by omega) (by omega) (by omega) (by omega)]
  exact good2_none fun b hb => h b (aK _ hb)
theorem Ij {S : aO} {bs : List (List Stt)} (ls : LS S) (h : Good2 bs) : Ee false "Book" lP [.dat (.lst (bls bs))] S = .ok (.dat (gP bs)) S := by
 rw [QZ ls h.ok (by omega) rfl h.l1 h.l3, good2_none h.gd]
def Cmd.word : Cmd -> Str
 | .go _ => "go"
 | .turn _ => "turn"
 | .mirror => "mirror"
 | .scale _ => "scale"
 | .aim _ _ => "aim"
 | .place _ _ => "place"
 | .mark => "mark"
 | .ret => "return"
 | .exch => "exchange"
def Stt.word : Stt -> Str
 | .cmd c => c.word
 | .fin _ => "end"
 | .keep _ => "keep"
 | .again _ => "again"
 | .either _ _ => "either"
 | .call _ _ _ _ => "call"
 | _ => "bad"
theorem Fn {s : Stt} {S : aO} (h : s.isOdd = false) : bW (.dat s.d) (.dat (.int 0)) S = .ok (.dat (.str s.word)) S := by
 cases s with
 | cmd c => cases c <;> rfl
 | odd x => cases h
 | _ => rfl
def stZ : List Int -> List Stt -> Option Stt
 | [], _ => none
 | [i], l => if 0 <= i then l[i.toNat]? else none
 | i :: j :: r, l => if 0 <= i /\ 0 <= j then (match l[i.toNat]? with
  | some s => (match s.blocks[j.toNat]? with
   | some b => stZ r b
   | none => none)
  | none => none) else none
theorem SF {S : aO} {a0 a1 : Option Vl} {many : Int} : ∀ (m : Nat) (π : List Int) (l : List Stt) (k n : Nat) (x : Vl) (s : Stt), π.length <= m -> OkL many l k -> n % 2 = 0 -> stZ π l = some s ->
  ∃ (b : Vl), loop (.tp [4, 5]) jT (eG n (π.map D.int)) [a0, a1, some x, some (.dat (.lst (bP l))), none, none] S = .next [a0, a1, some (.dat s.d), some b, none, none] S /\ ∃ j, j <= k /\ s.Ok many j
 | m, [], l, k, n, x, s, _, _, _, h => by cases h
 | m, [i], l, k, n, x, s, hm, ho, hn, h => by
  simp only [stZ] at h;split at h
  ·rename_i hi
   have hlt : i.toNat < l.length := (aI.mp h).1;have hs := ho.mem s (bN h);have hix : atI (bP l) i = some s.d := by
    rw [eX (n := i.toNat) (by omega), qO, cM, h]
    rfl
   rw [aM, eG, loop];simp only [pE, kG, aL, bF, if_true, bY, cE];rw [jT];simp! [eK, decide_eq_true hi, cY, decide_eq_true (show i < (l.length : Int) by omega), mO (show (0 : Int) < 2 by decide), decide_eq_true (show ((n : Nat) : Int) % 2 = 0 by omega), rD hix, wZ hs.no, bI, eG, loop]
   exact ⟨_, rfl, k, bX _, hs⟩
  ·cases h
 | 0, i :: j :: r, l, k, n, x, s, hm, _, _, _ => by simp at hm
 | m + 1, i :: j :: r, l, k, n, x, s, hm, ho, hn, h => by
  simp only [stZ] at h;split at h
  ·rename_i hij
   cases q : l[i.toNat]? with
   | none => rw [q] at h; cases h
   | some t =>
    rw [q] at h;dsimp only at h;cases q2 : t.blocks[j.toNat]? with
    | none => rw [q2] at h; cases h
    | some b =>
     rw [q2] at h;dsimp only at h;have hlt : i.toNat < l.length := (aI.mp q).1;have hlt2 : j.toNat < t.blocks.length := (aI.mp q2).1;have ht := ho.mem t (bN q);obtain ⟨hk, hb⟩ := BD ht b (bN q2);have hix : atI (bP l) i = some t.d := by
      rw [eX (n := i.toNat) (by omega), qO, cM, q]
      rfl
     have hix2 : atI (bls t.blocks) j = some (.lst (bP b)) := by
      rw [eX (n := j.toNat) (by omega)]
      simp [bls, q2]
     simp only [aL] at hm;obtain ⟨c, e, j', h1, h2⟩ := SF (S := S) (a0 := a0) (a1 := a1) m r b (k - 1) (n + 1 + 1) (.dat t.d) s (by omega) hb (by omega) h
     refine ⟨c, ?_, j', by omega, h2⟩
     rw [aM, aM, eG, loop];simp only [pE, kG, aL, bF, if_true, bY, cE];rw [jT];simp! [eK, decide_eq_true hij.1, cY, decide_eq_true (show i < (l.length : Int) by omega), mO (show (0 : Int) < 2 by decide), decide_eq_true (show ((n : Nat) : Int) % 2 = 0 by omega), rD hix, wZ ht.no]
     rw [eG, loop];simp only [pE, kG, aL, bF, if_true, bY, cE];simp! [eK, decide_eq_true hij.2, rL, decide_eq_true (show j < (t.blocks.length : Int) by omega), mO (show (0 : Int) < 2 by decide), decide_eq_false (show ¬ ((n + 1 : Nat) : Int) % 2 = 0 by omega), rD hix2]
     rw [<- jT];exact e
  ·cases h
theorem O5 {S : aO} {bs : List (List Stt)} {p : Int} (hl : bs.length <= 10) : kX [.dat (gP bs), .dat (.int p)] S = .ok (.dat (.bl (decide (0 <= p) && decide (p < (bs.length : Int))))) S := by
 rw [Bf];unfold kY;simp! [eK, Nf hl]
 by_cases h : 0 <= p
 ·simp! [decide_eq_true h, Nf hl]; rfl
 ·simp! [decide_eq_false h]; rfl
mutual
def repS (x : D) (k : Nat) : Stt -> Stt
 | .keep b => .keep (repL x k b)
 | .again b => .again (repL x k b)
 | .either a b => if k < cD a then .either (repL x k a) b else .either a (repL x (k - cD a) b)
 | .call g f a b => if k < cD a then .call g f (repL x k a) b else .call g f a (repL x (k - cD a) b)
 | s => s
def repL (x : D) (k : Nat) : List Stt -> List Stt
 | [] => []
 | s :: r => if k = 0 then .odd x :: r else if k < s.size then repS x (k - 1) s :: r else s :: repL x (k - s.size) r
end
inductive Deed where
 | cmd (c : Cmd) | op | cl
def Deed.d : Deed -> D
 | .cmd c => c.d
 | .op => .tup [.str "open"]
 | .cl => .tup [.str "close"]
abbrev fY := Int × Bool × List Stt × List Stt
def TK (c : fY) : D := (Stt.call c.1 c.2.1 c.2.2.1 c.2.2.2).d
inductive Task where
 | lst (l : List Stt) (i : Nat) | close | again (b : List Stt) | call (p : Nat) (st : Option fY)
def Task.d : Task -> D
 | .lst l i => .tup [.str "list", .lst (bP l), .int (i : Int)]
 | .close => .tup [.str "close"]
 | .again b => .tup [.str "again", .lst (bP b)]
 | .call p none => .tup [.str "call", .int (p : Int), .non]
 | .call p (some c) => .tup [.str "call", .int (p : Int), TK c]
structure Mc where
 bs : List (List Stt)
 bits : List Int
 taken : Nat
 deeds : List Deed
 stk : List Task
 act : List (List Nat)
 ended : Int
def tG {α : Type} (f : α -> D) (l : List α) : List D := l.reverse.map f
theorem rvD_cons {α : Type} {f : α -> D} {x : α} {l : List α} : tG f (x :: l) = tG f l ++ [f x] := by simp [tG]
theorem nU {α : Type} {f : α -> D} {l : List α} : (tG f l).length = l.length := by simp [tG]
abbrev Cf (n : Nat) : D := .int (n : Int)
def J3 (n : Nat) (m : Mc) : Cell := .ins "Execution" [("own", .dat (.lst (bls m.bs))), ("bits", .dat (.lst (m.bits.map D.int))), ("taken", .dat (.int (m.taken : Int))), ("deeds", .cel (n + 1)), ("stack", .cel (n + 2)), ("active", .cels (fD (n + 3) m.act.length)), ("ended", .dat (.int m.ended))]
def eM (S0 : aO) (m : Mc) : aO := S0 ++ (J3 S0.length m :: .lst (m.deeds.map Deed.d) :: .lst (tG Task.d m.stk) :: m.act.map fun a => .lst (tG Cf a))
section
variable {S0 : aO} {m : Mc}
theorem sC : (eM S0 m)[S0.length]? = some (J3 S0.length m) := by simp [eM]
theorem DE : (eM S0 m)[S0.length + 1]? = some (.lst (m.deeds.map Deed.d)) := by
 rw [eM, bD (by omega), show S0.length + 1 - S0.length = 1 by omega]; rfl
theorem wB : (eM S0 m)[S0.length + 2]? = some (.lst (tG Task.d m.stk)) := by
 rw [eM, bD (by omega), show S0.length + 2 - S0.length = 2 by omega]; rfl
theorem DF {p : Nat} {a : List Nat} (h : m.act[p]? = some a) : (eM S0 m)[S0.length + 3 + p]? = some (.lst (tG Cf a)) := by
 rw [eM, bD (by omega), show S0.length + 3 + p - S0.length = p + 1 + 1 + 1 by omega, iS, iS, iS, cM, h]
 rfl
theorem KN {c : Cell} : (eM S0 m).set S0.length c = S0 ++ (c :: .lst (m.deeds.map Deed.d) :: .lst (tG Task.d m.stk) :: m.act.map fun a => .lst (tG Cf a)) := by simp [eM]
theorem Rg {t : Nat} : (eM S0 m).set S0.length (J3 S0.length { m with taken := t }) = eM S0 { m with taken := t } := by rw [KN]; rfl
theorem Rh {w : Int} : (eM S0 m).set S0.length (J3 S0.length { m with ended := w }) = eM S0 { m with ended := w } := by rw [KN]; rfl
theorem Ri {ds : List Deed} : (eM S0 m).set (S0.length + 1) (.lst (ds.map Deed.d)) = eM S0 { m with deeds := ds } := by
 rw [eM, dM _ _ (by omega), show S0.length + 1 - S0.length = 1 by omega]; rfl
theorem G1 {ks : List Task} : (eM S0 m).set (S0.length + 2) (.lst (tG Task.d ks)) = eM S0 { m with stk := ks } := by
 rw [eM, dM _ _ (by omega), show S0.length + 2 - S0.length = 2 by omega]; rfl
theorem KM {p : Nat} {a : List Nat} : (eM S0 m).set (S0.length + 3 + p) (.lst (tG Cf a)) = eM S0 { m with act := m.act.set p a } := by
 rw [eM, dM _ _ (by omega), show S0.length + 3 + p - S0.length = p + 1 + 1 + 1 by omega, bY, bY, bY]
 simp [eM, J3, List.map_set]
theorem VE : Bb "Execution" "own" (.cel S0.length) (eM S0 m) = .ok (.dat (.lst (bls m.bs))) (eM S0 m) := uD sC rfl
theorem Fw : Bb "Execution" "bits" (.cel S0.length) (eM S0 m) = .ok (.dat (.lst (m.bits.map D.int))) (eM S0 m) := uD sC rfl
theorem oO : Bb "Execution" "taken" (.cel S0.length) (eM S0 m) = .ok (.dat (.int (m.taken : Int))) (eM S0 m) := uD sC rfl
theorem qM : Bb "Execution" "deeds" (.cel S0.length) (eM S0 m) = .ok (.cel (S0.length + 1)) (eM S0 m) := uD sC rfl
theorem fK : Bb "Execution" "stack" (.cel S0.length) (eM S0 m) = .ok (.cel (S0.length + 2)) (eM S0 m) := uD sC rfl
theorem B5 : Bb "Execution" "active" (.cel S0.length) (eM S0 m) = .ok (.cels (fD (S0.length + 3) m.act.length)) (eM S0 m) := uD sC rfl
theorem Oj : Bb "Execution" "ended" (.cel S0.length) (eM S0 m) = .ok (.dat (.int m.ended)) (eM S0 m) := uD sC rfl
theorem Ax {p : Nat} (h : p < m.act.length) : bW (.cels (fD (S0.length + 3) m.act.length)) (.dat (.int (p : Int))) (eM S0 m) = .ok (.cel (S0.length + 3 + p)) (eM S0 m) := by
 have : atI (fD (S0.length + 3) m.act.length) (p : Int) = some (S0.length + 3 + p) := by
  rw [eX (n := p) rfl];simp [h]
 simp only [bW, this]
theorem A4 {f : Str} (h : ∀ x ∈ (["own", "bits", "taken", "deeds", "stack", "active", "ended"] : List Str), x ≠ f) : pH (eM S0 m) "Execution" f (.cel S0.length) = true := by
 have e := sC (S0 := S0) (m := m);simp only [pH, e, J3];simp [h]
theorem L7 {ρ : Ev} {w : Int} : yB "Execution" "ended" ρ (.dat (.int w)) (.cel S0.length) (eM S0 m) = .next ρ (eM S0 { m with ended := w }) := by
 rw [Cy (fs := [("own", .dat (.lst (bls m.bs))), ("bits", .dat (.lst (m.bits.map D.int))), ("taken", .dat (.int (m.taken : Int))), ("deeds", .cel (S0.length + 1)), ("stack", .cel (S0.length + 2)), ("active", .cels (fD (S0.length + 3) m.act.length)), ("ended", .dat (.int m.ended))]) sC (by simp)]
 congr 1
 simp only [oH, FQ, String.reduceEq, if_false, if_true];exact Rh (S0 := S0) (m := m) (w := w)
theorem MJ {ρ : Ev} {o e : FE} (ho : o ρ (eM S0 m) = .ok (.cel S0.length) (eM S0 m)) (he : e ρ (eM S0 m) = .ok (.dat (.int 1)) (eM S0 m)) : EY (fun x y => x + y) "Execution" "taken" o e ρ (eM S0 m) = .next ρ (eM S0 { m with taken := m.taken + 1 }) := by
 rw [SE (w := 1) (u := (m.taken : Int)) ho he sC rfl (by simp)]
 congr 1
 simp only [oH, FQ, String.reduceEq, if_false, if_true];exact Rg (S0 := S0) (m := m) (t := m.taken + 1)
end
theorem IS {n : Nat} (h : n < 10000000) : n < sizeLine := Nat.lt_trans h (by decide)
structure Mc.Fit (m : Mc) : Prop where
 d : m.deeds.length < 4000000
 k : m.stk.length < 4000000
 a : ∀ a ∈ m.act, a.length < 4000000
section
variable {S0 : aO} {m : Mc}
theorem pU {ρ : Ev} {b : FE} {t : Task} (F : m.stk.length < 5000000) (hb : b ρ (eM S0 m) = .ok (.dat t.d) (eM S0 m)) : yC b ρ (.cel (S0.length + 2)) (eM S0 m) = .ok (.dat .non) (eM S0 { m with stk := t :: m.stk }) := by
 rw [mP wB, hb, eL, nP wB (by rw [nU]; exact IS (by omega)), <- rvD_cons, G1]
theorem pZ {ρ : Ev} {b : FE} {t : Deed} (F : m.deeds.length < 5000000) (hb : b ρ (eM S0 m) = .ok (.dat t.d) (eM S0 m)) : yC b ρ (.cel (S0.length + 1)) (eM S0 m) = .ok (.dat .non) (eM S0 { m with deeds := m.deeds ++ [t] }) := by
 rw [mP DE, hb, eL, nP DE (by rw [aP]; exact IS (by omega)), show m.deeds.map Deed.d ++ [t.d] = (m.deeds ++ [t]).map Deed.d by simp, Ri]
theorem SH {ρ : Ev} {b : FE} {p k : Nat} {a : List Nat} (h : m.act[p]? = some a) (F : a.length < 5000000) (hb : b ρ (eM S0 m) = .ok (.dat (.int (k : Int))) (eM S0 m)) : yC b ρ (.cel (S0.length + 3 + p)) (eM S0 m) = .ok (.dat .non) (eM S0 { m with act := m.act.set p (k :: a) }) := by
 rw [mP (DF h), hb, eL, nP (DF h) (by rw [nU]; exact IS (by omega)), show tG Cf a ++ [.int (k : Int)] = tG Cf (k :: a) from rvD_cons.symm, KM]
theorem zK {t : Task} {r : List Task} (h : m.stk = t :: r) : sA (.cel (S0.length + 2)) (eM S0 m) = .ok (.dat t.d) (eM S0 { m with stk := r }) := by
 have e := wB (S0 := S0) (m := m);rw [h, rvD_cons] at e;simp only [sA, e];rw [show (tG Task.d r ++ [t.d])[(tG Task.d r ++ [t.d]).length - 1]? = some t.d by simp]
 dsimp only;rw [kO, G1]
theorem Jt {p k : Nat} {a : List Nat} (h : m.act[p]? = some (k :: a)) : sA (.cel (S0.length + 3 + p)) (eM S0 m) = .ok (.dat (.int (k : Int))) (eM S0 { m with act := m.act.set p a }) := by
 have e := DF (S0 := S0) h;rw [rvD_cons] at e;simp only [sA, e];rw [show (tG Cf a ++ [Cf k])[(tG Cf a ++ [Cf k]).length - 1]? = some (Cf k) by simp]
 dsimp only;rw [kO, KM]
end
def lM (i : Int) : Er := ⟨"NoRun", ["index"], [.int i]⟩
theorem Jh {S0 : aO} {m : Mc} (h : m.taken = m.bits.length) : dY [.cel S0.length] (eM S0 m) = .err (lM (m.taken : Int)) (eM S0 m) := by
 rw [tD];unfold iA;simp! [oO, Fw, aP, decide_eq_true (show ((m.taken : Nat) : Int) = (m.bits.length : Int) by omega)]
 rfl
theorem Jg {S0 : aO} {m : Mc} {b : Int} (h : m.bits[m.taken]? = some b) : dY [.cel S0.length] (eM S0 m) = .ok (.dat (.int b)) (eM S0 { m with taken := m.taken + 1 }) := by
 have hl := (aI.mp h).1;have hix : atI (m.bits.map D.int) (((m.taken + 1 : Nat) : Int) - 1) = some (.int b) := by
  rw [eX (n := m.taken) (by omega), cM, h]; rfl
 have ea := MJ (S0 := S0) (m := m) (ρ := [some (.cel S0.length)]) (o := aC 0) (e := mC (.int 1)) rfl rfl;have hf := oO (S0 := S0) (m := { m with taken := m.taken + 1 })
 have hb := Fw (S0 := S0) (m := { m with taken := m.taken + 1 })
 rw [tD];unfold iA;simp! [oO, Fw, aP, decide_eq_false (show ¬ ((m.taken : Nat) : Int) = (m.bits.length : Int) by omega), ea, hf, hb, rD hix]
 rfl
def Ji : Option fY -> D
 | none => .non
 | some c => TK c
theorem JO {p : Nat} {st : Option fY} : (Task.call p st).d = .tup [.str "call", .int (p : Int), Ji st] := by cases st <;> rfl
def Mc.free (m : Mc) (p : Nat) : Prop := ∀ a k, m.act[p]? = some (k :: a) -> k ≠ m.taken
def Mc.enter (m : Mc) (p : Nat) (a : List Nat) (b : List Stt) (st : Option fY) : Mc := { m with act := m.act.set p (m.taken :: a), stk := .lst b 0 :: .call p st :: m.stk }
theorem K2 {S0 : aO} {m : Mc} {p : Nat} {a : List Nat} (h : m.act[p]? = some a) : fR (.cel (S0.length + 3 + p)) (eM S0 m) = .ok (.dat (.int (a.length : Int))) (eM S0 m) := by rw [qJ (DF h), nU]
theorem atI_last {α : Type} {xs : List α} {x : α} : atI (xs ++ [x]) (-1) = some x := by
 have e : ixN (xs ++ [x]).length (-1) = some xs.length := by
  unfold ixN;rw [if_neg (by omega), if_pos (by simp; omega)]
  congr 1
  simp;omega
 unfold atI;rw [e];simp
theorem HL {S0 : aO} {m : Mc} {p k : Nat} {a : List Nat} (h : m.act[p]? = some (k :: a)) : bW (.cel (S0.length + 3 + p)) (.dat (.int (-1))) (eM S0 m) = .ok (.dat (.int (k : Int))) (eM S0 m) := by
 refine OY (DF h) ?_
 rw [rvD_cons];exact atI_last
theorem Hq {S0 : aO} {m : Mc} {p : Nat} {a : List Nat} {b : List Stt} {st : Option fY} (F : m.Fit) (ha : m.act[p]? = some a) (hb : m.bs[p]? = some b) (hf : m.free p) : eD [.cel S0.length, .dat (.int (p : Int)), .dat (Ji st)] (eM S0 m) = .ok (.dat .non) (eM S0 (m.enter p a b st)) := by
 have hpl := (aI.mp ha).1;have hbx : atI (bls m.bs) (p : Int) = some (.lst (bP b)) := by
  rw [eX (n := p) rfl];simp [bls, hb]
 have Fa := F.a a (bN ha);have Fk := F.k;rw [rQ];unfold gJ;have e1 := SH (S0 := S0) (m := m) (k := m.taken) (ρ := [some (.cel S0.length), some (.dat (.int (p : Int))), some (.dat (Ji st)), some (.cel (S0.length + 3 + p))]) (b := gG "Execution" "taken" (aC 0)) ha (by omega) (by simp! [oO])
 have e2 := pU (S0 := S0) (m := { m with act := m.act.set p (m.taken :: a) }) (ρ := [some (.cel S0.length), some (.dat (.int (p : Int))), some (.dat (Ji st)), some (.cel (S0.length + 3 + p))]) (b := cC (aB (mC (.str "call")) (aB (aC 1) (aB (aC 2) aJ)))) (t := .call p st) (show m.stk.length < 5000000 by omega) (by simp! [JO])
 have hbx' := hbx;have e3 := pU (S0 := S0) (m := { m with act := m.act.set p (m.taken :: a), stk := .call p st :: m.stk }) (ρ := [some (.cel S0.length), some (.dat (.int (p : Int))), some (.dat (Ji st)), some (.cel (S0.length + 3 + p))]) (b := cC (aB (mC (.str "list")) (aB (aR bW (gG "Execution" "own" (aC 0)) (aC 1)) (aB (mC (.int 0)) aJ)))) (t := .lst b 0) (by simp; omega) (by simp! [VE, rD hbx]; rfl)
 have f2 := fK (S0 := S0) (m := { m with act := m.act.set p (m.taken :: a) })
 have f3 := fK (S0 := S0) (m := { m with act := m.act.set p (m.taken :: a), stk := .call p st :: m.stk })
 simp! [B5, Ax hpl, K2 ha];cases a with
 | nil =>
  simp! [bF, mR, B5, Ax hpl, e1, f2, e2, f3, e3];rfl
 | cons k a =>
  have hne : ¬ ((k : Nat) : Int) = (m.taken : Int) := fun e => hf a k ha (by omega)
  have hpos : (0 : Int) < ((a.length + 1 : Nat) : Int) := by omega
  simp! [aL, decide_eq_true hpos, HL ha, oO, decide_eq_false hne, B5, Ax hpl, e1, f2, e2, f3, e3];rfl
theorem Ow {S0 : aO} {m : Mc} {p : Nat} {a : List Nat} {st : Option fY} (ha : m.act[p]? = some (m.taken :: a)) : eD [.cel S0.length, .dat (.int (p : Int)), .dat (Ji st)] (eM S0 m) = .err (lM (-2)) (eM S0 m) := by
 have hpl := (aI.mp ha).1;rw [rQ];unfold gJ;simp! [B5, Ax hpl, K2 ha, aL, decide_eq_true (show (0 : Int) < ((a.length + 1 : Nat) : Int) by omega), HL ha, oO]
 rfl
def Mc.leave (m : Mc) (p : Nat) (a : List Nat) (st : Option fY) (way : Int) : Mc := match st with
 | none => { m with act := m.act.set p a, ended := way }
 | some c => { m with act := m.act.set p a, deeds := m.deeds ++ (if c.2.1 then [.cl] else []), stk := .lst (if way = 0 then c.2.2.1 else c.2.2.2) 0 :: m.stk }
theorem Ny {c : fY} {S : aO} : bW (.dat (TK c)) (.dat (.int 2)) S = .ok (.dat (.bl c.2.1)) S := kL
theorem Iw {c : fY} {S : aO} : bW (.dat (TK c)) (.dat (.int 3)) S = .ok (.dat (.lst [.lst (bP c.2.2.1), .lst (bP c.2.2.2)])) S := Iy
theorem O2 {c : fY} : isNon (.dat (TK c)) = false := rfl
theorem HG {S0 : aO} {m : Mc} {p k : Nat} {a : List Nat} {st : Option fY} {way : Int} (F : m.Fit) (ha : m.act[p]? = some (k :: a)) (hw : way = 0 \/ way = 1) : gF [.cel S0.length, .dat (.int (p : Int)), .dat (Ji st), .dat (.int way)] (eM S0 m) = .ok (.dat .non) (eM S0 (m.leave p a st way)) := by
 have hpl := (aI.mp ha).1;have Fk := F.k;have Fd := F.d;rw [Aa];unfold jG;cases st with
 | none =>
  have e1 := L7 (S0 := S0) (m := { m with act := m.act.set p a }) (ρ := [some (.cel S0.length), some (.dat (.int (p : Int))), some (.dat .non), some (.dat (.int way))]) (w := way)
  simp! [Ji, B5, Ax hpl, Jt ha, e1];rfl
 | some c =>
  have hz : ∀ S, bW (.dat (.lst [.lst (bP c.2.2.1), .lst (bP c.2.2.2)])) (.dat (.int way)) S = .ok (.dat (.lst (bP (if way = 0 then c.2.2.1 else c.2.2.2)))) S := fun S => by
   rcases hw with rfl | rfl
   ·exact yD
   ·exact Cs
  have e1 := pZ (S0 := S0) (m := { m with act := m.act.set p a }) (ρ := [some (.cel S0.length), some (.dat (.int (p : Int))), some (.dat (TK c)), some (.dat (.int way))]) (b := cC (aB (mC (.str "close")) aJ)) (t := .cl) (show m.deeds.length < 5000000 by omega) (by simp! [Deed.d])
  have e2 := fun ds => pU (S0 := S0) (m := { m with act := m.act.set p a, deeds := ds }) (ρ := [some (.cel S0.length), some (.dat (.int (p : Int))), some (.dat (TK c)), some (.dat (.int way))]) (b := cC (aB (mC (.str "list")) (aB (aR bW (aR bW (aC 2) (mC (.int 3))) (aC 3)) (aB (mC (.int 0)) aJ)))) (t := .lst (if way = 0 then c.2.2.1 else c.2.2.2) 0) (show m.stk.length < 5000000 by omega) (by simp! [Iw, hz]; rfl)
  have f1 := qM (S0 := S0) (m := { m with act := m.act.set p a })
  have f2 := fun ds => fK (S0 := S0) (m := { m with act := m.act.set p a, deeds := ds })
  have e2' := e2 m.deeds;have f2' := f2 m.deeds;simp! [Ji, B5, Ax hpl, Jt ha, O2, Ny];cases q : c.2.1 with
  | true =>
   simp! [f1, e1, f2, e2];simp only [Mc.leave, q];rfl
  | false =>
   simp! [f2', e2'];simp only [Mc.leave, q];simp;rfl
def yR : List Task -> List Deed -> Option (List Deed × Nat × Option fY × List Task)
 | [], _ => none
 | .call p st :: r, ds => some (ds, p, st, r)
 | .close :: r, ds => yR r (ds ++ [.cl])
 | .lst _ _ :: r, ds => yR r ds
 | .again _ :: r, ds => yR r ds
def Task.word : Task -> Str
 | .lst _ _ => "list"
 | .close => "close"
 | .again _ => "again"
 | .call _ _ => "call"
theorem rB {t : Task} {S : aO} : bW (.dat t.d) (.dat (.int 0)) S = .ok (.dat (.str t.word)) S := by
 cases t with
 | call p st => cases st <;> rfl
 | _ => rfl
theorem Bh {mt : FT} {mb : FS} {k : Nat} {ρ ρ' : Ev} {S S' : aO} (h1 : mt ρ S = .ok true S) (h2 : mb ρ S = .next ρ' S') : qV mt mb (k + 1) ρ S = qV mt mb k ρ' S' := by
 rw [qV, h1, mN, if_pos rfl, h2]
theorem Md {mt : FT} {mb : FS} {k : Nat} {ρ : Ev} {S : aO} (h1 : mt ρ S = .ok false S) : qV mt mb (k + 1) ρ S = .next ρ S := by
 rw [qV, h1, mN, if_neg (by simp)]
theorem yU {S0 : aO} {way : Vl} : ∀ (ts : List Task) (t : Task) (m : Mc) (ds : List Deed) (p : Nat) (st : Option fY) (r : List Task) (k : Nat), m.stk = ts -> yR (t :: ts) m.deeds = some (ds, p, st, r) -> ts.length < k -> m.deeds.length + ts.length < 4500000 ->
  qV (mB (aR IK (aR bW (aC 2) (mC (.int 0))) (mC (.str "call")))) dX k [some (.cel S0.length), some way, some (.dat t.d)] (eM S0 m) = .next [some (.cel S0.length), some way, some (.dat (Task.call p st).d)] (eM S0 { m with stk := r, deeds := ds })
 | ts, .call p' st', m, ds, p, st, r, k, hs, hu, hk, hd => by
  obtain ⟨k, rfl⟩ : ∃ k', k = k' + 1 := ⟨k - 1, by omega⟩
  simp only [yR] at hu;cases hu;rw [Md (by simp! [rB, Task.word])]
  subst hs;rfl
 | [], .close, m, ds, p, st, r, k, hs, hu, hk, hd => by simp [yR] at hu
 | [], .lst _ _, m, ds, p, st, r, k, hs, hu, hk, hd => by simp [yR] at hu
 | [], .again _, m, ds, p, st, r, k, hs, hu, hk, hd => by simp [yR] at hu
 | t' :: ts, .close, m, ds, p, st, r, k, hs, hu, hk, hd => by
  simp only [aL] at hk hd;obtain ⟨k, rfl⟩ : ∃ k', k = k' + 1 := ⟨k - 1, by omega⟩
  have e1 := pZ (S0 := S0) (m := m) (ρ := [some (.cel S0.length), some way, some (.dat Task.close.d)]) (b := aC 2) (t := .cl) (by omega) rfl
  have f2 := fK (S0 := S0) (m := { m with deeds := m.deeds ++ [.cl] })
  have e2 := zK (S0 := S0) (m := { m with deeds := m.deeds ++ [.cl] }) (t := t') (r := ts) hs
  rw [Bh (ρ' := [some (.cel S0.length), some way, some (.dat t'.d)]) (S' := eM S0 { m with deeds := m.deeds ++ [.cl], stk := ts }) (by simp! [rB, Task.word]) (by unfold dX; simp! [rB, Task.word, qM, e1, f2, e2])]
  exact yU ts t' { m with deeds := m.deeds ++ [.cl], stk := ts } ds p st r k rfl (by simpa [yR] using hu) (by omega) (by simp; omega)
 | t' :: ts, .lst l i, m, ds, p, st, r, k, hs, hu, hk, hd => by
  simp only [aL] at hk hd;obtain ⟨k, rfl⟩ : ∃ k', k = k' + 1 := ⟨k - 1, by omega⟩
  have e2 := zK (S0 := S0) (m := m) (t := t') (r := ts) hs;rw [Bh (ρ' := [some (.cel S0.length), some way, some (.dat t'.d)]) (S' := eM S0 { m with stk := ts }) (by simp! [rB, Task.word]) (by unfold dX; simp! [rB, Task.word, fK, e2])]
  exact yU ts t' { m with stk := ts } ds p st r k rfl (by simpa [yR] using hu) (by omega) (by simp; omega)
 | t' :: ts, .again l, m, ds, p, st, r, k, hs, hu, hk, hd => by
  simp only [aL] at hk hd;obtain ⟨k, rfl⟩ : ∃ k', k = k' + 1 := ⟨k - 1, by omega⟩
  have e2 := zK (S0 := S0) (m := m) (t := t') (r := ts) hs;rw [Bh (ρ' := [some (.cel S0.length), some way, some (.dat t'.d)]) (S' := eM S0 { m with stk := ts }) (by simp! [rB, Task.word]) (by unfold dX; simp! [rB, Task.word, fK, e2])]
  exact yU ts t' { m with stk := ts } ds p st r k rfl (by simpa [yR] using hu) (by omega) (by simp; omega)
theorem HS {p : Nat} {st : Option fY} {S : aO} : bW (.dat (Task.call p st).d) (.dat (.int 1)) S = .ok (.dat (.int (p : Int))) S := by rw [JO]; exact eP
theorem HR {p : Nat} {st : Option fY} {S : aO} : bW (.dat (Task.call p st).d) (.dat (.int 2)) S = .ok (.dat (Ji st)) S := by rw [JO]; exact kL
theorem yV : ∀ {ts : List Task} {d0 ds : List Deed} {p : Nat} {st : Option fY} {r : List Task}, yR ts d0 = some (ds, p, st, r) -> ds.length + r.length < d0.length + ts.length /\ r.length < ts.length
 | .call p st :: r, d0, ds, p', st', r', h => by simp [yR] at h; obtain ⟨rfl, rfl, rfl, rfl⟩ := h; simp
 | .close :: r, d0, ds, p', st', r', h => by
  have := yV (ts := r) (show yR r (d0 ++ [.cl]) = _ from h)
  simp at this ⊢;omega
 | .lst _ _ :: r, d0, ds, p', st', r', h => by
  have := yV (ts := r) (show yR r d0 = _ from h)
  simp;omega
 | .again _ :: r, d0, ds, p', st', r', h => by
  have := yV (ts := r) (show yR r d0 = _ from h)
  simp;omega
structure Mc.Sm (m : Mc) : Prop where
 k : m.stk.length < 900000
 d : m.deeds.length < 900000
 a : ∀ a ∈ m.act, a.length < 900000
theorem Mc.Sm.fit {m : Mc} (h : m.Sm) : m.Fit := ⟨by have := h.d; omega, by have := h.k; omega, fun a ha => by have := h.a a ha; omega⟩
theorem Kl {S0 : aO} {m : Mc} {way : Int} {ds : List Deed} {p k : Nat} {st : Option fY} {r : List Task} {a : List Nat} (F : m.Sm) (hu : yR m.stk m.deeds = some (ds, p, st, r)) (ha : m.act[p]? = some (k :: a)) (hw : way = 0 \/ way = 1) :
  iI [.cel S0.length, .dat (.int way)] (eM S0 m) = .ok (.dat .non) (eM S0 (({ m with stk := r, deeds := ds } : Mc).leave p a st way)) := by
 have Fk := F.k;have Fd := F.d;cases hs : m.stk with
 | nil => rw [hs] at hu; simp [yR] at hu
 | cons t ts =>
  rw [hs] at hu;have hlen := yV hu;rw [hs] at Fk;simp only [aL] at Fk hlen;have e1 := zK (S0 := S0) hs;have e2 := yU (S0 := S0) (way := .dat (.int way)) ts t { m with stk := ts } ds p st r 1000000 rfl hu (by omega) (by simp; omega)
  have e3 := HG (S0 := S0) (m := { m with stk := r, deeds := ds }) (st := st) (way := way) ⟨by simp; omega, by simp; omega, F.fit.a⟩ ha hw
  have hi := A4 (S0 := S0) (m := { m with stk := r, deeds := ds }) (f := "leave") (by decide)
  rw [yO];unfold iQ;simp! [fK, e1, Ap, e2, gU hi, HS, HR, e3];rfl
inductive SR where
 | ok (m : Mc) | err (i : Int) (m : Mc) | no
def hZ (s : Stt) (m : Mc) : SR := match s with
 | .cmd c => .ok { m with deeds := m.deeds ++ [.cmd c] }
 | .fin w => (match yR m.stk m.deeds with
  | some (ds, p, st, r) => (match m.act[p]? with
   | some (_ :: a) => .ok (({ m with stk := r, deeds := ds } : Mc).leave p a st w)
   | _ => .no)
  | none => .no)
 | .keep b => .ok { m with deeds := m.deeds ++ [.op], stk := .lst b 0 :: .close :: m.stk }
 | .either x y => (match m.bits[m.taken]? with
  | none => .err (m.taken : Int) m
  | some b => .ok { m with taken := m.taken + 1, stk := .lst (if b = 0 then x else y) 0 :: m.stk })
 | .again b => .ok { m with stk := .again b :: m.stk }
 | .call g f x y => (match m.act[g.toNat]?, m.bs[g.toNat]? with
  | some a, some b => if a.head? = some m.taken then .err (-2) { m with deeds := m.deeds ++ (if f then [.op] else []) } else .ok (({ m with deeds := m.deeds ++ (if f then [.op] else []) } : Mc).enter g.toNat a b (some (g, f, x, y)))
  | _, _ => .no)
 | _ => .no
def eO (m : Mc) : SR := match m.stk with
 | [] => .no
 | .lst l i :: r => (match l[i]? with
  | none => .ok { m with stk := r }
  | some s => hZ s { m with stk := .lst l (i + 1) :: r })
 | .close :: r => .ok { m with stk := r, deeds := m.deeds ++ [.cl] }
 | .again b :: r => (match m.bits[m.taken]? with
  | none => .err (m.taken : Int) { m with stk := r }
  | some x => if x = 1 then .ok { m with taken := m.taken + 1, stk := .lst b 0 :: .again b :: r } else .ok { m with taken := m.taken + 1, stk := r })
 | .call p st :: r => (match m.act[p]? with
  | some (_ :: a) => .ok (({ m with stk := r } : Mc).leave p a st 0)
  | _ => .no)
def Va (r : Res Vl) (S0 : aO) (x : SR) : Prop := match x with
 | .ok m => r = .ok (.dat .non) (eM S0 m)
 | .err i m => r = .err (lM i) (eM S0 m)
 | .no => True
structure Mc.Wf (m : Mc) : Prop where
 t : m.taken <= m.bits.length
 b : ∀ b ∈ m.bits, b = 0 \/ b = 1
theorem PV {S0 : aO} {m m' : Mc} {ρ : Ev} {b : FE} {t : Task} (F : m'.stk.length < 5000000) (hb : b ρ (eM S0 m) = .ok (.dat t.d) (eM S0 m')) : yC b ρ (.cel (S0.length + 2)) (eM S0 m) = .ok (.dat .non) (eM S0 { m' with stk := t :: m'.stk }) := by
 rw [mP wB, hb, eL, nP wB (by rw [nU]; exact IS (by omega)), <- rvD_cons, G1]
theorem PU {S0 : aO} {m m' : Mc} {ρ : Ev} {b : FE} {e : Er} (hb : b ρ (eM S0 m) = .err e (eM S0 m')) : yC b ρ (.cel (S0.length + 2)) (eM S0 m) = .err e (eM S0 m') := by
 rw [mP wB, hb, D0]
theorem PM {S0 : aO} {m : Mc} {s : Stt} {many : Int} {k : Nat} (ho : s.Ok many k) (F : m.Sm) (W : m.Wf) : Va (jE [.cel S0.length, .dat s.d] (eM S0 m)) S0 (hZ s m) := by
 have Fk := F.k;have Fd := F.d;rw [Ab];unfold jH;cases s with
 | bad => trivial
 | odd x => trivial
 | cmd c =>
  have e1 := pZ (S0 := S0) (m := m) (ρ := [some (.cel S0.length), some (.dat c.d), some (.dat (.str (Stt.cmd c).word))]) (b := aC 1) (t := .cmd c) (by omega) rfl
  have hw : ∀ S, bW (.dat c.d) (.dat (.int 0)) S = .ok (.dat (.str (Stt.cmd c).word)) S := fun S => Fn (s := .cmd c) rfl
  show _ = _
  simp! [Stt.d, hw, J0 ho, qM, e1];rfl
 | fin w =>
  simp only [hZ];cases hu : yR m.stk m.deeds with
  | none => trivial
  | some x =>
   obtain ⟨ds, p, st, r⟩ := x;dsimp only;cases ha : m.act[p]? with
   | none => trivial
   | some l =>
    cases l with
    | nil => trivial
    | cons k0 a =>
     have e1 := Kl (S0 := S0) (way := w) F hu ha (by obtain ⟨h1, h2⟩ := ho; omega)
     have hi := A4 (S0 := S0) (m := m) (f := "unwind") (by decide)
     show _ = _
     simp! [Stt.d, cO, eP, jJ KA, gU hi, e1];rfl
 | keep b =>
  have e1 := pZ (S0 := S0) (m := m) (ρ := [some (.cel S0.length), some (.dat (.tup [.str "keep", .lst (bP b)])), some (.dat (.str "keep"))]) (b := cC (aB (mC (.str "open")) aJ)) (t := .op) (by omega) (by simp! [Deed.d])
  have e2 := pU (S0 := S0) (m := { m with deeds := m.deeds ++ [.op] }) (ρ := [some (.cel S0.length), some (.dat (.tup [.str "keep", .lst (bP b)])), some (.dat (.str "keep"))]) (b := cC (aB (mC (.str "close")) aJ)) (t := .close) (show m.stk.length < 5000000 by omega) (by simp! [Task.d])
  have e3 := pU (S0 := S0) (m := { m with deeds := m.deeds ++ [.op], stk := .close :: m.stk }) (ρ := [some (.cel S0.length), some (.dat (.tup [.str "keep", .lst (bP b)])), some (.dat (.str "keep"))]) (b := cC (aB (mC (.str "list")) (aB (aR bW (aC 1) (mC (.int 1))) (aB (mC (.int 0)) aJ)))) (t := .lst b 0) (by simp; omega) (by simp! [eP]; rfl)
  have f2 := fK (S0 := S0) (m := { m with deeds := m.deeds ++ [.op] })
  have f3 := fK (S0 := S0) (m := { m with deeds := m.deeds ++ [.op], stk := .close :: m.stk })
  show _ = _
  simp! [Stt.d, cO, jJ Cv, qM, e1, f2, e2, f3, e3];rfl
 | either x y =>
  simp only [hZ];have hi := A4 (S0 := S0) (m := m) (f := "take") (by decide)
  cases hb : m.bits[m.taken]? with
  | none =>
   have e1 := Jh (S0 := S0) (m := m) (by have := W.t; have := gO.mp hb; omega)
   have e2 := PU (S0 := S0) (m := m) (m' := m) (e := lM (m.taken : Int)) (ρ := [some (.cel S0.length), some (.dat (.tup [.str "either", .lst (bP x), .lst (bP y)])), some (.dat (.str "either"))]) (b := cC (aB (mC (.str "list")) (aB (aR bW (aC 1) (aR (dD false) (mC (.int 1)) (pG "Execution" "take" dY (aC 0) aJ))) (aB (mC (.int 0)) aJ)))) (by simp! [gU hi, e1])
   show _ = _
   simp! [Stt.d, cO, jJ uC, fK, e2];rfl
  | some b =>
   have e1 := Jg (S0 := S0) hb;have hix : ∀ S, bW (.dat (.tup [.str "either", .lst (bP x), .lst (bP y)])) (.dat (.int (1 + b))) S = .ok (.dat (.lst (bP (if b = 0 then x else y)))) S := fun S => by
    rcases W.b b (bN hb) with rfl | rfl
    ·exact eP
    ·exact kL
   have e2 := PV (S0 := S0) (m := m) (m' := { m with taken := m.taken + 1 }) (ρ := [some (.cel S0.length), some (.dat (.tup [.str "either", .lst (bP x), .lst (bP y)])), some (.dat (.str "either"))]) (b := cC (aB (mC (.str "list")) (aB (aR bW (aC 1) (aR (dD false) (mC (.int 1)) (pG "Execution" "take" dY (aC 0) aJ))) (aB (mC (.int 0)) aJ)))) (t := .lst (if b = 0 then x else y) 0) (show m.stk.length < 5000000 by omega) (by simp! [gU hi, e1, hix]; rfl)
   show _ = _
   simp! [Stt.d, cO, jJ uC, fK, e2];rfl
 | again b =>
  have e2 := pU (S0 := S0) (m := m) (ρ := [some (.cel S0.length), some (.dat (.tup [.str "again", .lst (bP b)])), some (.dat (.str "again"))]) (b := cC (aB (mC (.str "again")) (aB (aR bW (aC 1) (mC (.int 1))) aJ))) (t := .again b) (by omega) (by simp! [eP]; rfl)
  show _ = _
  simp! [Stt.d, cO, jJ Ay, fK, e2];rfl
 | call g f x y =>
  obtain ⟨⟨_, g0, g1⟩, _⟩ := ho;simp only [hZ];have hgn : g = (g.toNat : Int) := by omega
  cases ha : m.act[g.toNat]? with
  | none => trivial
  | some a =>
   cases hb : m.bs[g.toNat]? with
   | none => trivial
   | some b =>
    dsimp only;have main : ∀ ds : List Deed, ds.length <= m.deeds.length + 1 -> Va (eD [.cel S0.length, .dat (.int g), .dat (Ji (some (g, f, x, y)))] (eM S0 { m with deeds := ds })) S0 (if a.head? = some m.taken then .err (-2) { m with deeds := ds } else .ok (({ m with deeds := ds } : Mc).enter g.toNat a b (some (g, f, x, y)))) := fun ds hds => by
     rw [show (D.int g) = D.int ((g.toNat : Nat) : Int) by rw [<- hgn]]
     split
     ·rename_i hh
      cases a with
      | nil => simp at hh
      | cons k0 a =>
       simp at hh;subst hh;exact Ow (m := { m with deeds := ds }) ha
     ·rename_i hh
      refine Hq (m := { m with deeds := ds }) ⟨by simp; omega, by simp; omega, F.fit.a⟩ ha hb (fun a' k' h' e => hh ?_)
      have h2 : m.act[g.toNat]? = some (k' :: a') := h';rw [ha] at h2;cases h2;simp [e]
    have hd : (Stt.call g f x y).d = Ji (some (g, f, x, y)) := rfl;have hsd : Ji (some (g, f, x, y)) = .tup [.str "call", .int g, .bl f, .lst [.lst (bP x), .lst (bP y)]] := rfl;have hi := fun ds => A4 (S0 := S0) (m := { m with deeds := ds }) (f := "enter") (by decide)
    cases f with
    | false =>
     have mm := main m.deeds (by omega)
     have hi0 := hi m.deeds;simp only [BH, if_false, cX];rw [hsd] at mm;simp! [Stt.d, cO, eP, kL, jJ A5, gU hi0]
     revert mm
     split
     ·intro mm
      have mm' : _ = _ := mm
      show _ = _
      simp! [mm'];rfl
     ·intro mm
      have mm' : _ = _ := mm
      show _ = _
      simp! [mm'];rfl
    | true =>
     have mm := main (m.deeds ++ [.op]) (by simp)
     have e1 := pZ (S0 := S0) (m := m) (ρ := [some (.cel S0.length), some (.dat (.tup [.str "call", .int g, .bl true, .lst [.lst (bP x), .lst (bP y)]])), some (.dat (.str "call"))]) (b := cC (aB (mC (.str "open")) aJ)) (t := .op) (by omega) (by simp! [Deed.d])
     simp only [if_true];rw [hsd] at mm;simp! [Stt.d, cO, eP, kL, jJ A5, qM, e1, gU (hi (m.deeds ++ [.op]))]
     revert mm
     split
     ·intro mm
      have mm' : _ = _ := mm
      show _ = _
      simp! [mm'];rfl
     ·intro mm
      have mm' : _ = _ := mm
      show _ = _
      simp! [mm'];rfl
def Pc (many : Int) (b : List Stt) : Prop := ∃ k, OkL many b k
def Task.OkT (many : Int) : Task -> Prop
 | .lst l _ => Pc many l
 | .close => True
 | .again b => Pc many b
 | .call _ none => True
 | .call _ (some c) => Pc many c.2.2.1 /\ Pc many c.2.2.2
theorem Q0 {S0 : aO} {m : Mc} {many : Int} (T : ∀ t ∈ m.stk, t.OkT many) (F : m.Sm) (W : m.Wf) : Va (jV [.cel S0.length] (eM S0 m)) S0 (eO m) := by
 have Fk := F.k;have Fd := F.d;rw [BE];unfold kD;cases hs : m.stk with
 | nil => simp only [eO, hs]; trivial
 | cons t r =>
  have hT := T t (by rw [hs]; exact aV ..)
  rw [hs] at Fk;simp only [aL] at Fk;have ep := zK (S0 := S0) hs;simp only [eO, hs];cases t with
  | lst l i =>
   obtain ⟨k, hl⟩ := hT;dsimp only;have h1 : ∀ S, bW (.dat (Task.lst l i).d) (.dat (.int 1)) S = .ok (.dat (.lst (bP l))) S := fun _ => eP
   have h2 : ∀ S, bW (.dat (Task.lst l i).d) (.dat (.int 2)) S = .ok (.dat (.int (i : Int))) S := fun _ => kL
   cases hi : l[i]? with
   | none =>
    have := gO.mp hi
    show _ = _
    simp! [fK, ep, rB, Task.word, h1, h2, cY, decide_eq_false (show ¬ ((i : Nat) : Int) < (l.length : Int) by omega)]
    rfl
   | some s =>
    have hil := (aI.mp hi).1;have hs' := hl.mem s (bN hi);have hix : atI (bP l) (i : Int) = some s.d := by
     rw [eX (n := i) rfl, qO, cM, hi]; rfl
    have e1 := pU (S0 := S0) (m := { m with stk := r }) (ρ := [some (.cel S0.length), some (.dat (Task.lst l i).d)]) (b := cC (aB (mC (.str "list")) (aB (aR bW (aC 1) (mC (.int 1))) (aB (aR (dD false) (aR bW (aC 1) (mC (.int 2))) (mC (.int 1))) aJ)))) (t := .lst l (i + 1)) (show r.length < 5000000 by omega) (by simp! [h1, h2]; rfl)
    have f1 := fK (S0 := S0) (m := { m with stk := r })
    have hi' := A4 (S0 := S0) (m := { m with stk := .lst l (i + 1) :: r }) (f := "begin") (by decide)
    have bg := PM (S0 := S0) (m := { m with stk := .lst l (i + 1) :: r }) hs' ⟨by simp; omega, by simp; omega, F.a⟩ ⟨W.t, W.b⟩
    simp! [fK, ep, rB, Task.word, h1, h2, cY, decide_eq_true (show ((i : Nat) : Int) < (l.length : Int) by omega), f1, e1, rD hix, gU hi']
    revert bg
    cases hZ s { m with stk := .lst l (i + 1) :: r } with
    | no => intro _; trivial
    | ok m' => intro bg; have bg' : _ = _ := bg; show _ = _; simp! [bg']; rfl
    | err j m' => intro bg; have bg' : _ = _ := bg; show _ = _; simp! [bg']; rfl
  | close =>
   dsimp only;have e1 := pZ (S0 := S0) (m := { m with stk := r }) (ρ := [some (.cel S0.length), some (.dat Task.close.d)]) (b := aC 1) (t := .cl) (show m.deeds.length < 5000000 by omega) rfl
   have f1 := qM (S0 := S0) (m := { m with stk := r })
   show _ = _
   simp! [fK, ep, rB, Task.word, f1, e1];rfl
  | again b =>
   dsimp only;have h1 : ∀ S, bW (.dat (Task.again b).d) (.dat (.int 1)) S = .ok (.dat (.lst (bP b))) S := fun _ => eP
   have hi := A4 (S0 := S0) (m := { m with stk := r }) (f := "take") (by decide)
   cases hb : m.bits[m.taken]? with
   | none =>
    have e1 := Jh (S0 := S0) (m := { m with stk := r }) (by have := W.t; have := gO.mp hb; show m.taken = m.bits.length; omega)
    show _ = _
    simp! [fK, ep, rB, Task.word, gU hi, e1];rfl
   | some x =>
    have e1 := Jg (S0 := S0) (m := { m with stk := r }) hb
    rcases W.b x (bN hb) with rfl | rfl
    ·show _ = _
     simp! [fK, ep, rB, Task.word, gU hi, e1];rfl
    ·have e2 := pU (S0 := S0) (m := { m with stk := r, taken := m.taken + 1 }) (ρ := [some (.cel S0.length), some (.dat (Task.again b).d)]) (b := aC 1) (t := .again b) (show r.length < 5000000 by omega) rfl
     have f2 := fK (S0 := S0) (m := { m with stk := r, taken := m.taken + 1 })
     have e3 := pU (S0 := S0) (m := { m with stk := .again b :: r, taken := m.taken + 1 }) (ρ := [some (.cel S0.length), some (.dat (Task.again b).d)]) (b := cC (aB (mC (.str "list")) (aB (aR bW (aC 1) (mC (.int 1))) (aB (mC (.int 0)) aJ)))) (t := .lst b 0) (by simp; omega) (by simp! [h1]; rfl)
     have f3 := fK (S0 := S0) (m := { m with stk := .again b :: r, taken := m.taken + 1 })
     show _ = _
     simp! [fK, ep, rB, Task.word, gU hi, e1, f2, e2, f3, e3];rfl
  | call p st =>
   dsimp only;cases ha : m.act[p]? with
   | none => trivial
   | some l =>
    cases l with
    | nil => trivial
    | cons k a =>
     have hi := A4 (S0 := S0) (m := { m with stk := r }) (f := "leave") (by decide)
     have e1 := HG (S0 := S0) (m := { m with stk := r }) (st := st) (way := 0) ⟨by simp; omega, by simp; omega, F.fit.a⟩ ha (.inl rfl)
     show _ = _
     simp! [fK, ep, rB, Task.word, gU hi, HS, HR, e1];rfl
structure Mc.Keep (many : Int) (m m' : Mc) : Prop where
 bs : m'.bs = m.bs
 bits : m'.bits = m.bits
 tot : m'.stk.length + m'.deeds.length <= m.stk.length + m.deeds.length + 3
 act : ∀ a ∈ m'.act, ∃ b ∈ m.act, a.length <= b.length + 1
 al : m'.act.length = m.act.length
 tk : ∀ t ∈ m'.stk, t.OkT many
 wf : m'.Wf
theorem G8 {l : List (List Nat)} {p : Nat} {a b : List Nat} (h : l[p]? = some b) (hl : a.length <= b.length + 1) : ∀ c ∈ l.set p a, ∃ d ∈ l, c.length <= d.length + 1 := fun c hc => by
 rcases tF hc with hc | hc
 ·exact ⟨c, hc, by omega⟩
 ·rw [hc]; exact ⟨b, bN h, hl⟩
theorem oU {l : List (List Nat)} : ∀ c ∈ l, ∃ d ∈ l, c.length <= d.length + 1 := fun c hc => ⟨c, hc, by omega⟩
theorem OkL.b {many : Int} {l : List Stt} {k : Nat} (h : OkL many l k) : Pc many l := ⟨k, h⟩
theorem Cm {many : Int} {m0 m : Mc} {p k : Nat} {a : List Nat} {st : Option fY} {way : Int} (hb : m.bs = m0.bs) (hi : m.bits = m0.bits) (ht : m.stk.length + m.deeds.length + 1 <= m0.stk.length + m0.deeds.length + 1) (hact : m.act = m0.act) (ha : m.act[p]? = some (k :: a)) (T : ∀ t ∈ m.stk, t.OkT many) (hst : (Task.call p st).OkT many) (W : m.Wf) : Mc.Keep many m0 (m.leave p a st way) := by
 cases st with
 | none => exact ⟨hb, hi, by simp only [Mc.leave]; omega, by simp only [Mc.leave]; rw [hact] at ha ⊢; exact G8 ha (by simp; omega), by simp [Mc.leave, hact], T, ⟨W.t, W.b⟩⟩
 | some c =>
  refine ⟨hb, hi, ?_, by simp only [Mc.leave]; rw [hact] at ha ⊢; exact G8 ha (by simp; omega), by simp [Mc.leave, hact], fun t h => ?_, ⟨W.t, W.b⟩⟩
  ·simp only [Mc.leave, aL, bL]
   split <;> simp <;> omega
  ·simp only [Mc.leave] at h
   rcases bJ.mp h with rfl | h
   ·show Pc many _
    split
    ·exact hst.1
    ·exact hst.2
   ·exact T t h
theorem Bi : ∀ {ts : List Task} {d0 ds : List Deed} {p : Nat} {st : Option fY} {r : List Task}, yR ts d0 = some (ds, p, st, r) -> Task.call p st ∈ ts /\ ∀ t ∈ r, t ∈ ts
 | .call p st :: r, d0, ds, p', st', r', h => by simp [yR] at h; obtain ⟨rfl, rfl, rfl, rfl⟩ := h; exact ⟨by simp, fun t ht => by simp [ht]⟩
 | .close :: r, d0, ds, p', st', r', h => by
  obtain ⟨h1, h2⟩ := Bi (ts := r) (show yR r (d0 ++ [.cl]) = _ from h)
  exact ⟨aK _ h1, fun t ht => aK _ (h2 t ht)⟩
 | .lst _ _ :: r, d0, ds, p', st', r', h => by
  obtain ⟨h1, h2⟩ := Bi (ts := r) (show yR r d0 = _ from h)
  exact ⟨aK _ h1, fun t ht => aK _ (h2 t ht)⟩
 | .again _ :: r, d0, ds, p', st', r', h => by
  obtain ⟨h1, h2⟩ := Bi (ts := r) (show yR r d0 = _ from h)
  exact ⟨aK _ h1, fun t ht => aK _ (h2 t ht)⟩
theorem JP {many : Int} {m m' : Mc} {s : Stt} {k : Nat} (ho : s.Ok many k) (hB : ∀ b ∈ m.bs, Pc many b) (T : ∀ t ∈ m.stk, t.OkT many) (W : m.Wf) (h : hZ s m = .ok m') : Mc.Keep many m m' := by
 cases s with
 | bad => cases h
 | odd x => cases h
 | cmd c => cases h; exact ⟨rfl, rfl, by simp; omega, oU, rfl, T, ⟨W.t, W.b⟩⟩
 | fin w =>
  simp only [hZ] at h;cases hu : yR m.stk m.deeds with
  | none => rw [hu] at h; cases h
  | some x =>
   obtain ⟨ds, p, st, r⟩ := x;rw [hu] at h;dsimp only at h;cases ha : m.act[p]? with
   | none => rw [ha] at h; cases h
   | some l =>
    rw [ha] at h;cases l with
    | nil => cases h
    | cons k0 a =>
     cases h;have hl := yV hu;obtain ⟨u1, u2⟩ := Bi hu;exact Cm (m0 := m) (m := { m with stk := r, deeds := ds }) rfl rfl (by simp; omega) rfl ha (fun t ht => T t (u2 t ht)) (T _ u1) ⟨W.t, W.b⟩
 | keep b =>
  cases h;refine ⟨rfl, rfl, by simp; omega, oU, rfl, fun t ht => ?_, ⟨W.t, W.b⟩⟩
  simp only [bJ] at ht;rcases ht with rfl | rfl | ht
  ·exact ho.2.b
  ·trivial
  ·exact T t ht
 | either x y =>
  simp only [hZ] at h;cases hb : m.bits[m.taken]? with
  | none => rw [hb] at h; cases h
  | some b =>
   rw [hb] at h;cases h;have hl := (aI.mp hb).1;refine ⟨rfl, rfl, by simp; omega, oU, rfl, fun t ht => ?_, ⟨hl, W.b⟩⟩
   rcases bJ.mp ht with rfl | ht
   ·show Pc many _
    split
    ·exact ho.2.1.b
    ·exact ho.2.2.b
   ·exact T t ht
 | again b =>
  cases h;refine ⟨rfl, rfl, by simp; omega, oU, rfl, fun t ht => ?_, ⟨W.t, W.b⟩⟩
  rcases bJ.mp ht with rfl | ht
  ·exact ho.2.b
  ·exact T t ht
 | call g f x y =>
  simp only [hZ] at h;cases ha : m.act[g.toNat]? with
  | none => rw [ha] at h; cases h
  | some a =>
   cases hb : m.bs[g.toNat]? with
   | none => rw [ha, hb] at h; cases h
   | some b =>
    rw [ha, hb] at h;dsimp only at h;split at h
    ·cases h
    ·cases h
     refine ⟨rfl, rfl, ?_, ?_, by simp [Mc.enter], fun t ht => ?_, ⟨W.t, W.b⟩⟩
     ·simp only [Mc.enter, aL, bL]
      split <;> simp <;> omega
     ·exact G8 ha (by simp)
     ·simp only [Mc.enter, bJ] at ht
      rcases ht with rfl | rfl | ht
      ·exact hB b (bN hb)
      ·exact ⟨ho.2.1.b, ho.2.2.b⟩
      ·exact T t ht
theorem Kz {many : Int} {m m' : Mc} (hB : ∀ b ∈ m.bs, Pc many b) (T : ∀ t ∈ m.stk, t.OkT many) (W : m.Wf) (h : eO m = .ok m') : Mc.Keep many m m' := by
 cases hs : m.stk with
 | nil => simp only [eO, hs] at h; cases h
 | cons t r =>
  have hT := T t (by rw [hs]; exact aV ..)
  have hr : ∀ t ∈ r, t.OkT many := fun t ht => T t (by rw [hs]; exact aK _ ht)
  have hl : m.stk.length = r.length + 1 := by rw [hs]; rfl
  simp only [eO, hs] at h;cases t with
  | lst l i =>
   obtain ⟨k, hlk⟩ := hT;dsimp only at h;cases hi : l[i]? with
   | none => rw [hi] at h; cases h; exact ⟨rfl, rfl, by simp; omega, oU, rfl, hr, ⟨W.t, W.b⟩⟩
   | some s =>
    rw [hi] at h;have kk := JP (m := { m with stk := .lst l (i + 1) :: r }) (hlk.mem s (bN hi)) hB (fun t ht => by
     rcases bJ.mp ht with rfl | ht
     ·exact ⟨k, hlk⟩
     ·exact hr t ht) ⟨W.t, W.b⟩ h
    exact ⟨kk.bs, kk.bits, by have := kk.tot; simp at this; omega, kk.act, kk.al, kk.tk, kk.wf⟩
  | close => cases h; exact ⟨rfl, rfl, by simp; omega, oU, rfl, hr, ⟨W.t, W.b⟩⟩
  | again b =>
   dsimp only at h;cases hb : m.bits[m.taken]? with
   | none => rw [hb] at h; cases h
   | some x =>
    rw [hb] at h;have hbl := (aI.mp hb).1;dsimp only at h;split at h
    ·cases h
     refine ⟨rfl, rfl, by simp; omega, oU, rfl, fun t ht => ?_, ⟨hbl, W.b⟩⟩
     simp only [bJ] at ht;rcases ht with rfl | rfl | ht
     ·exact hT
     ·exact hT
     ·exact hr t ht
    ·cases h
     exact ⟨rfl, rfl, by simp; omega, oU, rfl, hr, ⟨hbl, W.b⟩⟩
  | call p st =>
   dsimp only at h;cases ha : m.act[p]? with
   | none => rw [ha] at h; cases h
   | some l =>
    rw [ha] at h;cases l with
    | nil => cases h
    | cons k a =>
     cases h;exact Cm (m0 := m) (m := { m with stk := r }) rfl rfl (by simp; omega) rfl ha hr hT ⟨W.t, W.b⟩
def runM : Nat -> Mc -> SR
 | 0, _ => .no
 | k + 1, m => match m.stk with
  | [] => .ok m
  | _ :: _ => match eO m with
   | .ok m' => runM k m'
   | .err i m' => .err i m'
   | .no => .no
theorem Gk {S0 : aO} {many : Int} {a b c d e : Option Vl} : ∀ (k fuel : Nat) (m : Mc), k <= fuel -> (∀ b ∈ m.bs, Pc many b) -> (∀ t ∈ m.stk, t.OkT many) -> m.Wf -> m.stk.length + m.deeds.length + 3 * k <= 800000 -> (∀ a ∈ m.act, a.length + k <= 800000) ->
  match runM k m with
  | .ok m' => qV (mB (aR Dq (m1 fR (gG "Execution" "stack" (aC 5))) (mC (.int 0)))) eR fuel [a, b, c, d, e, some (.cel S0.length)] (eM S0 m) = .next [a, b, c, d, e, some (.cel S0.length)] (eM S0 m')
  | .err i m' => ∃ ρ', qV (mB (aR Dq (m1 fR (gG "Execution" "stack" (aC 5))) (mC (.int 0)))) eR fuel [a, b, c, d, e, some (.cel S0.length)] (eM S0 m) = .err (lM i) ρ' (eM S0 m')
  | .no => True
 | 0, fuel, m, _, _, _, _, _, _ => trivial
 | k + 1, fuel, m, hf, hB, hT, W, ht, ha => by
  obtain ⟨f, rfl⟩ : ∃ f, fuel = f + 1 := ⟨fuel - 1, by omega⟩
  unfold runM;cases hs : m.stk with
  | nil =>
   dsimp only;have hl : fR (.cel (S0.length + 2)) (eM S0 m) = .ok (.dat (.int 0)) (eM S0 m) := by rw [qJ wB, nU, hs]; rfl
   exact Md (by simp! [fK, hl])
  | cons t r =>
   dsimp only;have hl : fR (.cel (S0.length + 2)) (eM S0 m) = .ok (.dat (.int ((r.length + 1 : Nat) : Int))) (eM S0 m) := by rw [qJ wB, nU, hs]; rfl
   have h1 : (mB (aR Dq (m1 fR (gG "Execution" "stack" (aC 5))) (mC (.int 0)))) [a, b, c, d, e, some (.cel S0.length)] (eM S0 m) = .ok true (eM S0 m) := by simp! [fK, hl, decide_eq_true (show (0 : Int) < ((r.length + 1 : Nat) : Int) by omega)]
   have st := Q0 (S0 := S0) hT ⟨by omega, by omega, fun a h => by have := ha a h; omega⟩ W
   have hi := A4 (S0 := S0) (m := m) (f := "step") (by decide)
   revert st
   cases q : eO m with
   | no => intro _; trivial
   | ok m' =>
    intro st;have st' : _ = _ := st;have K := Kz hB hT W q;have ih := Gk (S0 := S0) (a := a) (b := b) (c := c) (d := d) (e := e) k f m' (by omega) (by rw [K.bs]; exact hB) K.tk K.wf (by have := K.tot; omega) (fun a h => by obtain ⟨b, h1, h2⟩ := K.act a h; have := ha b h1; omega)
    dsimp only;rw [Bh h1 (ρ' := [a, b, c, d, e, some (.cel S0.length)]) (S' := eM S0 m') (by unfold eR; simp! [gU hi, st'])]
    exact ih
   | err i m' =>
    intro st;have st' : _ = _ := st;dsimp only;refine ⟨[a, b, c, d, e, some (.cel S0.length)], ?_⟩
    rw [qV, h1, mN, if_pos rfl, show eR [a, b, c, d, e, some (.cel S0.length)] (eM S0 m) = .err (lM i) [a, b, c, d, e, some (.cel S0.length)] (eM S0 m') by unfold eR; simp! [gU hi, st']]
theorem Cn {m : Mc} {p : Nat} {a : List Nat} {st : Option fY} {way : Int} : (m.leave p a st way).bits = m.bits /\ (m.leave p a st way).bs = m.bs := by cases st <;> exact ⟨rfl, rfl⟩
theorem JQ {s : Stt} {m m' : Mc} (h : hZ s m = .ok m') : m'.bits = m.bits /\ m'.bs = m.bs := by
 cases s with
 | bad => cases h
 | odd x => cases h
 | cmd c => cases h; exact ⟨rfl, rfl⟩
 | keep b => cases h; exact ⟨rfl, rfl⟩
 | again b => cases h; exact ⟨rfl, rfl⟩
 | fin w =>
  simp only [hZ] at h;split at h
  ·split at h
   ·cases h; exact Cn
   ·cases h
  ·cases h
 | either x y =>
  simp only [hZ] at h;split at h
  ·cases h
  ·cases h; exact ⟨rfl, rfl⟩
 | call g f x y =>
  simp only [hZ] at h;split at h
  ·split at h
   ·cases h
   ·cases h; exact ⟨rfl, rfl⟩
  ·cases h
theorem L0 {m m' : Mc} (h : eO m = .ok m') : m'.bits = m.bits /\ m'.bs = m.bs := by
 unfold eO at h;split at h
 ·cases h
 ·split at h
  ·cases h; exact ⟨rfl, rfl⟩
  ·have := JQ h; exact this
 ·cases h; exact ⟨rfl, rfl⟩
 ·split at h
  ·cases h
  ·split at h
   ·cases h; exact ⟨rfl, rfl⟩
   ·cases h; exact ⟨rfl, rfl⟩
 ·split at h
  ·cases h; exact Cn
  ·cases h
theorem CZ : ∀ {k : Nat} {m m' : Mc}, runM k m = .ok m' -> m'.bits = m.bits /\ m'.bs = m.bs
 | 0, m, m', h => by cases h
 | k + 1, m, m', h => by
  unfold runM at h;split at h
  ·cases h; exact ⟨rfl, rfl⟩
  ·split at h
   ·rename_i m1 q
    have h1 := L0 q;have h2 := CZ h;exact ⟨h2.1.trans h1.1, h2.2.trans h1.2⟩
   ·cases h
   ·cases h
def xH (bs : List (List Stt)) (bits : List Int) : Mc := ⟨bs, bits, 0, [], [], bZ bs.length [], 0⟩
theorem setX {S0 : aO} {fs : List (Str × Vl)} {ext : List Cell} {f : Str} {d : Vl} {ρ : Ev} (hl : fs.length < 1000) : yB "Execution" f ρ d (.cel S0.length) (S0 ++ (.ins "Execution" fs :: ext)) = .next ρ (S0 ++ (.ins "Execution" (oH f d fs) :: ext)) := by
 rw [Cy (fs := fs) (by simp) hl]
 simp
theorem Qr {S0 : aO} {bs : List (List Stt)} {bits : List Int} (hl : bs.length <= 10) : Ee true "Execution" hX [.dat (.lst (bls bs)), .dat (.lst (bits.map D.int))] S0 = .ok (.cel S0.length) (eM S0 (xH bs bits)) := by
 have e : hX [.cel S0.length, .dat (.lst (bls bs)), .dat (.lst (bits.map D.int))] (S0 ++ [.ins "Execution" []]) = .ok (.dat .non) (eM S0 (xH bs bits)) := by
  rw [BF];unfold kE;have hsz : (bls bs).length <= sizeLine := sz (by rw [rL]; omega)
  have s1 : ∀ {ρ : Ev} {d : Vl} {ext : List Cell} {f : Str}, yB "Execution" f ρ d (.cel S0.length) (S0 ++ (.ins "Execution" [] :: ext)) = .next ρ (S0 ++ (.ins "Execution" [(f, d)] :: ext)) := setX (by simp)
  simp! [s1, setX, aL, bF, oH, bL, dN, cH, bQ, OQ hsz, rL]
  show _ = Res.ok _ (S0 ++ _)
  simp only [cF, xH, J3, List.length_replicate, List.map_replicate, bI];rfl
 unfold Ee;rw [e];rfl
def startM (bs : List (List Stt)) (bits : List Int) (p : Nat) (b : List Stt) : Mc := (xH bs bits).enter p [] b none
theorem FH {S : aO} {a0 a1 a2 a5 : Option Vl} : ∀ (bs : List Int) (i : Nat), (∀ b ∈ bs, b = 0 \/ b = 1) -> loop (.tp [3, 4]) gY (eG i (bs.map D.int)) [a0, a1, a2, none, none, a5] S = .next [a0, a1, a2, none, none, a5] S
 | [], i, _ => rfl
 | b :: r, i, h => by
  have hb : (decide (0 <= b) && decide (b <= 1)) = true := by rcases h b (aV ..) with rfl | rfl <;> rfl
  rw [aM, eG, loop];simp only [pE, kG, aL, bF, if_true, bY, cE];rw [gY];simp! [Ef, hb];rw [<- gY];exact FH r (i + 1) fun b hb => h b (aK _ hb)
def PX (r : SR) (S : aO) : Res Vl := match r with
 | .ok m => if m.taken < m.bits.length then .err (lM (m.taken : Int)) S else .ok (.dat (.tup [.int m.ended, .lst (m.deeds.map Deed.d)])) S
 | .err i _ => .err (lM i) S
 | .no => .stuck
theorem G0 {S0 : aO} {m : Mc} : (eM S0 m).take S0.length = S0 := by simp [eM]
theorem Rf {S0 : aO} {bs : List (List Stt)} {bits : List Int} {p k : Nat} {b : List Stt} (ls : LS S0) (G : Good2 bs) (hb : bs[p]? = some b) (hbits : ∀ b ∈ bits, b = 0 \/ b = 1) (hk : k <= 100000) (hr : runM k (startM bs bits p b) ≠ .no) :
  cK [.dat (gP bs), .dat (.int (p : Int)), .dat (.lst (bits.map D.int))] S0 = PX (runM k (startM bs bits p b)) S0 := by
 have hp := (aI.mp hb).1;have hl3 := G.l3;have hl : bs.length <= 10 := by omega
 have lsb : (S0.all fun c => c.below S0.length) = true := bT.mpr fun c hc => ls c hc _
 have e1 := Hq (S0 := S0) (m := xH bs bits) (p := p) (a := []) (b := b) (st := none) ⟨by simp [xH], by simp [xH], fun a h => by simp [xH] at h; obtain ⟨_, rfl⟩ := h; simp⟩ (by simp [xH, hp]) hb (fun a k h => by simp [xH, hp] at h)
 have hB : ∀ b ∈ bs, Pc (bs.length : Int) b := fun b hb => (G.ok b hb).b
 have hi := A4 (S0 := S0) (m := xH bs bits) (f := "enter") (by decide)
 have hib : ∀ S, pH S "Book" "bodies" (.dat (gP bs)) = true := fun _ => rfl
 have lp := Gk (S0 := S0) (many := (bs.length : Int)) (a := some (.dat (gP bs))) (b := some (.dat (.int (p : Int)))) (c := some (.dat (.lst (bits.map D.int)))) (d := none) (e := none) k 1000000 (startM bs bits p b) (by omega) hB (fun t ht => by
  simp only [startM, Mc.enter, xH, bJ, vC, or_false] at ht;rcases ht with rfl | rfl
  ·exact hB b (bN hb)
  ·trivial) ⟨jC _, hbits⟩ (by simp [startM, Mc.enter, xH]; omega) (fun a ha => by
  have ha' : a ∈ (bZ bs.length ([] : List Nat)).set p [0] := ha;rcases tF ha' with h | h
  ·rw [(List.mem_replicate.mp h).2]; simp; omega
  ·rw [h]; simp; omega)
 rw [DZ];unfold mY;simp! [O5 hl, decide_eq_true (show (0 : Int) <= (p : Int) by omega), decide_eq_true (show (p : Int) < (bs.length : Int) by omega), FH bits 0 hbits, gU (hib S0), FF G.ok (show 3 <= 9 by omega) hl, Qr hl, gU hi, show D.non = Ji none from rfl, e1, Ap]
 rw [show eM S0 ((xH bs bits).enter p [] b none) = eM S0 (startM bs bits p b) from rfl]
 revert lp hr
 cases q : runM k (startM bs bits p b) with
 | no => intro hr; exact absurd rfl hr
 | err i m' =>
  intro _ lp;obtain ⟨ρ', e2⟩ := lp;simp! [e2];dsimp only [cF, trunc, PX];rw [G0, if_pos lsb]
 | ok m' =>
  intro _ e2;have e2' : _ = _ := e2;have hbits' : m'.bits = bits := (CZ q).1;simp! [e2', oO, aP]
  by_cases ht : m'.taken < m'.bits.length
  ·simp! [decide_eq_true (show ((m'.taken : Nat) : Int) < (bits.length : Int) by rw [<- hbits']; omega), oO]
   dsimp only [cF, trunc, PX];rw [G0, if_pos lsb, if_pos ht];rfl
  ·simp! [decide_eq_false (show ¬ ((m'.taken : Nat) : Int) < (bits.length : Int) by rw [<- hbits']; omega), Oj, qM, nO (DE (S0 := S0) (m := m'))]
   dsimp only [cF, trunc, PX];rw [take_set (by omega), G0, if_neg ht, show (Vl.below S0.length (Vl.dat (D.tup [D.int m'.ended, D.lst (m'.deeds.map Deed.d)])) && S0.all fun c => c.below S0.length) = true by rw [lsb]; rfl, if_pos rfl]
def Bn (n : Nat) (i : Int) : Prop := i.natAbs < 2 ^ n
structure Pen where
 x : Int
 y : Int
 u : Int
 v : Int
 p : Int
 q : Int
def Pen.ns (z : Pen) : List Int := [z.x, z.y, z.u, z.v, z.p, z.q]
abbrev Pen.ds (z : Pen) : List D := [.int z.x, .int z.y, .int z.u, .int z.v, .int z.p, .int z.q]
abbrev Pen.d (z : Pen) : D := .tup z.ds
def CA : Nat -> Int × Int -> Int × Int
 | 0, w => w
 | n + 1, w => CA n (-w.2, w.1)
def Cmd.run : Cmd -> Pen -> Pen
 | .go k, z => { z with x := z.x + k * z.u, y := z.y + k * z.v }
 | .turn k, z => { z with u := (CA k.toNat (z.u, z.v)).1, v := (CA k.toNat (z.u, z.v)).2 }
 | .mirror, z => { z with v := -z.v }
 | .scale k, z => { z with u := k * z.u, v := k * z.v }
 | .aim a b, z => { z with u := a, v := b }
 | .place a b, z => { z with x := a, y := b }
 | .mark, z => { z with p := z.x, q := z.y }
 | .ret, z => { z with x := z.p, y := z.q }
 | .exch, z => ⟨z.p, z.q, z.u, z.v, z.x, z.y⟩
theorem U3 {k j : Int} (h : -9 <= k /\ k <= 9) : IntMulOk k j := mulL (by omega) (by omega)
theorem mul9r {k j : Int} (h : -9 <= k /\ k <= 9) : IntMulOk j k := mulR (by omega) (by omega)
def dot (f : Nat -> Int) : Nat -> Int
 | 0 => 0
 | n + 1 => dot f n + f n
theorem mulB {a b : Nat} {i j : Int} (ha : Bn a i) (hb : Bn b j) (h0 : 0 < a) (h1 : 0 < b) (h : a + b <= 1000000) : IntMulOk i j := (wide_mul ha hb h0 h1 h).ok
theorem Bn.mul {a b : Nat} {i j : Int} (ha : Bn a i) (hb : Bn b j) : Bn (a + b) (i * j) := wide_lt ha hb
theorem Bn.zero {a : Nat} : Bn a 0 := by
 show 0 < 2 ^ a
 exact Nat.two_pow_pos a
theorem Bn.dot {a : Nat} {f : Nat -> Int} : ∀ {n : Nat}, (∀ j, j < n -> Bn a (f j)) -> (dot f n).natAbs <= n * 2 ^ a
 | 0, _ => by simp [PH.dot]
 | n + 1, h => by
  have h1 := Bn.dot (n := n) fun j hj => h j (by omega)
  have h2 : (f n).natAbs < 2 ^ a := h n (by omega)
  have e : PH.dot f (n + 1) = PH.dot f n + f n := rfl;rw [e, Nat.succ_mul];omega
theorem Bn.dot7 {a : Nat} {f : Nat -> Int} (h : ∀ j, j < 7 -> Bn a (f j)) : Bn (a + 3) (PH.dot f 7) := by
 have := Bn.dot h;have p : 0 < 2 ^ a := Nat.two_pow_pos a
 show (PH.dot f 7).natAbs < 2 ^ (a + 3)
 rw [Nat.pow_add];omega
def gt (M : List Int) (i : Nat) : Int := M.getD i 0
theorem Ei {M : List Int} {a n : Nat} (h : ∀ x ∈ M, Bn a x) : Bn a (gt M n) := by
 by_cases hn : n < M.length
 ·have e : gt M n = M[n] := by
   unfold gt;rw [bG, bO hn];rfl
  rw [e];exact h _ (fW hn)
 ·have e : gt M n = 0 := by
   unfold gt;rw [bG, dC (by omega)]
   rfl
  rw [e];exact Bn.zero
theorem Gq {M : List Int} {n : Nat} (h : M.length = n) : (aX n).map (gt M) = M := by
 apply List.ext_getElem
 ·simp [h]
 ·intro i h1 h2
  rw [List.getElem_map, List.getElem_range];unfold gt;rw [bG, bO h2];rfl
def qI (M : List Int) (z : Pen) (i : Nat) : Int := dot (fun j => gt M (7 * i + j) * gt ((1 : Int) :: z.ns) j) 7
theorem kA {f g : Nat -> Int} : ∀ {n : Nat}, (∀ k, k < n -> f k = g k) -> dot f n = dot g n
 | 0, _ => rfl
 | n + 1, h => by
  show dot f n + f n = dot g n + g n
  rw [kA fun k hk => h k (by omega), h n (by omega)]
theorem Hs : ∀ n : Nat, dot (fun _ => 0) n = 0
 | 0 => rfl
 | n + 1 => by
  show dot (fun _ => 0) n + 0 = 0
  rw [Hs n]; rfl
theorem KO (f g : Nat -> Int) : ∀ n : Nat, dot (fun k => f k + g k) n = dot f n + dot g n
 | 0 => rfl
 | n + 1 => by
  show dot (fun k => f k + g k) n + (f n + g n) = dot f n + f n + (dot g n + g n)
  rw [KO f g n]; omega
theorem Hu (c : Int) (f : Nat -> Int) : ∀ n : Nat, dot (fun k => c * f k) n = c * dot f n
 | 0 => by simp [dot]
 | n + 1 => by
  show dot (fun k => c * f k) n + c * f n = c * (dot f n + f n)
  rw [Hu c f n, Int.mul_add]
theorem Ht (c : Nat -> Int) (b : Nat -> Nat -> Int) (a : Nat -> Int) (m : Nat) : ∀ n : Nat, dot (fun k => c k * dot (fun l => b k l * a l) m) n = dot (fun l => dot (fun k => c k * b k l) n * a l) m
 | 0 => by
  show 0 = dot (fun l => 0 * a l) m
  rw [kA (g := fun _ => 0) fun k _ => Int.zero_mul _, Hs]
 | n + 1 => by
  show dot (fun k => c k * dot (fun l => b k l * a l) m) n + c n * dot (fun l => b n l * a l) m = dot (fun l => (dot (fun k => c k * b k l) n + c n * b n l) * a l) m
  rw [Ht c b a m n, <- Hu, <- KO];exact kA fun l _ => by rw [Int.add_mul, Int.mul_assoc]
def delta (i j : Nat) : Int := if i = j then 1 else 0
theorem B9 (x : Nat -> Int) (j : Nat) : ∀ n : Nat, dot (fun k => x k * delta k j) n = if j < n then x j else 0
 | 0 => rfl
 | n + 1 => by
  show dot (fun k => x k * delta k j) n + x n * delta n j = _
  rw [B9 x j n];unfold delta
  by_cases h : n = j
  ·subst h
   rw [if_neg (by omega), if_pos rfl, if_pos (by omega)]; omega
  ·rw [if_neg h, rR, Int.add_zero]
   by_cases h2 : j < n
   ·rw [if_pos h2, if_pos (by omega)]
   ·rw [if_neg h2, if_neg (by omega)]
@[irreducible] def mx (f : Nat -> Nat -> Int) : List Int := (aX 49).map fun t => f (t / 7) (t % 7)
theorem Cg (f : Nat -> Nat -> Int) : (mx f).length = 49 := by
 unfold mx;simp
theorem O6 {f : Nat -> Int} {n t : Nat} (h : t < n) : gt ((aX n).map f) t = f t := by
 unfold gt;rw [bG, cM, lJ h];rfl
theorem Cw {f : Nat -> Nat -> Int} {i j : Nat} (hi : i < 7) (hj : j < 7) : gt (mx f) (7 * i + j) = f i j := by
 unfold mx;rw [O6 (by omega), show (7 * i + j) / 7 = i by omega, show (7 * i + j) % 7 = j by omega]
theorem U2 {f g : Nat -> Nat -> Int} (h : ∀ i j, i < 7 -> j < 7 -> f i j = g i j) : mx f = mx g := by
 unfold mx
 apply iE
 intro t ht;have := dR.mp ht;exact h _ _ (by omega) (by omega)
theorem Sk {M : List Int} (h : M.length = 49) : mx (fun i j => gt M (7 * i + j)) = M := by
 rw [<- Gq h];unfold mx
 apply iE
 intro t ht;have ht := dR.mp ht;rw [Gq h]
 show gt M (7 * (t / 7) + t % 7) = gt M t
 rw [show 7 * (t / 7) + t % 7 = t by omega]
theorem mx_eq {M N : List Int} (hM : M.length = 49) (hN : N.length = 49) (h : ∀ i j, i < 7 -> j < 7 -> gt M (7 * i + j) = gt N (7 * i + j)) : M = N := by
 rw [<- Sk hM, <- Sk hN];exact U2 h
theorem NV {f : Nat -> Nat -> Int} {a : Nat} (h : ∀ i j, i < 7 -> j < 7 -> Bn a (f i j)) : ∀ x ∈ mx f, Bn a x := fun x hx => by
 unfold mx at hx;obtain ⟨t, ht, rfl⟩ := nR.mp hx;have := dR.mp ht;exact h _ _ (by omega) (by omega)
def rows (f : Nat -> Nat -> Int) (n : Nat) : List Int := (aX n).flatMap fun i => (aX 7).map (f i)
theorem An (f : Nat -> Nat -> Int) (n : Nat) : rows f (n + 1) = rows f n ++ (aX 7).map (f n) := by
 unfold rows;rw [show aX (n + 1) = aX n ++ [n] from Dx, List.flatMap_append]
 simp only [List.flatMap_cons, List.flatMap_nil, cX]
theorem Gn (f : Nat -> Nat -> Int) : ∀ n, (rows f n).length = 7 * n
 | 0 => rfl
 | n + 1 => by rw [An, bL, Gn f n]; simp; omega
theorem Gm (f : Nat -> Nat -> Int) : ∀ n, rows f n = (aX (7 * n)).map fun t => f (t / 7) (t % 7)
 | 0 => rfl
 | n + 1 => by
  rw [An, Gm f n, show 7 * (n + 1) = 7 * n + 7 by omega, List.range_add, cR, jD]
  congr 1
  apply iE
  intro j hj;have := dR.mp hj
  show f n j = f ((7 * n + j) / 7) ((7 * n + j) % 7)
  rw [show (7 * n + j) / 7 = n by omega, show (7 * n + j) % 7 = j by omega]
theorem Jq (f : Nat -> Nat -> Int) : rows f 7 = mx f := by
 unfold mx;exact Gm f 7
def rK (A B : List Int) : List Int := mx fun i j => dot (fun k => gt B (7 * i + k) * gt A (7 * k + j)) 7
theorem BA (A B : List Int) : (rK A B).length = 49 := Cg _
theorem Hz {A B : List Int} {a b : Nat} (ha : ∀ x ∈ A, Bn a x) (hb : ∀ x ∈ B, Bn b x) : ∀ x ∈ rK A B, Bn (a + b + 3) x := NV fun i j _ _ => Bn.dot7 fun k _ => by
 rw [Nat.add_comm a b];exact Bn.mul (Ei hb) (Ei ha)
@[irreducible] def unitM : List Int := mx delta
theorem vF : unitM.length = 49 := by
 unfold unitM;exact Cg _
theorem Km : ((aX 49).map fun t : Nat => (if decide ((0 + (t : Int)) % 8 = 0) = true then (1 : Int) else 0)) = unitM := by
 unfold unitM mx
 decide
def zeroP : Pen := ⟨0, 0, 0, 0, 0, 0⟩
def pD (j : Nat) : Pen := ⟨delta 0 j, delta 1 j, delta 2 j, delta 3 j, delta 4 j, delta 5 j⟩
def vc (z : Pen) (i : Nat) : Int := gt ((1 : Int) :: z.ns) i
def kJ (r : Pen -> Pen) (i j : Nat) : Int := if j = 0 then vc (r zeroP) i else vc (r (pD (j - 1))) i - vc (r zeroP) i
@[irreducible] def probeM (r : Pen -> Pen) : List Int := mx (kJ r)
theorem Cc (r : Pen -> Pen) : (probeM r).length = 49 := by
 unfold probeM;exact Cg _
def MatOf (r : Pen -> Pen) (M : List Int) : Prop := M.length = 49 /\ ∀ z i, i < 7 -> vc (r z) i = qI M z i
theorem Jz {j : Nat} (h : j < 7) : j = 0 \/ j = 1 \/ j = 2 \/ j = 3 \/ j = 4 \/ j = 5 \/ j = 6 := by omega
theorem J5 (M : List Int) (i : Nat) : qI M zeroP i = gt M (7 * i) := by
 simp [qI, dot, zeroP, Pen.ns, gt]
theorem J6 (A B : List Int) (z w : Pen) (hw : ∀ k, k < 7 -> vc w k = qI A z k) (i : Nat) (hi : i < 7) : qI (rK A B) z i = qI B w i := by
 unfold qI;rw [kA (g := fun j => dot (fun k => gt B (7 * i + k) * gt A (7 * k + j)) 7 * vc z j) fun j hj => by
  unfold rK;rw [Cw hi hj];rfl]
 rw [<- Ht (fun k => gt B (7 * i + k)) (fun k j => gt A (7 * k + j)) (fun j => vc z j) 7 7]
 exact kA fun k hk => by
  show _ * qI A z k = _ * vc w k
  rw [hw k hk]
theorem MatOf.comp {r s : Pen -> Pen} {A B : List Int} (h : MatOf r A) (k : MatOf s B) : MatOf (fun z => s (r z)) (rK A B) := ⟨BA _ _, fun z i hi => by rw [k.2 _ _ hi, J6 A B z (r z) (fun l hl => h.2 _ _ hl) i hi]⟩
theorem MatOf.unit : MatOf (fun z => z) unitM := ⟨vF, fun z i hi => by
 unfold qI;rw [kA (g := fun j => vc z j * delta j i) fun j hj => by
  unfold unitM;rw [Cw hi hj, C6];unfold delta
  by_cases e : i = j
  ·rw [if_pos e, if_pos e.symm]; rfl
  ·rw [if_neg e, if_neg fun z => e z.symm, rR, rR]]
 rw [B9, if_pos hi]⟩
theorem MatOf.of {r : Pen -> Pen} (h : ∀ z i, i < 7 -> vc (r z) i = dot (fun j => kJ r i j * vc z j) 7) : MatOf r (probeM r) := ⟨Cc r, fun z i hi => by
 rw [h z i hi];unfold qI;exact kA fun j hj => by
  unfold probeM;rw [Cw hi hj];rfl⟩
def Cmd.mat (m : Cmd) : List Int := probeM m.run
theorem Cmd.matOf {m : Cmd} (ok : m.Ok) : MatOf m.run m.mat := MatOf.of fun z i hi => by
 cases m with
 | turn k =>
  have hk : k = 1 \/ k = 2 \/ k = 3 := by have := ok.1; have := ok.2; omega
  rcases hk with e | e | e <;> subst e <;> rcases Jz hi with h | h | h | h | h | h | h <;> subst h <;> simp [dot, kJ, vc, gt, Cmd.run, zeroP, pD, delta, Pen.ns, CA]
 | _ => rcases Jz hi with h | h | h | h | h | h | h <;> subst h <;> simp [dot, kJ, vc, gt, Cmd.run, zeroP, pD, delta, Pen.ns]
theorem Cmd.mat_bd {m : Cmd} (ok : m.Ok) : ∀ x ∈ m.mat, Bn 5 x := by
 unfold Cmd.mat probeM;refine NV fun i j hi hj => ?_
 cases m with
 | turn k =>
  have hk : k = 1 \/ k = 2 \/ k = 3 := by have := ok.1; have := ok.2; omega
  rcases hk with e | e | e <;> subst e <;> rcases Jz hi with h | h | h | h | h | h | h <;> subst h <;> rcases Jz hj with h | h | h | h | h | h | h <;> subst h <;> simp [Bn, kJ, vc, gt, Cmd.run, zeroP, pD, delta, Pen.ns, CA]
 | go k =>
  have := ok.1; have := ok.2;rcases Jz hi with h | h | h | h | h | h | h <;> subst h <;> rcases Jz hj with h | h | h | h | h | h | h <;> subst h <;> simp [Bn, kJ, vc, gt, Cmd.run, zeroP, pD, delta, Pen.ns] <;> omega
 | scale k =>
  have := ok.1; have := ok.2;rcases Jz hi with h | h | h | h | h | h | h <;> subst h <;> rcases Jz hj with h | h | h | h | h | h | h <;> subst h <;> simp [Bn, kJ, vc, gt, Cmd.run, zeroP, pD, delta, Pen.ns] <;> omega
 | aim a b =>
  have := ok.1.1; have := ok.1.2; have := ok.2.1; have := ok.2.2;rcases Jz hi with h | h | h | h | h | h | h <;> subst h <;> rcases Jz hj with h | h | h | h | h | h | h <;> subst h <;> simp [Bn, kJ, vc, gt, Cmd.run, zeroP, pD, delta, Pen.ns] <;> omega
 | place a b =>
  have := ok.1.1; have := ok.1.2; have := ok.2.1; have := ok.2.2;rcases Jz hi with h | h | h | h | h | h | h <;> subst h <;> rcases Jz hj with h | h | h | h | h | h | h <;> subst h <;> simp [Bn, kJ, vc, gt, Cmd.run, zeroP, pD, delta, Pen.ns] <;> omega
 | _ => rcases Jz hi with h | h | h | h | h | h | h <;> subst h <;> rcases Jz hj with h | h | h | h | h | h | h <;> subst h <;> simp [Bn, kJ, vc, gt, Cmd.run, zeroP, pD, delta, Pen.ns]
theorem eZ {i j k l m n : Nat} {a b c d e f : D} {ρ : Ev} {S : aO} : Nu (.tp [i, j, k, l, m, n]) ρ (.dat (.tup [a, b, c, d, e, f])) S = .next ((((((ρ.set i (some (.dat a))).set j (some (.dat b))).set k (some (.dat c))).set l (some (.dat d))).set m (some (.dat e))).set n (some (.dat f))) S := rfl
theorem Ct {z : Pen} {S : aO} : sO [.dat z.d] S = .ok (.dat (.bl true)) S := by
 rw [Ph];unfold AJ;simp! [A3, jO, pE, eK, sz, aL, bF, bY, cE];rfl
theorem E6 {S : aO} {a0 a1 a2 a3 a6 a7 a8 : Option Vl} : ∀ (n : Nat) (lo : Int) (w : Int × Int), loop (.nm 9) lX (gK lo n) [a0, a1, a2, a3, some (.dat (.int w.1)), some (.dat (.int w.2)), a6, a7, a8, none] S = .next [a0, a1, a2, a3, some (.dat (.int (CA n w).1)), some (.dat (.int (CA n w).2)), a6, a7, a8, none] S
 | 0, lo, w => rfl
 | n + 1, lo, w => by
  have := E6 (S := S) (a0 := a0) (a1 := a1) (a2 := a2) (a3 := a3) (a6 := a6) (a7 := a7) (a8 := a8) n (lo + 1) (-w.2, w.1);rw [oG, loop];simp only [pE, kG];rw [lX];simp! [if_true];rw [<- lX];exact this
theorem wA {c : Cmd} {z : Pen} {S : aO} (h : c.Ok) : nL [.dat z.d, .dat c.d] S = .ok (.dat (c.run z).d) S := by
 rw [JV];unfold uJ;cases c with
 | go k =>
  simp! [eZ, Pen.d, Pen.ds, Cmd.d, cO, eP, lE (U3 h)];rfl
 | turn k =>
  obtain ⟨h1, h2⟩ := h;simp! [eZ, Pen.d, Pen.ds, Cmd.d, cO, eP, gT (show -(2 ^ 62) <= k by omega) (show k < 2 ^ 62 by omega), E6 (k.toNat) 0 (z.u, z.v)]
  rfl
 | mirror => simp! [eZ, Pen.d, Pen.ds, Cmd.d, cO]; rfl
 | scale k =>
  simp! [eZ, Pen.d, Pen.ds, Cmd.d, cO, eP, lE (U3 (show -9 <= k /\ k <= 9 by have := h.1; have := h.2; omega))]
  rfl
 | aim a b => simp! [eZ, Pen.d, Pen.ds, Cmd.d, cO, eP, kL]; rfl
 | place a b => simp! [eZ, Pen.d, Pen.ds, Cmd.d, cO, eP, kL]; rfl
 | mark => simp! [eZ, Pen.d, Pen.ds, Cmd.d, cO]; rfl
 | ret => simp! [eZ, Pen.d, Pen.ds, Cmd.d, cO]; rfl
 | exch => simp! [eZ, Pen.d, Pen.ds, Cmd.d, cO]; rfl
def lU (S0 : aO) (xs ys : List D) : aO := S0 ++ [.lst xs, .lst ys]
section
variable {S0 : aO} {xs ys : List D}
theorem Je : (lU S0 xs ys)[S0.length]? = some (.lst xs) := by simp [lU]
theorem Mh : (lU S0 xs ys)[S0.length + 1]? = some (.lst ys) := by simp [lU]
theorem TX {c : List D} : (lU S0 xs ys).set S0.length (.lst c) = lU S0 c ys := by simp [lU]
theorem Mg {c : List D} : (lU S0 xs ys).set (S0.length + 1) (.lst c) = lU S0 xs c := by
 rw [lU, dM _ _ (by omega), show S0.length + 1 - S0.length = 1 by omega]; rfl
theorem GO {c : Cell} : ((lU S0 xs ys).set S0.length c).take S0.length = S0 := by simp [lU]
theorem GT {ρ : Ev} {b : FE} {d : D} (F : xs.length < 5000000) (hb : b ρ (lU S0 xs ys) = .ok (.dat d) (lU S0 xs ys)) : yC b ρ (.cel S0.length) (lU S0 xs ys) = .ok (.dat .non) (lU S0 (xs ++ [d]) ys) := by
 rw [mP Je, hb, eL, nP Je (IS (by omega)), TX]
theorem GQ {ρ : Ev} {b : FE} {d : D} (F : ys.length < 5000000) (hb : b ρ (lU S0 xs ys) = .ok (.dat d) (lU S0 xs ys)) : yC b ρ (.cel (S0.length + 1)) (lU S0 xs ys) = .ok (.dat .non) (lU S0 xs (ys ++ [d])) := by
 rw [mP Mh, hb, eL, nP Mh (IS (by omega)), Mg]
theorem GP {d : D} : sA (.cel (S0.length + 1)) (lU S0 xs (ys ++ [d])) = .ok (.dat d) (lU S0 xs ys) := by
 simp only [sA, Mh];rw [show (ys ++ [d])[(ys ++ [d]).length - 1]? = some d by simp]
 dsimp only;rw [kO, Mg]
theorem Jd : S0 ++ [.lst xs] ++ [.lst ys] = lU S0 xs ys := by simp [lU]
end
theorem P6 {a b c d e f : D} : cutD [a, b, c, d, e, f] none (some 4) = [a, b, c, d] := by
 unfold cutD;rw [HT.sIx_none, show ((4 : Int)) = ((4 : Nat) : Int) from rfl, HT.sIx_nat]
 simp
theorem TF {a b c d e f : D} : cutD [a, b, c, d, e, f] (some 4) none = [e, f] := by
 unfold cutD;rw [HT.sIx_none, show ((4 : Int)) = ((4 : Nat) : Int) from rfl, HT.sIx_nat]
 simp
structure Ps where
 pens : List Pen
 z : Pen
 stk : List Pen
def Ed (t z : Pen) : Pen := ⟨t.x, t.y, t.u, t.v, z.p, z.q⟩
def DI : Deed -> Ps -> Option Ps
 | .cmd c, s => some ⟨s.pens ++ [c.run s.z], c.run s.z, s.stk⟩
 | .op, s => some ⟨s.pens, s.z, s.z :: s.stk⟩
 | .cl, s => match s.stk with
  | [] => none
  | t :: k => some ⟨s.pens, Ed t s.z, k⟩
def jP : List Deed -> Ps -> Option Ps
 | [], s => some s
 | d :: r, s => match DI d s with
  | none => none
  | some s' => jP r s'
def Deed.Ok : Deed -> Prop
 | .cmd c => c.Ok
 | _ => True
theorem By {c : Cmd} {S : aO} : bW (.dat c.d) (.dat (.int 0)) S = .ok (.dat (.str c.word)) S := by
 cases c <;> exact cO
theorem wM {c : Cmd} {w : Str} (h : w = "open" \/ w = "close" \/ w = "hold" \/ w = "shut") : decide (c.word = w) = false := by
 rcases h with rfl | rfl | rfl | rfl <;> cases c <;> rfl
def t4 (z : Pen) : D := .tup [.int z.x, .int z.y, .int z.u, .int z.v]
theorem Bq {S0 : aO} {a0 : Option Vl} : ∀ (ds : List Deed) (s s' : Ps), (∀ d ∈ ds, d.Ok) -> jP ds s = some s' -> s.pens.length + s.stk.length + ds.length <= 1000000 ->
  loop (.nm 4) fC (ds.map Deed.d) [a0, some (.dat s.z.d), some (.cel S0.length), some (.cel (S0.length + 1)), none] (lU S0 (s.pens.map Pen.d) (tG t4 s.stk)) = .next [a0, some (.dat s'.z.d), some (.cel S0.length), some (.cel (S0.length + 1)), none] (lU S0 (s'.pens.map Pen.d) (tG t4 s'.stk))
 | [], s, s', _, h, _ => by cases h; rfl
 | d :: r, s, s', ok, h, hl => by
  rw [aL] at hl;have okd := ok d (aV ..);rw [aM, loop];simp only [pE, kG];rw [fC];cases d with
  | cmd c =>
   have ih := Bq (S0 := S0) (a0 := a0) r ⟨s.pens ++ [c.run s.z], c.run s.z, s.stk⟩ s' (fun d hd => ok d (aK _ hd)) h (by simp; omega)
   simp! [Deed.d, By, wM (c := c) (w := "open") (.inl rfl), wM (c := c) (w := "close") (.inr (.inl rfl)), wA (show c.Ok from okd), GT (d := (c.run s.z).d) (S0 := S0) (xs := s.pens.map Pen.d) (ys := tG t4 s.stk) (by rw [aP]; omega)]
   rw [<- fC, <- ih];simp only [cR, aM, bI]
  | op =>
   have ih := Bq (S0 := S0) (a0 := a0) r ⟨s.pens, s.z, s.z :: s.stk⟩ s' (fun d hd => ok d (aK _ hd)) h (by simp; omega)
   have hb : ∀ {x : Option Vl}, Aq false (aC 1) pN (fX (mC (.int 4))) [a0, some (.dat s.z.d), some (.cel S0.length), some (.cel (S0.length + 1)), x] (lU S0 (s.pens.map Pen.d) (tG t4 s.stk)) = .ok (.dat (t4 s.z)) (lU S0 (s.pens.map Pen.d) (tG t4 s.stk)) := by
    intro x;simp! [Pen.d, Pen.ds, P6];rfl
   simp! [Deed.d, cO, GQ (by rw [nU]; omega) hb]
   rw [<- fC, <- ih];simp only [rvD_cons, t4]
  | cl =>
   cases hk : s.stk with
   | nil => simp [jP, DI, hk] at h
   | cons t k =>
    simp only [jP, DI, hk] at h;have ih := Bq (S0 := S0) (a0 := a0) r ⟨s.pens, Ed t s.z, k⟩ s' (fun d hd => ok d (aK _ hd)) h (by simp; rw [hk] at hl; simp at hl; omega)
    rw [rvD_cons];simp! [Deed.d, cO, GP, TF, t4, mT, aL, bF, sz, cH, bQ];rw [<- fC, <- ih];rfl
theorem NN {S : aO} {ds : List Deed} {z : Pen} {s' : Ps} (ls : LS S) (ok : ∀ d ∈ ds, d.Ok) (h : jP ds ⟨[], z, []⟩ = some s') (hl : ds.length <= 900000) :
  jA [.dat (.lst (ds.map Deed.d)), .dat z.d] S = .ok (.dat (.tup [.lst (s'.pens.map Pen.d), s'.z.d])) S := by
 have lp := Bq (S0 := S) (a0 := some (.dat (.lst (ds.map Deed.d)))) ds ⟨[], z, []⟩ s' ok h (by simp; omega)
 have lsb : (S.all fun c => c.below S.length) = true := bT.mpr fun c hc => ls c hc _
 simp only [bI, tG, List.reverse_nil] at lp;rw [Dt];unfold oC;simp! [bL, aL, bF, kZ, Jd, lp, nO (Je (S0 := S))];dsimp only [cF, trunc];rw [GO, show (Vl.below S.length (Vl.dat (D.tup [D.lst (s'.pens.map Pen.d), s'.z.d])) && S.all fun c => c.below S.length) = true by rw [lsb]; rfl, if_pos rfl]
def Deed.l : Deed -> D
 | .cmd c => c.d
 | .op => .tup [.str "hold"]
 | .cl => .tup [.str "shut"]
theorem Ql {a b c : D} {r : List D} {S : aO} : bW (.dat (.lst (a :: b :: c :: r))) (.dat (.int 2)) S = .ok (.dat c) S := rD (atI_nat (j := 2) rfl)
theorem QV {c : Cmd} {z : Pen} {S : aO} (h : c.Ok) : zR [.dat z.d, .dat c.d] S = .ok (.dat (c.run z).d) S := by
 rw [Pj];unfold AQ;cases c with
 | go k =>
  simp! [eZ, Pen.d, Pen.ds, Cmd.d, cO, eP, kL, mT, aL, bF, sz, cH, bQ, lE (U3 h)];rfl
 | turn k =>
  obtain ⟨h1, h2⟩ := h;rcases (by omega : k = 1 \/ k = 2 \/ k = 3) with rfl | rfl | rfl
  ·simp! [eZ, Pen.d, Pen.ds, Cmd.d, cO, eP, kL, yD, Cs, Ql, mT, aL, bF, sz, cH, bQ, Int.sub_self]
   rfl
  ·simp! [eZ, Pen.d, Pen.ds, Cmd.d, cO, eP, kL, yD, Cs, Ql, mT, aL, bF, sz, cH, bQ, show (2 : Int) - 1 = 1 from rfl]
   rfl
  ·simp! [eZ, Pen.d, Pen.ds, Cmd.d, cO, eP, kL, yD, Cs, Ql, mT, aL, bF, sz, cH, bQ, show (3 : Int) - 1 = 2 from rfl]
   show Res.ok (Vl.dat (D.tup [.int z.x, .int z.y, .int z.v, .int (- z.u), .int z.p, .int z.q])) S = Res.ok (Vl.dat (D.tup [.int z.x, .int z.y, .int (- -z.v), .int (- z.u), .int z.p, .int z.q])) S
   rw [Int.neg_neg]
 | mirror => simp! [eZ, Pen.d, Pen.ds, Cmd.d, cO, eP, kL, mT, aL, bF, sz, cH, bQ]; rfl
 | scale k =>
  simp! [eZ, Pen.d, Pen.ds, Cmd.d, cO, eP, kL, mT, aL, bF, sz, cH, bQ, lE (mul9r (show -9 <= k /\ k <= 9 by have := h.1; have := h.2; omega))]
  show Res.ok (Vl.dat (D.tup [.int z.x, .int z.y, .int (z.u * k), .int (z.v * k), .int z.p, .int z.q])) S = Res.ok (Vl.dat (D.tup [.int z.x, .int z.y, .int (k * z.u), .int (k * z.v), .int z.p, .int z.q])) S
  rw [C6 z.u, C6 z.v]
 | aim a b => simp! [eZ, Pen.d, Pen.ds, Cmd.d, cO, eP, kL, mT, aL, bF, sz, cH, bQ]; rfl
 | place a b => simp! [eZ, Pen.d, Pen.ds, Cmd.d, cO, eP, kL, mT, aL, bF, sz, cH, bQ]; rfl
 | mark => simp! [eZ, Pen.d, Pen.ds, Cmd.d, cO, eP, kL, mT, aL, bF, sz, cH, bQ]; rfl
 | ret => simp! [eZ, Pen.d, Pen.ds, Cmd.d, cO, eP, kL, mT, aL, bF, sz, cH, bQ]; rfl
 | exch => simp! [eZ, Pen.d, Pen.ds, Cmd.d, cO, eP, kL, mT, aL, bF, sz, cH, bQ]; rfl
theorem Bv {S0 : aO} {a0 : Option Vl} : ∀ (ds : List Deed) (s s' : Ps), (∀ d ∈ ds, d.Ok) -> jP ds s = some s' -> s.pens.length + s.stk.length + ds.length <= 1000000 ->
  loop (.nm 4) lA (ds.map Deed.l) [a0, some (.dat s.z.d), some (.cel S0.length), some (.cel (S0.length + 1)), none] (lU S0 (s.pens.map Pen.d) (tG Pen.d s.stk)) = .next [a0, some (.dat s'.z.d), some (.cel S0.length), some (.cel (S0.length + 1)), none] (lU S0 (s'.pens.map Pen.d) (tG Pen.d s'.stk))
 | [], s, s', _, h, _ => by cases h; rfl
 | d :: r, s, s', ok, h, hl => by
  rw [aL] at hl;have okd := ok d (aV ..);rw [aM, loop];simp only [pE, kG];rw [lA];cases d with
  | cmd c =>
   have ih := Bv (S0 := S0) (a0 := a0) r ⟨s.pens ++ [c.run s.z], c.run s.z, s.stk⟩ s' (fun d hd => ok d (aK _ hd)) h (by simp; omega)
   simp! [Deed.l, By, wM (c := c) (w := "hold") (.inr (.inr (.inl rfl))), wM (c := c) (w := "shut") (.inr (.inr (.inr rfl))), QV (show c.Ok from okd), GT (d := (c.run s.z).d) (S0 := S0) (xs := s.pens.map Pen.d) (ys := tG Pen.d s.stk) (by rw [aP]; omega)]
   rw [<- lA, <- ih];simp only [cR, aM, bI]
  | op =>
   have ih := Bv (S0 := S0) (a0 := a0) r ⟨s.pens, s.z, s.z :: s.stk⟩ s' (fun d hd => ok d (aK _ hd)) h (by simp; omega)
   simp! [Deed.l, cO, GQ (d := s.z.d) (S0 := S0) (xs := s.pens.map Pen.d) (ys := tG Pen.d s.stk) (by rw [nU]; omega)]
   rw [<- lA, <- ih];simp only [rvD_cons]
  | cl =>
   cases hk : s.stk with
   | nil => simp [jP, DI, hk] at h
   | cons t k =>
    simp only [jP, DI, hk] at h;have ih := Bv (S0 := S0) (a0 := a0) r ⟨s.pens, Ed t s.z, k⟩ s' (fun d hd => ok d (aK _ hd)) h (by simp; rw [hk] at hl; simp at hl; omega)
    rw [rvD_cons];simp! [Deed.l, cO, GP, TF, P6, mT, aL, bF, sz, cH, bQ];rw [<- lA, <- ih];rfl
theorem Na {S : aO} {ds : List Deed} {z : Pen} {s' : Ps} (ls : LS S) (ok : ∀ d ∈ ds, d.Ok) (h : jP ds ⟨[], z, []⟩ = some s') (hl : ds.length <= 900000) :
  sP [.dat (.lst (ds.map Deed.l)), .dat z.d] S = .ok (.dat (.lst [.lst (s'.pens.map Pen.d), s'.z.d])) S := by
 have lp := Bv (S0 := S) (a0 := some (.dat (.lst (ds.map Deed.l)))) ds ⟨[], z, []⟩ s' ok h (by simp; omega)
 have lsb : (S.all fun c => c.below S.length) = true := bT.mpr fun c hc => ls c hc _
 simp only [bI, tG, List.reverse_nil] at lp;rw [Pi];unfold AN;simp! [bL, aL, bF, kZ, Jd, lp, nO (Je (S0 := S))];dsimp only [cF, trunc];rw [GO, show (Vl.below S.length (Vl.dat (D.lst [D.lst (s'.pens.map Pen.d), s'.z.d])) && S.all fun c => c.below S.length) = true by rw [lsb]; rfl, if_pos rfl]
abbrev mD (M : List Int) : D := .lst (M.map D.int)
theorem O7 {M : List Int} {i : Nat} (h : i < M.length) : (M.map D.int)[i]? = some (.int (gt M i)) := by
 rw [cM, bO h]
 show some (D.int M[i]) = some (D.int (M.getD i 0))
 rw [bG, bO h];rfl
theorem ixM {M : List Int} {t : Int} {n : Nat} {S : aO} (e : t = (n : Int)) (h : n < M.length) : bW (.dat (mD M)) (.dat (.int t)) S = .ok (.dat (.int (gt M n))) S := by
 rw [e];exact rD (atI_nat (O7 h))
theorem Rq {M : List Int} {lo hi : Option Int} : cutD (M.map D.int) lo hi = ((M.drop (HT.sIx M.length 0 lo)).take (HT.sIx M.length M.length hi - HT.sIx M.length 0 lo)).map D.int := by
 unfold cutD;rw [aP, <- List.map_drop, <- IJ]
theorem cut7 {M : List Int} {a b : Int} {k : Nat} (h : 7 * k + 7 <= M.length) (ha : a = ((7 * k : Nat) : Int)) (hb : b = ((7 * k + 7 : Nat) : Int)) : cutD (M.map D.int) (some a) (some b) = ((aX 7).map fun j => gt M (7 * k + j)).map D.int := by
 subst ha hb;rw [Rq, HT.sIx_nat, HT.sIx_nat, FM (by omega), FM (by omega)]
 rw [show (M.drop (7 * k)).take (7 * k + 7 - 7 * k) = (aX 7).map fun j => gt M (7 * k + j) from ?_]
 apply List.ext_getElem
 ·simp; omega
 ·intro i h1 h2
  simp only [aP, List.length_range] at h2;rw [List.getElem_take, List.getElem_drop, List.getElem_map, List.getElem_range];unfold gt;rw [bG, bO (by omega)]
  rfl
theorem Jb {f g : Nat -> D} : ∀ {l : List Nat}, MV (l.map f) (l.map g) = l.map fun j => .tup [f j, g j]
 | [] => rfl
 | x :: r => by rw [aM, aM, MV, Jb]; rfl
theorem g_zip {a b : FE} {ρ : Ev} {S : aO} {xs ys : List D} (ha : a ρ S = .ok (.dat (.lst xs)) S) (hb : b ρ S = .ok (.dat (.lst ys)) S) : Qa a b ρ S = .ok (MV xs ys) S := by
 unfold Qa;rw [ha, eL, hb, eL]
theorem BN {S : aO} : tR [] S = .ok (.dat (mD unitM)) S := by
 rw [JU];unfold yL AA;simp! [gT (show -(2 ^ 62) <= (49 : Int) by decide) (show (49 : Int) < 2 ^ 62 by decide)]
 rw [show gK 0 49 = (aX 49).map (fun k : Nat => D.int (0 + (k : Int))) from rfl]
 rw [gS (g := fun k : Nat => D.int (if decide ((0 + (k : Int)) % 8 = 0) = true then 1 else 0)) (sz (by decide)) fun k _ => ⟨_, rfl, ?_⟩]
 ·dsimp only [newL, cF]
  rw [show (aX 49).map (fun k : Nat => D.int (if decide ((0 + (k : Int)) % 8 = 0) = true then 1 else 0)) = ((aX 49).map (fun k : Nat => (if decide ((0 + (k : Int)) % 8 = 0) = true then (1 : Int) else 0))).map D.int by rw [jD]; rfl, Km]
  rfl
 ·simp! [mO (show (0 : Int) < 8 by decide)]
def Gp (A B : List Int) (i k : Nat) : List Int := (aX 7).map fun j => dot (fun l => gt B (7 * i + l) * gt A (7 * l + j)) k
theorem NB {A B : List Int} {i : Nat} : Gp A B i 0 = [0, 0, 0, 0, 0, 0, 0] := rfl
theorem KS {S : aO} {A B : List Int} {a b i : Nat} {a2 : Option Vl} (hA : A.length = 49) (hB : B.length = 49) (ba : ∀ x ∈ A, Bn a x) (bb : ∀ x ∈ B, Bn b x) (a0 : 0 < a) (b0 : 0 < b) (hab : a + b <= 1000000) (hi : i < 7) : ∀ (n k : Nat), n + k = 7 ->
  loop (.nm 5) lY (gK (k : Int) n) [some (.dat (mD A)), some (.dat (mD B)), a2, some (.dat (.int (i : Int))), some (.dat (mD (Gp A B i k))), none, none, none, none] S = .next [some (.dat (mD A)), some (.dat (mD B)), a2, some (.dat (.int (i : Int))), some (.dat (mD (Gp A B i 7))), none, none, none, none] S
 | 0, k, h => by
  obtain rfl : k = 7 := by omega
  rfl
 | n + 1, k, h => by
  have ih := KS (S := S) (a2 := a2) hA hB ba bb a0 b0 hab hi n (k + 1) (by omega)
  rw [oG, loop];simp only [pE, kG];rw [lY];have e1 : Gp A B i (k + 1) = (aX 7).map fun j => dot (fun l => gt B (7 * i + l) * gt A (7 * l + j)) k + gt B (7 * i + k) * gt A (7 * k + j) := rfl
  have m7 : ∀ {x : Nat}, IntMulOk (7 : Int) (x : Int) := mulL (by decide) (by decide)
  have ix := ixM (M := B) (t := 7 * (i : Int) + (k : Int)) (n := 7 * i + k) (S := S) (by omega) (by omega)
  simp! [lE m7, ix]
  by_cases hc : gt B (7 * i + k) = 0
  ·simp! [hc]
   rw [<- lY, show ((k : Int) + 1) = ((k + 1 : Nat) : Int) by omega, <- ih, e1]
   simp only [hc, Int.zero_mul, Int.add_zero];rfl
  ·have hz : (Qa (aC 4) (Aq false (aC 0) (fX (aR oQ (mC (.int 7)) (aC 5))) (fX (aR (dD false) (aR oQ (mC (.int 7)) (aC 5)) (mC (.int 7)))))) [some (.dat (mD A)), some (.dat (mD B)), a2, some (.dat (.int (i : Int))), some (.dat (mD (Gp A B i k))), some (.dat (.int (k : Int))), some (.dat (.int (gt B (7 * i + k)))), none, none] S = .ok ((aX 7).map fun j => .tup [.int (dot (fun l => gt B (7 * i + l) * gt A (7 * l + j)) k), .int (gt A (7 * k + j))]) S := by
    rw [g_zip (xs := (Gp A B i k).map D.int) (ys := ((aX 7).map fun j => gt A (7 * k + j)).map D.int) (by simp! [if_true]) (by simp! [lE m7, cut7 (M := A) (a := 7 * (k : Int)) (b := 7 * (k : Int) + 7) (k := k) (by omega) (by omega) (by omega)])]
    rw [Gp, jD, jD, Jb];rfl
   simp! [decide_eq_false hc, hz];rw [gS (g := fun j : Nat => D.int (dot (fun l => gt B (7 * i + l) * gt A (7 * l + j)) k + gt B (7 * i + k) * gt A (7 * k + j))) (sz (by decide)) fun j hj => ⟨_, rfl, ?_⟩]
   ·simp! [if_true]
    rw [<- lY, show ((k : Int) + 1) = ((k + 1 : Nat) : Int) by omega, <- ih, e1]
    simp only [mD, jD];rfl
   ·simp! [kG, lE (mulB (Ei bb) (Ei ba) b0 a0 (by omega))]
theorem lst7 {cl : Bool} {S : aO} {a b c d e f g : D} : Dl cl [.dat a, .dat b, .dat c, .dat d, .dat e, .dat f, .dat g] S = newL cl [a, b, c, d, e, f, g] S := rfl
theorem Hy {S : aO} {A B : List Int} {a b : Nat} (hA : A.length = 49) (hB : B.length = 49) (ba : ∀ x ∈ A, Bn a x) (bb : ∀ x ∈ B, Bn b x) (a0 : 0 < a) (b0 : 0 < b) (hab : a + b <= 1000000) : ∀ (n i : Nat), n + i = 7 ->
  loop (.nm 3) pK (gK (i : Int) n) [some (.dat (mD A)), some (.dat (mD B)), some (.dat (mD (rows (fun i j => dot (fun k => gt B (7 * i + k) * gt A (7 * k + j)) 7) i))), none, none, none, none, none, none] S = .next [some (.dat (mD A)), some (.dat (mD B)), some (.dat (mD (rK A B))), none, none, none, none, none, none] S
 | 0, i, h => by
  obtain rfl : i = 7 := by omega
  rw [Jq];rfl
 | n + 1, i, h => by
  have ih := Hy (S := S) hA hB ba bb a0 b0 hab n (i + 1) (by omega)
  have inn := KS (S := S) (i := i) (a2 := some (.dat (mD (rows (fun i j => dot (fun k => gt B (7 * i + k) * gt A (7 * k + j)) 7) i)))) hA hB ba bb a0 b0 hab (by omega) 7 0 rfl
  rw [NB, mR] at inn;simp only [mD, aM, bI] at inn;rw [oG, loop];simp only [pE, kG];rw [pK];simp! [lst7, gT (show -(2 ^ 62) <= (7 : Int) by decide) (show (7 : Int) < 2 ^ 62 by decide), inn, gL, aP, Gn, Gp, List.length_range, sz (show 7 * i + 7 <= 1000 by omega)]
  rw [<- pK, show ((i : Int) + 1) = ((i + 1 : Nat) : Int) by omega, <- ih, An]
  simp only [mD, cR]
theorem BX {S : aO} {A B : List Int} {a b : Nat} (hA : A.length = 49) (hB : B.length = 49) (ba : ∀ x ∈ A, Bn a x) (bb : ∀ x ∈ B, Bn b x) (a0 : 0 < a) (b0 : 0 < b) (hab : a + b <= 1000000) :
  tS [.dat (mD A), .dat (mD B)] S = .ok (.dat (mD (rK A B))) S := by
 have lp := Hy (S := S) hA hB ba bb a0 b0 hab 7 0 rfl;rw [show rows (fun i j => dot (fun k => gt B (7 * i + k) * gt A (7 * k + j)) 7) 0 = [] from rfl, mR] at lp
 rw [JW];unfold yM;simp! [gT (show -(2 ^ 62) <= (7 : Int) by decide) (show (7 : Int) < 2 ^ 62 by decide), show D.lst [] = mD [] from rfl, lp]
 rfl
def rA (M : List Int) : List Int := mx fun i j => if i = 0 \/ 4 < i then gt M (7 * i + j) else gt M 0 * delta i j
theorem Av (M : List Int) : (rA M).length = 49 := Cg _
def K7 (M : List Int) : List Int := M.take 7 ++ ((unitM.drop 7).take 28).map (gt M 0 * ·) ++ M.drop 35
theorem Ej {A B : List Int} {t : Nat} : gt (A ++ B) t = if t < A.length then gt A t else gt B (t - A.length) := by
 unfold gt;rw [bG, bG, bG, List.getElem?_append]
 by_cases h : t < A.length
 ·rw [if_pos h, if_pos h]
 ·rw [if_neg h, if_neg h]
theorem KD {A : List Int} {n t : Nat} (h : t < n) : gt (A.take n) t = gt A t := by
 unfold gt;rw [bG, bG, eA, if_pos h]
theorem KE {A : List Int} {n t : Nat} : gt (A.drop n) t = gt A (n + t) := by
 unfold gt;rw [bG, bG, List.getElem?_drop]
theorem UZ {A : List Int} {c : Int} {t : Nat} : gt (A.map (c * ·)) t = c * gt A t := by
 unfold gt;rw [bG, bG, cM];cases A[t]? with
 | none => simp
 | some x => rfl
theorem Nk {M : List Int} (h : M.length = 49) : K7 M = rA M := by
 have l1 : (M.take 7).length = 7 := by rw [iU, h]; rfl
 have l2 : (((unitM.drop 7).take 28).map (gt M 0 * ·)).length = 28 := by rw [aP, iU, pC, vF]; rfl
 refine mx_eq ?_ (Av M) fun i j hi hj => ?_
 ·unfold K7
  rw [bL, bL, l1, l2, pC, h]
 ·unfold K7 rA
  rw [Cw hi hj, Ej, bL, l1, l2, Ej, l1]
  by_cases h0 : i = 0
  ·rw [if_pos (by omega), if_pos (by omega), if_pos (.inl h0), KD (by omega)]
  ·by_cases h4 : 4 < i
   ·rw [if_neg (by omega), if_pos (.inr h4), KE, show 35 + (7 * i + j - (7 + 28)) = 7 * i + j by omega]
   ·rw [if_pos (by omega), if_neg (by omega), if_neg (by omega), UZ, KD (by omega), KE, show 7 + (7 * i + j - 7) = 7 * i + j by omega]
    unfold unitM;rw [Cw hi hj]
theorem C9 {x : Int} (h : x ∈ unitM) : x = 0 \/ x = 1 := by
 unfold unitM mx at h;obtain ⟨t, _, rfl⟩ := nR.mp h;unfold delta
 by_cases e : t / 7 = t % 7
 ·right; rw [if_pos e]
 ·left; rw [if_neg e]
theorem Qi {S : aO} {M : List Int} (h : M.length = 49) : rY [.dat (mD M)] S = .ok (.dat (mD (rA M))) S := by
 rw [Du];unfold sE;have i0 := ixM (M := M) (t := 0) (n := 0) (S := S) rfl (by omega)
 have c1 : cutD (unitM.map D.int) (some 7) (some 35) = ((unitM.drop 7).take 28).map D.int := by
  rw [Rq, show ((7 : Int)) = ((7 : Nat) : Int) from rfl, show ((35 : Int)) = ((35 : Nat) : Int) from rfl, HT.sIx_nat, HT.sIx_nat, vF]
  rfl
 have c2 : cutD (M.map D.int) none (some 7) = (M.take 7).map D.int := by
  rw [Rq, HT.sIx_none, show ((7 : Int)) = ((7 : Nat) : Int) from rfl, HT.sIx_nat, h]
  rfl
 have c3 : cutD (M.map D.int) (some 35) none = (M.drop 35).map D.int := by
  rw [Rq, HT.sIx_none, show ((35 : Int)) = ((35 : Nat) : Int) from rfl, HT.sIx_nat, h]
  rw [show min 35 49 = 35 from rfl, wL (by simp; omega)]
 simp! [i0, BN, c1];rw [gS (g := fun x : Int => D.int (gt M 0 * x)) (sz (by simp; omega)) fun x hx => ⟨_, rfl, ?_⟩]
 ·rw [show (List.map (fun x : Int => D.int (gt M 0 * x)) ((unitM.drop 7).take 28)) = (((unitM.drop 7).take 28).map (gt M 0 * ·)).map D.int by rw [jD]; rfl]
  have l1 : (M.take 7).length = 7 := by rw [iU, h]; rfl
  have l2 : (((unitM.drop 7).take 28).map (gt M 0 * ·)).length = 28 := by rw [aP, iU, pC, vF]; rfl
  have q1 : ∀ {cl : Bool}, dD cl (.dat (.lst ((M.take 7).map D.int))) (.dat (.lst ((((unitM.drop 7).take 28).map (gt M 0 * ·)).map D.int))) S = newL cl ((M.take 7).map D.int ++ (((unitM.drop 7).take 28).map (gt M 0 * ·)).map D.int) S := gL (by rw [aP, aP, l1, l2]; exact sz (by decide))
  have q2 : ∀ {cl : Bool}, dD cl (.dat (.lst ((M.take 7).map D.int ++ (((unitM.drop 7).take 28).map (gt M 0 * ·)).map D.int))) (.dat (.lst ((M.drop 35).map D.int))) S = newL cl ((M.take 7).map D.int ++ (((unitM.drop 7).take 28).map (gt M 0 * ·)).map D.int ++ (M.drop 35).map D.int) S := gL (by rw [bL, aP, aP, l1, l2, aP, pC, h]; exact sz (by decide))
  simp! [c2, c3, q1, q2];rw [<- cR, <- cR]
  show Res.ok (Vl.dat (mD (K7 M))) S = _
  rw [Nk h]
 ·have hs : x = 0 \/ x = 1 := C9 (List.mem_of_mem_drop (yQ hx))
  simp! [lE (show IntMulOk (gt M 0) x from mulR (by omega) (by omega))]
theorem M9 {k j : Nat} : (if decide ((0 + (k : Int)) = (j : Int)) = true then (1 : Int) else 0) = delta k j := by
 unfold delta
 by_cases h : k = j
 ·subst h; simp
 ·rw [decide_eq_false (by omega), if_neg h]; rfl
theorem Pu {cl : Bool} {j : Nat} {S : aO} {a0 a1 a2 a4 a5 a6 a7 a8 : Option Vl} : A3 cl (.nm 6) hY (m1 pS (aR eV (aC 6) (aC 3))) [a0, a1, a2, some (.dat (.int (j : Int))), a4, a5, a6, a7, a8] [6] (gK 0 6) S = newL cl (pD j).ds S := by
 rw [show gK 0 6 = (aX 6).map (fun k : Nat => D.int (0 + (k : Int))) from rfl, gS (g := fun k : Nat => D.int (delta k j)) (sz (by decide)) fun k _ => ⟨_, rfl, ?_⟩]
 ·rfl
 ·simp! [if_true]
  rw [M9]
theorem QI {S : aO} : Cq (.dat (.int 6)) S = .ok (gK 0 6) S := by rw [gT (by decide) (by decide)]; rfl
theorem rng7 {S : aO} : Cq (.dat (.int 7)) S = .ok (gK 0 7) S := by rw [gT (by decide) (by decide)]; rfl
theorem ixP {z : Pen} {t : Int} {n : Nat} {S : aO} (e : t = (n : Int)) (h : n < 6) : bW (.dat z.d) (.dat (.int t)) S = .ok (.dat (.int (gt z.ns n))) S := by
 rw [e];exact Cz (atI_nat (O7 (M := z.ns) h))
def sX (r : Pen -> Pen) (j : Nat) : D := .lst ((aX 7).map fun i => D.int (kJ r i j))
theorem HB {S : aO} {c : Cmd} (h : c.Ok) : ∀ (n j : Nat), n + j = 6 ->
  loop (.nm 3) nS (gK (j : Int) n) [some (.dat c.d), some (.dat (c.run zeroP).d), some (.cel S.length), none, none, none, none, none, none] (S ++ [.lst ((aX (j + 1)).map (sX c.run))]) = .next [some (.dat c.d), some (.dat (c.run zeroP).d), some (.cel S.length), none, none, none, none, none, none] (S ++ [.lst ((aX 7).map (sX c.run))])
 | 0, j, e => by
  obtain rfl : j = 6 := by omega
  rfl
 | n + 1, j, e => by
  have ih := HB (S := S) h n (j + 1) (by omega)
  rw [oG, loop];simp only [pE, kG];rw [nS];have hb : ∀ {T : aO} {a3 a4 a6 : Option Vl}, Ar false (jN (mC (.int 6))) (.nm 6) hY sD [6] [some (.dat c.d), some (.dat (c.run zeroP).d), some (.cel S.length), a3, a4, some (.dat (c.run (pD j)).d), a6, none, none] T = .ok (.dat (.lst ((aX 6).map fun i => D.int (gt (c.run (pD j)).ns i - gt (c.run zeroP).ns i)))) T := by
   intro T a3 a4 a6;simp! [QI];rw [show gK 0 6 = (aX 6).map (fun k : Nat => D.int (0 + (k : Int))) from rfl, gS (g := fun i : Nat => D.int (gt (c.run (pD j)).ns i - gt (c.run zeroP).ns i)) (sz (by decide)) fun k hk => ⟨_, rfl, ?_⟩]
   ·rfl
   ·unfold sD
    simp! [ixP (z := c.run (pD j)) (t := 0 + (k : Int)) (n := k) (by omega) (dR.mp hk), ixP (z := c.run zeroP) (t := 0 + (k : Int)) (n := k) (by omega) (dR.mp hk)]
  have hg : (S ++ [.lst ((aX (j + 1)).map (sX c.run))])[S.length]? = some (.lst ((aX (j + 1)).map (sX c.run))) := by simp
  have ha : ∀ {b : FE} {ρ : Ev} {d : D}, b ρ (S ++ [.lst ((aX (j + 1)).map (sX c.run))]) = .ok (.dat d) (S ++ [.lst ((aX (j + 1)).map (sX c.run))]) -> yC b ρ (.cel S.length) (S ++ [.lst ((aX (j + 1)).map (sX c.run))]) = .ok (.dat .non) (S ++ [.lst ((aX (j + 1)).map (sX c.run) ++ [d])]) := by
   intro b ρ d hd;rw [mP hg, hd, eL, nP hg (IS (by simp; omega))]
   simp
  simp! [QI, Pu, show D.tup (pD j).ds = (pD j).d from rfl, wA h]
  rw [ha (d := sX c.run (j + 1)) (by simp! [hb]; rw [gL (by simp; exact sz (by decide))]; rfl)]
  simp! [if_true];rw [<- nS, show ((j : Int) + 1) = ((j + 1 : Nat) : Int) by omega, <- ih, Dx (n := j + 1), cR]
  rfl
theorem Eb {i i1 : Nat} {mj : FI} {e : FE} {vs1 : List Nat} {ρ : Ev} {S : aO} {f : Nat -> D} {ys : List Nat} {g : Nat -> Nat -> D} {f1 : Nat -> D} : ∀ (xs : List Nat), (∀ x ∈ xs, mj (ρ.set i (some (.dat (f x)))) S = .ok (ys.map f1) S) -> (∀ x ∈ xs, ∀ y ∈ ys, e ((wipeE (ρ.set i (some (.dat (f x)))) vs1).set i1 (some (.dat (f1 y)))) S = .ok (.dat (g x y)) S) ->
  HH (.nm i) hY mj (.nm i1) hY e vs1 ρ (xs.map f) S = .ok (xs.flatMap fun x => ys.map (g x)) S
 | [], _, _ => rfl
 | x :: r, h1, h2 => by
  have ih := Eb (i := i) (i1 := i1) (mj := mj) (e := e) (vs1 := vs1) (ρ := ρ) (S := S) (f := f) (ys := ys) (g := g) (f1 := f1) r (fun x hx => h1 x (aK _ hx)) fun x hx => h2 x (aK _ hx)
  rw [aM, HH];simp only [pE, hY, if_true];rw [h1 x (aV ..)];dsimp only;have q : jO (.nm i1) hY e (wipeE (ρ.set i (some (.dat (f x)))) vs1) (ys.map f1) S = .ok (ys.map (g x)) S := A0 fun y hy => ⟨_, rfl, h2 x (aV ..) y hy⟩
  rw [q];dsimp only;rw [ih];rfl
theorem Ln {xs : List D} {t : Int} {n : Nat} {d : D} {S : aO} (e : t = (n : Int)) (h : xs[n]? = some d) : bW (.dat (.lst xs)) (.dat (.int t)) S = .ok (.dat d) S := by
 rw [e];exact rD (atI_nat h)
theorem Kq {T : aO} {n : Nat} {c : Cell} {d : D} (h : (T.all fun c => c.below T.length) = true) (hn : n = T.length) : trunc n (.ok (.dat d) (T ++ [c])) = .ok (.dat d) T := by
 subst hn;unfold trunc;dsimp only;rw [List.take_left, h];rfl
theorem Ii {S : aO} {c : Cmd} (lb : (S.all fun c => c.below S.length) = true) (h : c.Ok) : qZ [.dat c.d] S = .ok (.dat (mD c.mat)) S := by
 have lp := HB (S := S) h 6 0 rfl;rw [mR] at lp;have ex := wA (c := c) (z := zeroP) (S := S) h;rw [IE];unfold wK;have hg : (S ++ [.lst ((aX 7).map (sX c.run))])[S.length]? = some (.lst ((aX 7).map (sX c.run))) := by simp
 have hst : (cS true (aB (cS false (aB (mC (.int 1)) (Sn (aC 1) aJ))) aJ)) [some (.dat c.d), some (.dat (c.run zeroP).d), none, none, none, none, none, none, none] S = .ok (.cel S.length) (S ++ [.lst ((aX (0 + 1)).map (sX c.run))]) := rfl;have hz : (cC (aB (mC (.int 0)) (aB (mC (.int 0)) (aB (mC (.int 0)) (aB (mC (.int 0)) (aB (mC (.int 0)) (aB (mC (.int 0)) aJ))))))) [some (.dat c.d), none, none, none, none, none, none, none, none] S = .ok (.dat zeroP.d) S := rfl;have l2 : (U8 false (jN (mC (.int 7))) (.nm 7) hY (jN (mC (.int 7))) (.nm 8) hY (aR bW (aR bW (aC 2) (aC 8)) (aC 7)) [7, 8] [8]) [some (.dat c.d), some (.dat (c.run zeroP).d), some (.cel S.length), none, none, none, none, none, none] (S ++ [.lst ((aX 7).map (sX c.run))]) = .ok (.dat (mD c.mat)) (S ++ [.lst ((aX 7).map (sX c.run))]) := by
  unfold U8;simp! [rng7];rw [show gK 0 7 = (aX 7).map (fun k : Nat => D.int (0 + (k : Int))) from rfl]
  rw [Eb (ys := aX 7) (f1 := fun k : Nat => D.int (0 + (k : Int))) (g := fun i j => D.int (kJ c.run i j)) (aX 7)]
  ·dsimp only
   rw [show (aX 7).flatMap (fun x => (aX 7).map fun j => D.int (kJ c.run x j)) = (rows (kJ c.run) 7).map D.int by rw [rows, List.map_flatMap]; simp only [jD]; rfl, Jq, if_pos (by rw [aP, Cg]; exact sz (by decide))]
   rw [show mx (kJ c.run) = c.mat by unfold Cmd.mat probeM; rfl]
  ·intro x hx
   simp! [rng7];rfl
  ·intro x hx y hy
   have hx := dR.mp hx;have hy := dR.mp hy;have i1 : bW (.cel S.length) (.dat (.int (0 + (y : Int)))) (S ++ [.lst ((aX 7).map (sX c.run))]) = .ok (.dat (sX c.run y)) (S ++ [.lst ((aX 7).map (sX c.run))]) := OY hg (by rw [Int.zero_add]; exact atI_nat (by rw [cM, lJ hy]; rfl))
   have i2 : bW (.dat (sX c.run y)) (.dat (.int (0 + (x : Int)))) (S ++ [.lst ((aX 7).map (sX c.run))]) = .ok (.dat (.int (kJ c.run x y))) (S ++ [.lst ((aX 7).map (sX c.run))]) := Ln (n := x) (by omega) (by rw [cM, lJ hx]; rfl)
   simp! [wipeE, i1, i2]
 simp only [KG, TB, T9, T8, OE, JJ, JH, Ft, Fs, OG, eL, hz];simp! [J0 h, hz, ex, hst, QI, lp, l2];rw [cF, Kq lb rfl]
theorem Lg {S : aO} {c : Cmd} (ls : LS S) (h : c.Ok) : qZ [.dat c.d] S = .ok (.dat (mD c.mat)) S := Ii (bT.mpr fun c hc => ls c hc _) h
structure Ms where
 m : List Int
 stk : List (List Int)
def wC : Deed -> Ms -> Option Ms
 | .cmd c, s => some ⟨rK s.m c.mat, s.stk⟩
 | .op, s => some ⟨unitM, s.m :: s.stk⟩
 | .cl, s => match s.stk with
  | [] => none
  | P :: k => some ⟨rK P (rA s.m), k⟩
def lG : List Deed -> Ms -> Option Ms
 | [], s => some s
 | d :: r, s => match wC d s with
  | none => none
  | some s' => lG r s'
def pA : List Deed -> Nat
 | [] => 0
 | .cmd _ :: r => pA r + 1
 | _ :: r => pA r
def MbL : List (List Int) -> Nat -> Prop
 | [], _ => True
 | M :: k, n => ∃ a, 0 < a /\ a <= n /\ M.length = 49 /\ (∀ x ∈ M, Bn a x) /\ MbL k (n - a)
theorem MbL.mono : ∀ {l : List (List Int)} {n m : Nat}, MbL l n -> n <= m -> MbL l m
 | [], _, _, _, _ => trivial
 | M :: k, n, m, ⟨a, h0, h1, h2, h3, h4⟩, h => ⟨a, h0, by omega, h2, h3, h4.mono (by omega)⟩
theorem Mf : ∀ x ∈ unitM, Bn 1 x := fun x hx => by
 rcases C9 hx with rfl | rfl <;> (unfold Bn; decide)
theorem K6 {M : List Int} {a : Nat} (h : ∀ x ∈ M, Bn a x) : ∀ x ∈ rA M, Bn a x := NV fun i j _ _ => by
 by_cases e : i = 0 \/ 4 < i
 ·rw [if_pos e]; exact Ei h
 ·rw [if_neg e]
  unfold delta
  by_cases e2 : i = j
  ·rw [if_pos e2, Int.mul_one]; exact Ei h
  ·rw [if_neg e2, rR]; exact Bn.zero
theorem G3 {d : Deed} {s s' : Ms} {n : Nat} (ok : d.Ok) (h : MbL (s.m :: s.stk) n) (e : wC d s = some s') : MbL (s'.m :: s'.stk) (n + 8) := by
 obtain ⟨a, h0, h1, h2, h3, h4⟩ := h;cases d with
 | cmd c =>
  cases e;exact ⟨a + 5 + 3, by omega, by omega, BA _ _, Hz h3 (Cmd.mat_bd ok), h4.mono (by omega)⟩
 | op =>
  cases e;exact ⟨1, by omega, by omega, vF, Mf, a, h0, by omega, h2, h3, h4.mono (by omega)⟩
 | cl =>
  unfold wC at e;dsimp only at e;cases hk : s.stk with
  | nil => rw [hk] at e; cases e
  | cons P k =>
   rw [hk] at e h4;cases e;obtain ⟨b, g0, g1, g2, g3, g4⟩ := h4;exact ⟨b + a + 3, by omega, by omega, BA _ _, Hz g3 (K6 h3), g4.mono (by omega)⟩
section
variable {S0 : aO} {xs : List D}
theorem EL : (S0 ++ [Cell.lst xs])[S0.length]? = some (.lst xs) := by simp
theorem NP {c : Cell} : (S0 ++ [Cell.lst xs]).set S0.length c = S0 ++ [c] := by simp
theorem QQ {ρ : Ev} {b : FE} {d : D} (F : xs.length < 5000000) (hb : b ρ (S0 ++ [.lst xs]) = .ok (.dat d) (S0 ++ [.lst xs])) : yC b ρ (.cel S0.length) (S0 ++ [.lst xs]) = .ok (.dat .non) (S0 ++ [.lst (xs ++ [d])]) := by
 rw [mP EL, hb, eL, nP EL (IS (by omega)), NP]
theorem QP {d : D} : sA (.cel S0.length) (S0 ++ [.lst (xs ++ [d])]) = .ok (.dat d) (S0 ++ [.lst xs]) := by
 simp only [sA, EL];rw [show (xs ++ [d])[(xs ++ [d]).length - 1]? = some d by simp]
 dsimp only;rw [kO, NP]
end
theorem FY {S0 : aO} {a0 a1 a2 a3 a4 : Option Vl} (ls : LS S0) : ∀ (ds : List Deed) (s s' : Ms) (n k : Nat), (∀ d ∈ ds, d.Ok) -> lG ds s = some s' -> MbL (s.m :: s.stk) n -> n + 8 * ds.length <= 900000 -> s.stk.length + ds.length <= 900000 ->
  loop (.nm 8) jI (ds.map Deed.d) [a0, a1, a2, a3, a4, some (.dat (mD s.m)), some (.cel S0.length), some (.dat (.int (k : Int))), none] (S0 ++ [.lst (tG mD s.stk)]) = .next [a0, a1, a2, a3, a4, some (.dat (mD s'.m)), some (.cel S0.length), some (.dat (.int ((k + pA ds : Nat) : Int))), none] (S0 ++ [.lst (tG mD s'.stk)])
 | [], s, s', n, k, _, h, _, _, _ => by cases h; rfl
 | d :: r, s, s', n, k, ok, h, hm, hn, hl => by
  rw [aL] at hn hl;have okd := ok d (aV ..);have okr : ∀ d ∈ r, d.Ok := fun d hd => ok d (aK _ hd)
  obtain ⟨a, h0, h1, h2, h3, h4⟩ := id hm;rw [aM, loop];simp only [pE, kG];rw [jI];cases d with
  | cmd c =>
   have ih := FY (S0 := S0) (a0 := a0) (a1 := a1) (a2 := a2) (a3 := a3) (a4 := a4) ls r ⟨rK s.m c.mat, s.stk⟩ s' (n + 8) (k + 1) okr h (G3 okd hm rfl) (by omega) (by dsimp only; omega)
   simp! [Deed.d, By, wM (c := c) (w := "open") (.inl rfl), wM (c := c) (w := "close") (.inr (.inl rfl)), Lg ls.app (show c.Ok from okd), BX h2 (show c.mat.length = 49 from Cc _) h3 (Cmd.mat_bd (show c.Ok from okd)) h0 (by decide) (by omega : a + 5 <= 1000000)]
   rw [<- jI, show ((k + pA (Deed.cmd c :: r) : Nat) : Int) = ((k + 1 + pA r : Nat) : Int) by simp [pA]; omega, <- ih]
   rfl
  | op =>
   have ih := FY (S0 := S0) (a0 := a0) (a1 := a1) (a2 := a2) (a3 := a3) (a4 := a4) ls r ⟨unitM, s.m :: s.stk⟩ s' (n + 8) k okr h (G3 okd hm rfl) (by omega) (by simp; omega)
   simp! [Deed.d, cO, QQ (d := mD s.m) (S0 := S0) (xs := tG mD s.stk) (by rw [nU]; omega), BN]
   rw [<- jI, show ((k + pA (Deed.op :: r) : Nat) : Int) = ((k + pA r : Nat) : Int) from rfl, <- ih]
   simp only [rvD_cons]
  | cl =>
   cases hk : s.stk with
   | nil => simp [lG, wC, hk] at h
   | cons P q =>
    have e1 : wC .cl s = some ⟨rK P (rA s.m), q⟩ := by simp [wC, hk]
    simp only [lG, wC, hk] at h;rw [hk] at h4 hl;obtain ⟨b, g0, g1, g2, g3, g4⟩ := h4;have ih := FY (S0 := S0) (a0 := a0) (a1 := a1) (a2 := a2) (a3 := a3) (a4 := a4) ls r ⟨rK P (rA s.m), q⟩ s' (n + 8) k okr h (G3 okd hm e1) (by omega) (by simp at hl ⊢; omega)
    rw [rvD_cons];simp! [Deed.d, cO, QP, Qi h2, BX g2 (Av s.m) g3 (K6 h3) g0 h0 (by omega : b + a <= 1000000)]
    rw [<- jI, show ((k + pA (Deed.cl :: r) : Nat) : Int) = ((k + pA r : Nat) : Int) from rfl, <- ih]
theorem Tu {S : aO} {x0 x1 x2 : Vl} {w : Int} {ds : List Deed} {z : Pen} {s' : Ps} (ls : LS S) (he : cK [x0, x1, x2] S = .ok (.dat (.tup [.int w, .lst (ds.map Deed.d)])) S) (ok : ∀ d ∈ ds, d.Ok) (h : jP ds ⟨[], z, []⟩ = some s') (hl : ds.length <= 900000) :
  NX [x0, x1, x2, .dat z.d] S = .ok (.dat (.tup [.int w, s'.z.d, .int (s'.pens.length : Int)])) S := by
 rw [E_ran];unfold PQ;simp! [he, Ct, NN ls ok h hl, aP];rfl
theorem QY {f : Pen -> Pen} {M : List Int} (h : MatOf f M) : gt M 0 = 1 := by
 have := h.2 zeroP 0 (by decide)
 rw [J5] at this;exact this.symm
theorem MatOf.kept {f : Pen -> Pen} {M : List Int} (h : MatOf f M) : MatOf (fun y => Ed y (f y)) (rA M) := ⟨Av M, fun z i hi => by
 by_cases e : i = 0 \/ 4 < i
 ·have e2 : qI (rA M) z i = qI M z i := by
   unfold qI;refine kA fun j hj => ?_
   unfold rA;rw [Cw hi hj, if_pos e]
  rw [e2, <- h.2 z i hi];rcases (by omega : i = 0 \/ i = 5 \/ i = 6) with rfl | rfl | rfl <;> rfl
 ·have e2 : qI (rA M) z i = vc z i := by
   unfold qI;rw [kA (g := fun j => vc z j * delta j i) fun j hj => by
    unfold rA;rw [Cw hi hj, if_neg e, QY h, Int.one_mul, C6];unfold delta
    by_cases e3 : i = j
    ·rw [if_pos e3, if_pos e3.symm]; rfl
    ·rw [if_neg e3, if_neg fun z => e3 z.symm, rR, rR]]
   rw [B9, if_pos hi]
  rw [e2];rcases (by omega : i = 1 \/ i = 2 \/ i = 3 \/ i = 4) with rfl | rfl | rfl | rfl <;> rfl⟩
inductive Chain : List (List Int) -> (Pen -> List Pen) -> Prop
 | nil : Chain [] (fun _ => [])
 | cons {P : List Int} {k : List (List Int)} {ts : Pen -> List Pen} {f : Pen -> Pen} : MatOf f P -> Chain k ts -> Chain (P :: k) (fun z => f ((ts z).headD z) :: ts z)
def Inv (s : Ms) (p : Pen -> Ps) : Prop := ∃ (ts : Pen -> List Pen) (f : Pen -> Pen), Chain s.stk ts /\ MatOf f s.m /\ ∀ z, (p z).stk = ts z /\ (p z).z = f ((ts z).headD z)
theorem MB {d : Deed} {s s' : Ms} {p : Pen -> Ps} (ok : d.Ok) (I : Inv s p) (h : wC d s = some s') : ∃ p' : Pen -> Ps, (∀ z, DI d (p z) = some (p' z)) /\ Inv s' p' /\ ∀ z, (p' z).pens.length = (p z).pens.length + pA [d] := by
 obtain ⟨ts, f, C, hf, hz⟩ := I;cases d with
 | cmd c =>
  cases h;exact ⟨fun z => ⟨(p z).pens ++ [c.run (p z).z], c.run (p z).z, (p z).stk⟩, fun z => rfl, ⟨ts, fun z => c.run (f z), C, hf.comp (Cmd.matOf ok), fun z => ⟨(hz z).1, by dsimp only; rw [(hz z).2]⟩⟩, fun z => by simp [pA]⟩
 | op =>
  cases h;exact ⟨fun z => ⟨(p z).pens, (p z).z, (p z).z :: (p z).stk⟩, fun z => rfl, ⟨_, fun z => z, .cons hf C, MatOf.unit, fun z => ⟨by dsimp only; rw [(hz z).1, (hz z).2], by dsimp only; rw [(hz z).2]; rfl⟩⟩, fun z => rfl⟩
 | cl =>
  unfold wC at h;dsimp only at h;obtain ⟨m, stk⟩ := s;cases C with
  | nil => cases h
  | @cons P k ts g hg C2 =>
   cases h;refine ⟨fun z => ⟨(p z).pens, Ed (g ((ts z).headD z)) (p z).z, ts z⟩, fun z => ?_, ⟨ts, fun y => Ed (g y) (f (g y)), C2, hg.comp hf.kept, fun z => ⟨rfl, by dsimp only; rw [(hz z).2]; rfl⟩⟩, fun z => rfl⟩
   dsimp only [DI];rw [(hz z).1]
theorem ME {d : Deed} {r : List Deed} : pA (d :: r) = pA [d] + pA r := by
 cases d <;> simp [pA] <;> omega
theorem DH : ∀ {ds : List Deed} {s s' : Ms} {p : Pen -> Ps}, (∀ d ∈ ds, d.Ok) -> Inv s p -> lG ds s = some s' -> ∃ p' : Pen -> Ps, (∀ z, jP ds (p z) = some (p' z)) /\ Inv s' p' /\ ∀ z, (p' z).pens.length = (p z).pens.length + pA ds
 | [], s, s', p, _, I, h => by cases h; exact ⟨p, fun z => rfl, I, fun z => rfl⟩
 | d :: r, s, s', p, ok, I, h => by
  unfold lG at h;cases e : wC d s with
  | none => rw [e] at h; cases h
  | some s1 =>
   rw [e] at h;obtain ⟨p1, h1, I1, n1⟩ := MB (ok d (aV ..)) I e;obtain ⟨p2, h2, I2, n2⟩ := DH (fun d hd => ok d (aK _ hd)) I1 h
   exact ⟨p2, fun z => by unfold jP; rw [h1 z]; exact h2 z, I2, fun z => by rw [n2, n1, ME (d := d) (r := r)]; omega⟩
theorem MA {ds : List Deed} {s' : Ms} (ok : ∀ d ∈ ds, d.Ok) (h : lG ds ⟨unitM, []⟩ = some s') (hs : s'.stk = []) : ∃ p' : Pen -> Ps, (∀ z, jP ds ⟨[], z, []⟩ = some (p' z)) /\ MatOf (fun z => (p' z).z) s'.m /\ ∀ z, (p' z).pens.length = pA ds := by
 obtain ⟨p', h1, ⟨ts, f, C, hf, hz⟩, n⟩ := DH (p := fun z => ⟨[], z, []⟩) ok ⟨_, fun z => z, .nil, MatOf.unit, fun z => ⟨rfl, rfl⟩⟩ h
 refine ⟨p', h1, ?_, fun z => by rw [n]; simp⟩
 rw [hs] at C;cases C;rw [show (fun z => (p' z).z) = f from funext fun z => (hz z).2]
 exact hf
theorem pw40 {S : aO} : M8 (.dat (.int 10)) (.dat (.int 40)) S = .ok (.dat (.int 10000000000000000000000000000000000000000)) S := rfl
theorem dw10 (a : Int) : IntMulOk a 69621 := mulR (by decide) (by decide)
theorem Le {S : aO} {p : Nat} {ks : List Int} (hP : PoolAt S p ks) : ∃ (d : Int) (ks' : List Int), nM [.cel p] S = .ok (.dat (.int d)) (S.set p (PL ks')) /\ Bn 137 d /\ ks'.length = ks.length := by
 obtain ⟨d1, k1, e1, h0, h1, l1⟩ := fL hP (k := 3) (by decide) (by decide)
 have P1 := hP.next l1;rw [JX];unfold uK
 by_cases hd : d1 = 0
 ·subst hd
  obtain ⟨d2, k2, e2, h2, h3, l2⟩ := fL P1 (k := 9) (by decide) (by decide)
  simp only [eN] at e2;simp! [e1, e2];exact ⟨d2 - 4, k2, rfl, by unfold Bn; omega, by omega⟩
 ·obtain ⟨u, hu⟩ : ∃ u, k1[0]? = some u := ⟨k1[0]'(by have := hP.2; omega), by simp [show 0 < k1.length by have := hP.2; omega]⟩
  have hl2 : 2 <= k1.length := P1.2;have hp1 := tJ (d := .lst ((k1.set 0 (u + 1)).map D.int)) P1.1;rw [eN] at hp1;have e2 : (kT (fun x y => x + y) (aC 0) (mC (.int 0)) (mC (.int 1))) [some (.cel p), some (.dat (.int d1)), none, none] (S.set p (PL k1)) = .next [some (.cel p), some (.dat (.int d1)), none, none] (S.set p (PL (k1.set 0 (u + 1)))) := by
   rw [AX rfl rfl rfl P1.1 rfl hu, eN]
  have hn : (1 : Int) + (u + 1) % ((k1.length : Int) - 1) = ((1 + ((u + 1) % ((k1.length : Int) - 1)).toNat : Nat) : Int) := by
   have := dZ (u + 1) (show ((k1.length : Int) - 1) ≠ 0 by omega)
   omega
  have hlt : 1 + ((u + 1) % ((k1.length : Int) - 1)).toNat < k1.length := by
   have := eB (u + 1) (show 0 < ((k1.length : Int) - 1) by omega)
   have := dZ (u + 1) (show ((k1.length : Int) - 1) ≠ 0 by omega)
   omega
  generalize hj : 1 + ((u + 1) % ((k1.length : Int) - 1)).toNat = j at hn hlt;obtain ⟨c, hc⟩ : ∃ c, (k1.set 0 (u + 1))[j]? = some c := ⟨(k1.set 0 (u + 1))[j]'(by simpa using hlt), by simp [hlt]⟩
  have h00 : (k1.set 0 (u + 1))[0]? = some (u + 1) := by
   rw [aW, if_pos rfl, if_pos (by omega)]
  have lk1 : (k1.set 0 (u + 1)).length = k1.length := by simp
  have P2 : PoolAt (S.set p (PL (k1.set 0 (u + 1)))) p (k1.set 0 (u + 1)) := ⟨hp1, by rw [lk1]; exact hl2⟩
  obtain ⟨d3, k3, e3, h4, h5, l3⟩ := fL P2 (k := 2) (by decide) (by decide)
  rw [eN] at e3;generalize hk : k1.set 0 (u + 1) = kk at *;simp! [e1, decide_eq_false hd, e2, nX (k := 0) (n := 0) hp1 rfl h00, qJ hp1, aP, lk1, mO (show (0 : Int) < (k1.length : Int) - 1 by omega), hn, nX hp1 rfl hc, lE (dw2 _), lE (dw10 _), pw40, mO (show (0 : Int) < 10000000000000000000000000000000000000000 by decide), e3]
  have b0 := dZ (c * 48271 + (u + 1) * 69621) (show (10000000000000000000000000000000000000000 : Int) ≠ 0 by decide)
  have b1 := eB (c * 48271 + (u + 1) * 69621) (show (0 : Int) < 10000000000000000000000000000000000000000 by decide)
  generalize (c * 48271 + (u + 1) * 69621) % 10000000000000000000000000000000000000000 = v at b0 b1;rcases (by omega : d3 = 0 \/ d3 = 1) with rfl | rfl
  ·simp! [if_true]
   exact ⟨v, k3, rfl, by unfold Bn; omega, by omega⟩
  ·simp! [if_true]
   exact ⟨5 - v, k3, rfl, by unfold Bn; omega, by omega⟩
theorem EK {S : aO} {p : Nat} {ks : List Int} (h : PoolAt S p ks) : S.set p (PL ks) = S := by
 obtain ⟨h1, _⟩ := h;obtain ⟨hp, e⟩ := aI.mp h1;rw [show (PL ks : Cell) = S[p] from e.symm, List.set_getElem_self]
theorem K3 {α : Type} {f : α -> D} {md : FD} {P : α -> Prop} {p : Nat} {a1 : Option Vl} (hmd : ∀ {S : aO} {ks : List Int}, PoolAt S p ks -> ∃ (x : α) (ks' : List Int), md [.cel p] S = .ok (.dat (f x)) (S.set p (PL ks')) /\ P x /\ ks'.length = ks.length) : ∀ (ds : List D) (S : aO) (ks : List Int), PoolAt S p ks ->
  ∃ (xs : List α) (ks' : List Int), jO (.nm 2) hY (bA md (aB (aC 0) aJ)) [some (.cel p), a1, none] ds S = .ok (xs.map f) (S.set p (PL ks')) /\ xs.length = ds.length /\ (∀ x ∈ xs, P x) /\ ks'.length = ks.length
 | [], S, ks, h => ⟨[], ks, by rw [EK h]; rfl, rfl, (fun x hx => by cases hx), rfl⟩
 | d :: r, S, ks, h => by
  obtain ⟨x, k1, e1, hx, l1⟩ := hmd h;obtain ⟨xs, k2, e2, hl, hxs, l2⟩ := K3 (a1 := a1) hmd r _ _ (h.next l1);rw [eN] at e2;refine ⟨x :: xs, k2, ?_, by simp [hl], fun y hy => ?_, by omega⟩
  ·rw [jO]
   simp only [pE, KF, if_true];simp! [e1];rw [e2];rfl
  ·rcases bJ.mp hy with rfl | hy
   ·exact hx
   ·exact hxs y hy
theorem Tx {S : aO} {p : Nat} {ks : List Int} (hP : PoolAt S p ks) : ∃ (z : Pen) (ks' : List Int), Bs [.cel p] S = .ok (.dat z.d) (S.set p (PL ks')) /\ (∀ x ∈ z.ns, Bn 137 x) /\ ks'.length = ks.length := by
 obtain ⟨ns, k1, e1, hl, hb, l1⟩ := K3 (f := D.int) (md := nM) (P := Bn 137) (a1 := none) Le (gK 0 6) S ks hP;rw [SO];unfold C0;simp! [QI];have e2 : A3 false (.nm 2) hY (bA nM (aB (aC 0) aJ)) [some (.cel p), none, none] [2] (gK 0 6) S = .ok (.dat (.lst (ns.map D.int))) (S.set p (PL k1)) := by
  unfold A3;rw [if_pos (sz (by decide)), show wipeE [some (Vl.cel p), none, none] [2] = [some (Vl.cel p), none, none] from rfl, e1]
  rfl
 match ns, hl, hb, e2 with
 | [a, b, c, d, e, f], _, hb, e2 =>
  simp! [e2, aM, bI, yD, Cs, Ql, Ln (xs := [.int a, .int b, .int c, .int d, .int e, .int f]) (t := 3) (n := 3) rfl rfl, Ln (xs := [.int a, .int b, .int c, .int d, .int e, .int f]) (t := 4) (n := 4) rfl rfl, Ln (xs := [.int a, .int b, .int c, .int d, .int e, .int f]) (t := 5) (n := 5) rfl rfl];exact ⟨⟨a, b, c, d, e, f⟩, k1, rfl, hb, l1⟩
mutual
def D.Sm : D -> Prop
 | .int i => -9 <= i /\ i <= 9
 | .str x => (reprText x).length <= 20
 | .lst xs => D.Sms xs
 | .tup xs => D.Sms xs
 | .ins _ _ _ => False
 | .dct => False
 | .opq _ => False
 | _ => True
def D.Sms : List D -> Prop
 | [] => True
 | x :: r => D.Sm x /\ D.Sms r
end
mutual
def D.tx : D -> Nat
 | .lst xs => D.txs xs + 3
 | .tup xs => D.txs xs + 3
 | _ => 20
def D.txs : List D -> Nat
 | [] => 0
 | x :: r => D.tx x + 2 + D.txs r
end
theorem O3 {i : Int} (h : -9 <= i /\ i <= 9) : ((toString i : String) : Str).length <= 20 /\ i.natAbs.log2 < 1920 := by
 obtain ⟨h1, h2⟩ := h;rcases (by omega : i = -9 \/ i = -8 \/ i = -7 \/ i = -6 \/ i = -5 \/ i = -4 \/ i = -3 \/ i = -2 \/ i = -1 \/ i = 0 \/ i = 1 \/ i = 2 \/ i = 3 \/ i = 4 \/ i = 5 \/ i = 6 \/ i = 7 \/ i = 8 \/ i = 9) with rfl | rfl | rfl | rfl | rfl | rfl | rfl | rfl | rfl | rfl | rfl | rfl | rfl | rfl | rfl | rfl | rfl | rfl | rfl <;> decide +kernel
mutual
theorem E9 : ∀ (d : D) (p : PyData), d.Sm -> d.py = some p -> p.shown.length <= d.tx /\ p.showable = true /\ p.hasDict = false
 | .non, p, _, e => by cases e; exact ⟨by decide +kernel, rfl, rfl⟩
 | .bl b, p, _, e => by cases e; cases b <;> exact ⟨by decide +kernel, rfl, rfl⟩
 | .int i, p, h, e => by
  cases e;exact ⟨(O3 h).1, decide_eq_true (O3 h).2, rfl⟩
 | .str x, p, h, e => by cases e; exact ⟨h, rfl, rfl⟩
 | .lst xs, p, h, e => by
  simp only [D.py] at e;cases q : D.pys xs with
  | none => rw [q] at e; cases e
  | some ps =>
   rw [q] at e;cases e;obtain ⟨h1, h2, h3⟩ := Ag xs ps h q;refine ⟨?_, h2, h3⟩
   have := listText_len_le (PyData.shownAll ps)
   show (listText (PyData.shownAll ps)).length <= D.txs xs + 3
   omega
 | .tup xs, p, h, e => by
  simp only [D.py] at e;cases q : D.pys xs with
  | none => rw [q] at e; cases e
  | some ps =>
   rw [q] at e;cases e;obtain ⟨h1, h2, h3⟩ := Ag xs ps h q;refine ⟨?_, h2, h3⟩
   have := tupleText_len_le (PyData.shownAll ps)
   show (tupleText (PyData.shownAll ps)).length <= D.txs xs + 3
   omega
 | .ins _ _ _, p, h, e => h.elim
 | .dct, p, h, e => h.elim
 | .opq _, p, h, e => h.elim
theorem Ag : ∀ (xs : List D) (ps : List PyData), D.Sms xs -> D.pys xs = some ps -> ((PyData.shownAll ps).map (·.length)).sum + 2 * (PyData.shownAll ps).length <= D.txs xs /\ PyData.showableAll ps = true /\ PyData.hasDictAll ps = false
 | [], ps, _, e => by cases e; exact ⟨bX _, rfl, rfl⟩
 | x :: r, ps, h, e => by
  simp only [D.pys] at e;cases q1 : D.py x with
  | none => rw [q1] at e; cases e
  | some p =>
   cases q2 : D.pys r with
   | none => rw [q1, q2] at e; cases e
   | some ps' =>
    rw [q1, q2] at e;cases e;obtain ⟨a1, a2, a3⟩ := E9 x p h.1 q1;obtain ⟨b1, b2, b3⟩ := Ag r ps' h.2 q2;refine ⟨?_, ?_, ?_⟩
    ·simp only [PyData.shownAll, aM, List.sum_cons, aL, D.txs]
     omega
    ·simp only [PyData.showableAll, a2, b2, Ad]
    ·simp only [PyData.hasDictAll, a3, b3, II]
end
mutual
theorem st_sm {many : Int} (hm : many <= 9) : ∀ (s : Stt) (k : Nat), s.Ok many k -> s.d.Sm /\ s.d.tx + 2 <= 150 * s.size
 | .cmd c, k, h => by
  cases c with
  | go z => exact ⟨⟨by show (reprText _).length <= 20; decide +kernel, h, trivial⟩, by simp [Stt.d, Cmd.d, D.tx, D.txs, Stt.size]⟩
  | turn z => exact ⟨⟨by show (reprText _).length <= 20; decide +kernel, ⟨by have := h.1; omega, by have := h.2; omega⟩, trivial⟩, by simp [Stt.d, Cmd.d, D.tx, D.txs, Stt.size]⟩
  | scale z => exact ⟨⟨by show (reprText _).length <= 20; decide +kernel, ⟨by have := h.1; omega, by have := h.2; omega⟩, trivial⟩, by simp [Stt.d, Cmd.d, D.tx, D.txs, Stt.size]⟩
  | aim a b => exact ⟨⟨by show (reprText _).length <= 20; decide +kernel, h.1, h.2, trivial⟩, by simp [Stt.d, Cmd.d, D.tx, D.txs, Stt.size]⟩
  | place a b => exact ⟨⟨by show (reprText _).length <= 20; decide +kernel, h.1, h.2, trivial⟩, by simp [Stt.d, Cmd.d, D.tx, D.txs, Stt.size]⟩
  | mirror => exact ⟨⟨by show (reprText _).length <= 20; decide +kernel, trivial⟩, by simp [Stt.d, Cmd.d, D.tx, D.txs, Stt.size]⟩
  | mark => exact ⟨⟨by show (reprText _).length <= 20; decide +kernel, trivial⟩, by simp [Stt.d, Cmd.d, D.tx, D.txs, Stt.size]⟩
  | ret => exact ⟨⟨by show (reprText _).length <= 20; decide +kernel, trivial⟩, by simp [Stt.d, Cmd.d, D.tx, D.txs, Stt.size]⟩
  | exch => exact ⟨⟨by show (reprText _).length <= 20; decide +kernel, trivial⟩, by simp [Stt.d, Cmd.d, D.tx, D.txs, Stt.size]⟩
 | .fin w, k, h => ⟨⟨by show (reprText _).length <= 20; decide +kernel, ⟨by have := h.1; omega, by have := h.2; omega⟩, trivial⟩, by simp [Stt.d, D.tx, D.txs, Stt.size]⟩
 | .bad, k, h => ⟨⟨by show (reprText _).length <= 20; decide +kernel, trivial⟩, by simp [Stt.d, D.tx, D.txs, Stt.size]⟩
 | .odd x, k, h => h.elim
 | .keep b, k, h => by
  obtain ⟨h1, h2⟩ := vH hm b (k - 1) h.2;exact ⟨⟨by show (reprText _).length <= 20; decide +kernel, h1, trivial⟩, by simp [Stt.d, D.tx, D.txs, Stt.size]; omega⟩
 | .again b, k, h => by
  obtain ⟨h1, h2⟩ := vH hm b (k - 1) h.2;exact ⟨⟨by show (reprText _).length <= 20; decide +kernel, h1, trivial⟩, by simp [Stt.d, D.tx, D.txs, Stt.size]; omega⟩
 | .either a b, k, h => by
  obtain ⟨h1, h2⟩ := vH hm a (k - 1) h.2.1;obtain ⟨h3, h4⟩ := vH hm b (k - 1) h.2.2;exact ⟨⟨by show (reprText _).length <= 20; decide +kernel, h1, h3, trivial⟩, by simp [Stt.d, D.tx, D.txs, Stt.size]; omega⟩
 | .call g f a b, k, h => by
  obtain ⟨h1, h2⟩ := vH hm a (k - 1) h.2.1;obtain ⟨h3, h4⟩ := vH hm b (k - 1) h.2.2;exact ⟨⟨by show (reprText _).length <= 20; decide +kernel, ⟨by have := h.1.2.1; omega, by have := h.1.2.2; omega⟩, trivial, ⟨h1, h3, trivial⟩, trivial⟩, by simp [Stt.d, D.tx, D.txs, Stt.size]; omega⟩
theorem vH {many : Int} (hm : many <= 9) : ∀ (l : List Stt) (k : Nat), OkL many l k -> D.Sms (bP l) /\ D.txs (bP l) <= 150 * cD l
 | [], k, h => ⟨trivial, by simp [bP, D.txs]⟩
 | s :: r, k, h => by
  obtain ⟨h1, h2⟩ := st_sm hm s k h.1.1;obtain ⟨h3, h4⟩ := vH hm r k h.2;exact ⟨⟨h1, h3⟩, by simp only [bP, D.txs, cD]; omega⟩
end
theorem Ky {many : Int} {l : List Stt} {k : Nat} {S : aO} (hm : many <= 9) (h : OkL many l k) (hk : k <= 20) (hl : l.length <= 1000) (hs : cD l <= 1000) : ∃ z, Dm (.dat (.lst (bP l))) S = .ok (.dat (.str z)) S := by
 obtain ⟨h1, h2⟩ := iO l k h;obtain ⟨p, e1, e2, e3⟩ := Sj (.lst (bP l)) ⟨by rw [cY]; exact hl, h1⟩
 obtain ⟨h3, h4⟩ := vH hm l k h;obtain ⟨a1, a2, a3⟩ := E9 (.lst (bP l)) p h3 e1;have hd : isDisplay p = true := by
  simp only [D.py] at e1;cases q : D.pys (bP l) with
  | none => rw [q] at e1; cases e1
  | some ps => rw [q] at e1; cases e1; rfl
 refine ⟨p.shown, ?_⟩
 unfold Dm;rw [show uZ S (.dat (.lst (bP l))) = some p from e1]
 dsimp only;rw [if_pos ⟨a2, a3, hd, by rw [e3]; simp only [D.ht]; omega, cA a1 (by simp only [D.tx]; exact cA (show D.txs (bP l) + 3 <= 150003 by omega) (by decide))⟩]
mutual
/-- all lists within have eight statements at most -/
def Stt.Lb : Stt -> Prop
 | .keep b => b.length <= 8 /\ Pd b
 | .again b => b.length <= 8 /\ Pd b
 | .either a b => (a.length <= 8 /\ Pd a) /\ b.length <= 8 /\ Pd b
 | .call _ _ a b => (a.length <= 8 /\ Pd a) /\ b.length <= 8 /\ Pd b
 | _ => True
def Pd : List Stt -> Prop
 | [] => True
 | s :: r => s.Lb /\ Pd r
end
mutual
theorem lb_S : ∀ {s : Stt}, s.size <= 9 -> s.Lb
 | .cmd c, h => trivial
 | .fin w, h => trivial
 | .keep b, h => by
  have h : cD b + 1 <= 9 := h;exact ⟨cA (eI b) (by omega), Ip (by omega)⟩
 | .again b, h => by
  have h : cD b + 1 <= 9 := h;exact ⟨cA (eI b) (by omega), Ip (by omega)⟩
 | .either a b, h => by
  have h : cD a + cD b + 1 <= 9 := h;exact ⟨⟨cA (eI a) (by omega), Ip (by omega)⟩, cA (eI b) (by omega), Ip (by omega)⟩
 | .call g f a b, h => by
  have h : cD a + cD b + 1 <= 9 := h;exact ⟨⟨cA (eI a) (by omega), Ip (by omega)⟩, cA (eI b) (by omega), Ip (by omega)⟩
 | .bad, h => trivial
 | .odd _, h => trivial
theorem Ip : ∀ {l : List Stt}, cD l <= 8 -> Pd l
 | [], h => trivial
 | s :: r, h => by
  have h : s.size + cD r <= 8 := h;exact ⟨lb_S (by omega), Ip (by omega)⟩
end
mutual
theorem Stt.Gd.okb {many : Int} : ∀ {s : Stt} {n : Nat}, s.Gd many n -> s.Lb -> s.Ok many n
 | .cmd c, n, h, _ => h
 | .fin c, n, h, _ => h
 | .keep b, n, h, l => ⟨h.1, GdL.okb h.2 l.2 (cA l.1 (by decide))⟩
 | .again b, n, h, l => ⟨h.1, GdL.okb h.2 l.2 (cA l.1 (by decide))⟩
 | .either a b, n, h, l => ⟨h.1, GdL.okb h.2.1 l.1.2 (cA l.1.1 (by decide)), GdL.okb h.2.2 l.2.2 (cA l.2.1 (by decide))⟩
 | .call g f a b, n, h, l => ⟨h.1, GdL.okb h.2.1 l.1.2 (cA l.1.1 (by decide)), GdL.okb h.2.2 l.2.2 (cA l.2.1 (by decide))⟩
 | .bad, n, h, _ => h.elim
 | .odd _, n, h, _ => h.elim
theorem GdL.okb {many : Int} : ∀ {l : List Stt} {n : Nat}, GdL many l n -> Pd l -> l.length <= 10 -> OkL many l n
 | [], n, _, _, _ => trivial
 | s :: r, n, h, l8, hl => by
  simp only [aL] at hl;exact ⟨⟨Stt.Gd.okb h.1 l8.1, by omega⟩, GdL.okb h.2 l8.2 (by omega)⟩
end
theorem Ng : ∀ {l : List Stt}, Pd l -> ∀ s ∈ l, s.Lb
 | x :: r, h, s, hs => by
  rcases bJ.mp hs with rfl | hs
  ·exact h.1
  ·exact Ng h.2 s hs
def SG (many : Int) (s : Stt) : Prop := ∃ k, k <= 3 /\ s.Gd many k /\ s.size <= 12 /\ s.Lb
def BG (many : Int) (l : List Stt) : Prop := l.length <= 8 /\ ∀ s ∈ l, SG many s
theorem JC {many : Int} : ∀ {l : List Stt} {k : Nat}, GdL many l k -> ∀ s ∈ l, s.Gd many k
 | x :: r, k, h, s, hs => by
  rcases bJ.mp hs with rfl | hs
  ·exact h.1
  ·exact JC h.2 s hs
theorem BG.of {many : Int} {l : List Stt} {k : Nat} (h : GdL many l k) (hk : k <= 3) (hl : l.length <= 8) (hs : cD l <= 12) (hb : Pd l) : BG many l := ⟨hl, fun s hm => ⟨k, hk, JC h s hm, by have := CF hm; omega, Ng hb s hm⟩⟩
theorem SG.keep {many : Int} {b : List Stt} (h : SG many (.keep b)) : BG many b := by
 obtain ⟨k, hk, h1, h2, h3⟩ := h;exact BG.of h1.2 (by omega) h3.1 (by simp [Stt.size] at h2; omega) h3.2
theorem SG.again {many : Int} {b : List Stt} (h : SG many (.again b)) : BG many b := by
 obtain ⟨k, hk, h1, h2, h3⟩ := h;exact BG.of h1.2 (by omega) h3.1 (by simp [Stt.size] at h2; omega) h3.2
theorem SG.either {many : Int} {a b : List Stt} (h : SG many (.either a b)) : BG many a /\ BG many b := by
 obtain ⟨k, hk, h1, h2, h3⟩ := h;simp [Stt.size] at h2;exact ⟨BG.of h1.2.1 (by omega) h3.1.1 (by omega) h3.1.2, BG.of h1.2.2 (by omega) h3.2.1 (by omega) h3.2.2⟩
theorem SG.call {many g : Int} {f : Bool} {a b : List Stt} (h : SG many (.call g f a b)) : (0 <= g /\ g < many) /\ BG many a /\ BG many b := by
 obtain ⟨k, hk, h1, h2, h3⟩ := h;simp [Stt.size] at h2;exact ⟨h1.1.2, BG.of h1.2.1 (by omega) h3.1.1 (by omega) h3.1.2, BG.of h1.2.2 (by omega) h3.2.1 (by omega) h3.2.2⟩
theorem SG.cmd {many : Int} {c : Cmd} (h : SG many (.cmd c)) : c.Ok := by
 obtain ⟨k, hk, h1, h2⟩ := h;exact h1
theorem SG.fin {many w : Int} (h : SG many (.fin w)) : w = 0 \/ w = 1 := by
 obtain ⟨k, hk, h1, h2⟩ := h;have := h1.1; have := h1.2;omega
theorem SG.noodd {many : Int} {s : Stt} (h : SG many s) : s.isOdd = false := by
 obtain ⟨k, hk, h1, h2⟩ := h;cases s with
 | odd x => exact h1.elim
 | _ => rfl
theorem str_ok {many : Int} {a b : List Stt} {S : aO} (hm : many <= 9) (h : SG many (.either a b)) : ∃ z, Dm (.dat (.lst (bP a))) S = .ok (.dat (.str z)) S := by
 obtain ⟨k, hk, h1, h2, h3⟩ := h;simp [Stt.size] at h2;exact Ky hm (GdL.okb h1.2.1 h3.1.2 (cA h3.1.1 (by decide))) (by omega) (cA (eI a) (by omega)) (by omega)
inductive LT where
 | st (s : Stt) | shut | out (c : fY) (w : Int)
def LT.d : LT -> D
 | .st s => s.d
 | .shut => .tup [.str "shut"]
 | .out c w => .tup [.str "out", TK c, .int w]
def LT.word : LT -> Str
 | .st s => s.word
 | .shut => "shut"
 | .out _ _ => "out"
def LT.Ok (many : Int) : LT -> Prop
 | .st s => SG many s
 | .shut => True
 | .out c w => (0 <= c.1 /\ c.1 < many) /\ BG many c.2.2.1 /\ BG many c.2.2.2 /\ (w = 0 \/ w = 1)
def gR (l : List Stt) : List LT := l.map LT.st
structure Lm where
 bits : List Int
 extra : Nat
 taken : Nat
 way : Int
 deeds : List Deed
 opens : List (Nat × Nat)
 todo : List LT
def Jv (o : Nat × Nat) : D := .tup [.int (o.1 : Int), .int (o.2 : Int)]
def lmF (n : Nat) (bs : List (List Stt)) (m : Lm) : List (Str × Vl) := [("bodies", .dat (.lst (bls bs))), ("bits", .cel n), ("extra", .dat (.int (m.extra : Int))), ("taken", .dat (.int (m.taken : Int))), ("way", .dat (.int m.way)), ("deeds", .cel (n + 1)), ("opens", .cel (n + 2)), ("todo", .dat (.lst (m.todo.map LT.d)))]
def eJ (S0 : aO) (bs : List (List Stt)) (m : Lm) : aO := S0 ++ [.lst (m.bits.map D.int), .lst (m.deeds.map Deed.l), .lst (tG Jv m.opens), .dct (lmF S0.length bs m)]
section
variable {S0 : aO} {bs : List (List Stt)} {m : Lm}
theorem nW : (eJ S0 bs m)[S0.length]? = some (.lst (m.bits.map D.int)) := by simp [eJ]
theorem qH : (eJ S0 bs m)[S0.length + 1]? = some (.lst (m.deeds.map Deed.l)) := by
 rw [eJ, bD (by omega), show S0.length + 1 - S0.length = 1 by omega]; rfl
theorem zX : (eJ S0 bs m)[S0.length + 2]? = some (.lst (tG Jv m.opens)) := by
 rw [eJ, bD (by omega), show S0.length + 2 - S0.length = 2 by omega]; rfl
theorem kK : (eJ S0 bs m)[S0.length + 3]? = some (.dct (lmF S0.length bs m)) := by
 rw [eJ, bD (by omega), show S0.length + 3 - S0.length = 3 by omega]; rfl
theorem Qd {xs : List Int} : (eJ S0 bs m).set S0.length (.lst (xs.map D.int)) = eJ S0 bs { m with bits := xs } := by simp [eJ, lmF]
theorem K1 {xs : List Deed} : (eJ S0 bs m).set (S0.length + 1) (.lst (xs.map Deed.l)) = eJ S0 bs { m with deeds := xs } := by
 rw [eJ, dM _ _ (by omega), show S0.length + 1 - S0.length = 1 by omega]; rfl
theorem K0 {xs : List (Nat × Nat)} : (eJ S0 bs m).set (S0.length + 2) (.lst (tG Jv xs)) = eJ S0 bs { m with opens := xs } := by
 rw [eJ, dM _ _ (by omega), show S0.length + 2 - S0.length = 2 by omega]; rfl
theorem zW {fs : List (Str × Vl)} : (eJ S0 bs m).set (S0.length + 3) (.dct fs) = S0 ++ [.lst (m.bits.map D.int), .lst (m.deeds.map Deed.l), .lst (tG Jv m.opens), .dct fs] := by
 rw [eJ, dM _ _ (by omega), show S0.length + 3 - S0.length = 3 by omega]; rfl
abbrev lv (S0 : aO) : Vl := .cel (S0.length + 3)
theorem Lj : dF (lv S0) (.dat (.str "bodies")) (eJ S0 bs m) = .ok (.dat (.lst (bls bs))) (eJ S0 bs m) := mQ kK rfl
theorem zZ : dF (lv S0) (.dat (.str "bits")) (eJ S0 bs m) = .ok (.cel S0.length) (eJ S0 bs m) := mQ kK rfl
theorem HF : dF (lv S0) (.dat (.str "extra")) (eJ S0 bs m) = .ok (.dat (.int (m.extra : Int))) (eJ S0 bs m) := mQ kK rfl
theorem mK : dF (lv S0) (.dat (.str "taken")) (eJ S0 bs m) = .ok (.dat (.int (m.taken : Int))) (eJ S0 bs m) := mQ kK rfl
theorem UI : dF (lv S0) (.dat (.str "way")) (eJ S0 bs m) = .ok (.dat (.int m.way)) (eJ S0 bs m) := mQ kK rfl
theorem oM : dF (lv S0) (.dat (.str "deeds")) (eJ S0 bs m) = .ok (.cel (S0.length + 1)) (eJ S0 bs m) := mQ kK rfl
theorem Ck : dF (lv S0) (.dat (.str "opens")) (eJ S0 bs m) = .ok (.cel (S0.length + 2)) (eJ S0 bs m) := mQ kK rfl
theorem tY : dF (lv S0) (.dat (.str "todo")) (eJ S0 bs m) = .ok (.dat (.lst (m.todo.map LT.d))) (eJ S0 bs m) := mQ kK rfl
theorem HD : ((lmF S0.length bs m).map Prod.fst).Nodup := by
 show (["bodies", "bits", "extra", "taken", "way", "deeds", "opens", "todo"] : List Str).Nodup
 decide +kernel
theorem zU {ρ : Ev} {ts : List LT} : vX ρ (.dat (.lst (ts.map LT.d))) (lv S0) (.dat (.str "todo")) (eJ S0 bs m) = .next ρ (eJ S0 bs { m with todo := ts }) := by
 unfold vX;rw [Az kK (by show 8 < 1000; decide) HD, zW]
 rfl
theorem UE {ρ : Ev} {w : Int} : vX ρ (.dat (.int w)) (lv S0) (.dat (.str "way")) (eJ S0 bs m) = .next ρ (eJ S0 bs { m with way := w }) := by
 unfold vX;rw [Az kK (by show 8 < 1000; decide) HD, zW]
 rfl
theorem HC {ρ : Ev} {v : FE} (hv : v ρ (eJ S0 bs m) = .ok (.dat (.int 1)) (eJ S0 bs m)) : vY Hn v ρ (lv S0) (.dat (.str "taken")) (eJ S0 bs m) = .next ρ (eJ S0 bs { m with taken := m.taken + 1 }) := by
 unfold vY;rw [mK];dsimp only;rw [hv, mN];unfold Fl Hn;dsimp only;rw [Az kK (by show 8 < 1000; decide) HD, zW]
 rfl
theorem NZ {ρ : Ev} {v : FE} {k : Nat} (he : m.extra = k + 1) (hv : v ρ (eJ S0 bs m) = .ok (.dat (.int 1)) (eJ S0 bs m)) : vY Hk v ρ (lv S0) (.dat (.str "extra")) (eJ S0 bs m) = .next ρ (eJ S0 bs { m with extra := k }) := by
 unfold vY;rw [HF];dsimp only;rw [hv, mN];unfold Fl Hk;dsimp only;rw [Az kK (by show 8 < 1000; decide) HD, zW, he, show (((k + 1 : Nat) : Int) - 1) = (k : Int) by omega]
 rfl
theorem Cj {ρ : Ev} {v : FE} {ds : List Deed} (hl : m.deeds.length + ds.length <= 1000000) (hv : v ρ (eJ S0 bs m) = .ok (.dat (.lst (ds.map Deed.l))) (eJ S0 bs m)) : vY JM v ρ (lv S0) (.dat (.str "deeds")) (eJ S0 bs m) = .next ρ (eJ S0 bs { m with deeds := m.deeds ++ ds }) := by
 unfold vY;rw [oM];dsimp only;rw [hv, mN];unfold Fl JM;dsimp only;rw [qH];dsimp only;rw [aP, aP, if_pos (cA hl (by decide))]
 dsimp only;rw [<- cR, K1, Az kK (by show 8 < 1000; decide) HD, zW]
 rfl
theorem Cp {ρ : Ev} {b : FE} {t : Deed} (F : m.deeds.length < 1000000) (hb : b ρ (eJ S0 bs m) = .ok (.dat t.l) (eJ S0 bs m)) : yC b ρ (.cel (S0.length + 1)) (eJ S0 bs m) = .ok (.dat .non) (eJ S0 bs { m with deeds := m.deeds ++ [t] }) := by
 rw [mP qH, hb, eL, nP qH (by rw [aP]; exact IS (by omega)), show m.deeds.map Deed.l ++ [t.l] = (m.deeds ++ [t]).map Deed.l by simp, K1]
theorem Qe {ρ : Ev} {b : FE} {t : Int} (F : m.bits.length < 1000000) (hb : b ρ (eJ S0 bs m) = .ok (.dat (.int t)) (eJ S0 bs m)) : yC b ρ (.cel S0.length) (eJ S0 bs m) = .ok (.dat .non) (eJ S0 bs { m with bits := m.bits ++ [t] }) := by
 rw [mP nW, hb, eL, nP nW (by rw [aP]; exact IS (by omega)), show m.bits.map D.int ++ [.int t] = (m.bits ++ [t]).map D.int by simp, Qd]
theorem Ni {ρ : Ev} {b : FE} {t : Nat × Nat} (F : m.opens.length < 1000000) (hb : b ρ (eJ S0 bs m) = .ok (.dat (Jv t)) (eJ S0 bs m)) : yC b ρ (.cel (S0.length + 2)) (eJ S0 bs m) = .ok (.dat .non) (eJ S0 bs { m with opens := t :: m.opens }) := by
 rw [mP zX, hb, eL, nP zX (by rw [nU]; exact IS (by omega)), <- rvD_cons, K0]
theorem Nb {t : Nat × Nat} {r : List (Nat × Nat)} (h : m.opens = t :: r) : sA (.cel (S0.length + 2)) (eJ S0 bs m) = .ok (.dat (Jv t)) (eJ S0 bs { m with opens := r }) := by
 have e := zX (S0 := S0) (bs := bs) (m := m);rw [h, rvD_cons] at e;simp only [sA, e];rw [show (tG Jv r ++ [Jv t])[(tG Jv r ++ [Jv t]).length - 1]? = some (Jv t) by simp]
 dsimp only;rw [kO, K0]
end
def strOf (l : List Stt) : Str := match D.py (.lst (bP l)) with
 | some p => p.shown
 | none => ""
theorem Te {many : Int} {a b : List Stt} {S : aO} (hm : many <= 9) (h : SG many (.either a b)) : Dm (.dat (.lst (bP a))) S = .ok (.dat (.str (strOf a))) S := by
 obtain ⟨z, e⟩ := str_ok (S := S) hm h;have e' := e;unfold Dm at e';rw [show uZ S (.dat (.lst (bP a))) = D.py (.lst (bP a)) from rfl] at e'
 unfold strOf;split at e'
 ·rename_i p q
  try rw [q]
  try dsimp only
  split at e'
  ·cases e'; exact e
  ·cases e'
 ·cases e'
def Ox : Stt -> Int
 | .either a _ => if (!(Builtin.Str.occurrences (strOf a) "call" 0 (strOf a).length 1).isEmpty) = true then 1 else 0
 | _ => 0
theorem Oy (s : Stt) : Ox s = 0 \/ Ox s = 1 := by
 unfold Ox;split
 ·split
  ·exact .inr rfl
  ·exact .inl rfl
 ·exact .inl rfl
def uA (s : Stt) (m : Lm) : Option (Int × Lm) := if m.taken = m.bits.length then (match m.extra with
  | 0 => none
  | k + 1 => some (Ox s, { m with extra := k, bits := m.bits ++ [Ox s], taken := m.taken + 1 }))
 else match m.bits[m.taken]? with
  | some b => some (b, { m with taken := m.taken + 1 })
  | none => none
def asks : Stt -> Bool
 | .either _ _ => true
 | .again _ => true
 | _ => false
theorem VS {S0 : aO} {bs : List (List Stt)} {m : Lm} {s : Stt} {many : Int} (hm : many <= 9) (hs : SG many s) (ha : asks s = true) (ht : m.taken <= m.bits.length) (hl : m.bits.length < 100000) :
  Bt [lv S0, .dat s.d] (eJ S0 bs m) = match uA s m with
   | none => .ok (.dat (.int 2)) (eJ S0 bs m)
   | some (b, m') => .ok (.dat (.int b)) (eJ S0 bs m') := by
 rw [SQ];unfold C1;unfold uA
 by_cases h1 : m.taken = m.bits.length
 ·rw [if_pos h1]
  simp! [tH, zZ, mK, qJ nW, aP, decide_eq_true (show (m.taken : Int) = (m.bits.length : Int) by omega), HF]
  cases h2 : m.extra with
  | zero =>
   simp! [tH];rfl
  | succ k =>
   dsimp only;have i0 : ∀ {S : aO}, bW (.dat s.d) (.dat (.int 0)) S = .ok (.dat (.str s.word)) S := Fn hs.noodd;have hap : ∀ {m : Lm}, (m1 pS (oK (aR eV (aR bW (aC 1) (mC (.int 0))) (mC (.str "either"))) (aR Ov (mC (.str "call")) (m1 Dm (aR bW (aC 1) (mC (.int 1))))))) [some (lv S0), some (.dat s.d), some (.cel S0.length)] (eJ S0 bs m) = .ok (.dat (.int (Ox s))) (eJ S0 bs m) := by
    intro m;cases s with
    | either a b =>
     simp! [tH, cO, eP, Stt.d, Te hm hs];rfl
    | again b =>
     simp! [tH, i0, Stt.word];rfl
    | _ => cases ha
   simp! [tH, decide_eq_false (show ¬ (((k + 1 : Nat) : Int) = 0) by omega), NZ (k := k) h2, Qe (m := { m with extra := k }) (t := Ox s) (by dsimp only; omega) hap, HC (m := { m with extra := k, bits := m.bits ++ [Ox s] }), mK]
   have i1 : bW (.cel S0.length) (.dat (.int (((m.taken + 1 : Nat) : Int) - 1))) (eJ S0 bs { m with extra := k, bits := m.bits ++ [Ox s], taken := m.taken + 1 }) = .ok (.dat (.int (Ox s))) (eJ S0 bs { m with extra := k, bits := m.bits ++ [Ox s], taken := m.taken + 1 }) := nX (n := m.taken) nW (by omega) (by rw [h1]; simp)
   simp! [tH, i1];rfl
 ·rw [if_neg h1]
  obtain ⟨b, hb⟩ : ∃ b, m.bits[m.taken]? = some b := ⟨m.bits[m.taken]'(by omega), by simp [show m.taken < m.bits.length by omega]⟩
  rw [hb];simp! [tH, zZ, mK, qJ nW, aP, decide_eq_false (show ¬ (m.taken : Int) = (m.bits.length : Int) by omega), HC]
  have i1 : bW (.cel S0.length) (.dat (.int (((m.taken + 1 : Nat) : Int) - 1))) (eJ S0 bs { m with taken := m.taken + 1 }) = .ok (.dat (.int b)) (eJ S0 bs { m with taken := m.taken + 1 }) := nX (n := m.taken) nW (by omega) hb
  simp! [tH, i1];rfl
inductive LR where
 | ok (blk : List LT) (m : Lm) | non (m : Lm) | no
def kN : List LT -> Option (List Deed × fY × List LT)
 | [] => none
 | .out c _ :: r => some ([], c, r)
 | .shut :: r => (match kN r with
  | some (ds, c, q) => some (.cl :: ds, c, q)
  | none => none)
 | .st _ :: r => kN r
def Cu : LT -> Bool
 | .shut => true
 | _ => false
def O1 : LT -> Bool
 | .out _ _ => true
 | _ => false
theorem AG : ∀ {ts : List LT} {ds : List Deed} {c : fY} {r : List LT}, kN ts = some (ds, c, r) -> ∃ pre w, ts = pre ++ .out c w :: r /\ (∀ t ∈ pre, O1 t = false) /\ (pre.filter Cu).map LT.d = ds.map Deed.l /\ ds.length <= pre.length
 | [], ds, c, r, h => by cases h
 | .out c' w :: q, ds, c, r, h => by cases h; exact ⟨[], w, rfl, (fun t h => by cases h), rfl, bX _⟩
 | .shut :: q, ds, c, r, h => by
  simp only [kN] at h;cases e : kN q with
  | none => rw [e] at h; cases h
  | some x =>
   obtain ⟨ds', c', q'⟩ := x;rw [e] at h;cases h;obtain ⟨pre, w, h1, h2, h3, h4⟩ := AG e;refine ⟨.shut :: pre, w, by rw [h1]; rfl, fun t ht => ?_, ?_, by simp; omega⟩
   ·rcases bJ.mp ht with rfl | ht
    ·rfl
    ·exact h2 t ht
   ·rw [nE rfl, aM, h3]
    rfl
 | .st s :: q, ds, c, r, h => by
  obtain ⟨pre, w, h1, h2, h3, h4⟩ := AG (ts := q) h;refine ⟨.st s :: pre, w, by rw [h1]; rfl, fun t ht => ?_, ?_, by simp; omega⟩
  ·rcases bJ.mp ht with rfl | ht
   ·rfl
   ·exact h2 t ht
  ·rw [nF (by simp [Cu]), h3]
theorem Ik {t : LT} {many : Int} {S : aO} (h : t.Ok many) : bW (.dat t.d) (.dat (.int 0)) S = .ok (.dat (.str t.word)) S := by
 cases t with
 | st s => exact Fn (SG.noodd h)
 | shut => exact cO
 | out c w => exact cO
theorem Ea {t : Tg} {mt : FT} {e : FE} {ρ : Ev} {S : aO} {f g : LT -> D} {p : LT -> Bool} : ∀ {xs : List LT}, (∀ x ∈ xs, ∃ ρ1, pE t (.dat (f x)) ρ = some ρ1 /\ mt ρ1 S = .ok (p x) S /\ e ρ1 S = .ok (.dat (g x)) S) -> jO t mt e ρ (xs.map f) S = .ok ((xs.filter p).map g) S
 | [], _ => rfl
 | x :: xs, h => by
  obtain ⟨ρ1, h1, h2, h3⟩ := h x (aV ..);have ih := Ea (xs := xs) fun y hy => h y (aK _ hy)
  rw [aM, jO];simp only [h1, h2];cases q : p x with
  | true =>
   rw [nE q];simp only [if_true, h3, ih, aM]
  | false =>
   rw [nF (by rw [q]; decide)]
   simp only [BH, if_false, ih]
def allWords : List Str := ["go", "turn", "mirror", "scale", "aim", "place", "mark", "return", "exchange", "end", "keep", "again", "either", "call", "shut", "out"]
theorem Mb {t : LT} {many : Int} (h : t.Ok many) : t.word ∈ allWords := by
 cases t with
 | shut => simp [allWords, LT.word]
 | out c w => simp [allWords, LT.word]
 | st s =>
  cases s with
  | cmd c => cases c <;> simp [allWords, LT.word, Stt.word, Cmd.word]
  | odd x => exact (by obtain ⟨k, _, h, _⟩ := h; exact h.elim)
  | bad => exact (by obtain ⟨k, _, h, _⟩ := h; exact h.elim)
  | _ => simp [allWords, LT.word, Stt.word]
theorem Pt {t : LT} {many : Int} (h : t.Ok many) : PyData.strOk t.word = true := bT.mp (show allWords.all PyData.strOk = true by decide +kernel) _ (Mb h)
theorem Ma {t : LT} {many : Int} (h : t.Ok many) : (t.word == ("out" : Str)) = O1 t := by
 cases t with
 | shut => rfl
 | out c w => rfl
 | st s =>
  cases s with
  | cmd c => cases c <;> rfl
  | odd x => exact (by obtain ⟨k, _, h, _⟩ := h; exact h.elim)
  | bad => rfl
  | _ => rfl
theorem Kj {t : LT} {many : Int} (h : t.Ok many) : decide (t.word = ("shut" : Str)) = Cu t := by
 cases t with
 | shut => rfl
 | out c w => rfl
 | st s =>
  cases s with
  | cmd c => cases c <;> rfl
  | odd x => exact (by obtain ⟨k, _, h, _⟩ := h; exact h.elim)
  | bad => rfl
  | _ => rfl
theorem GJ {many : Int} : ∀ {ts : List LT}, (∀ t ∈ ts, t.Ok many) -> D.pys (ts.map fun t => .str t.word) = some (ts.map fun t => .str t.word) /\ PyData.canLayAll0 (ts.map fun t => PyData.str t.word) = true /\ PyData.depthAll (ts.map fun t => PyData.str t.word) = 0
 | [], _ => ⟨rfl, rfl, rfl⟩
 | t :: r, h => by
  obtain ⟨h1, h2, h3⟩ := GJ (ts := r) fun t ht => h t (aK _ ht)
  refine ⟨?_, ?_, ?_⟩
  ·rw [aM, D.pys, h1]
   rfl
  ·rw [aM, PyData.canLayAll0, h2, Ad]
   exact Pt (h t (aV ..))
  ·rw [aM, PyData.depthAll, h3]
   rfl
theorem Nz {as bs : List PyData} {z d : PyData} (h1 : ∀ x ∈ as, PyData.eqv x d = false) (h2 : PyData.eqv z d = true) : O0 (as ++ z :: bs) d = some as.length := by
 unfold O0;rw [Dg];refine ⟨by simp [h2], aX as.length, (aX bs.length).map (as.length + 1 + ·), ?_, fun j hj => ?_⟩
 ·rw [bL, aL, show as.length + (bs.length + 1) = as.length + 1 + bs.length by omega, List.range_add, Dx, dN]
  rfl
 ·have hj := dR.mp hj
  rw [aN hj, bO hj];simp [h1 _ (fW hj)]
theorem Lo {pre r : List LT} {c : fY} {w : Int} {many : Int} {S : aO} (h : ∀ t ∈ pre ++ .out c w :: r, t.Ok many) (hn : ∀ t ∈ pre, O1 t = false) : yH (.dat (.lst ((pre ++ .out c w :: r).map fun t => .str t.word))) (.dat (.str "out")) S = .ok (.dat (.int (pre.length : Int))) S := by
 obtain ⟨h1, h2, h3⟩ := GJ h;have e : uZ S (.dat (.lst ((pre ++ .out c w :: r).map fun t => .str t.word))) = some (.list ((pre ++ .out c w :: r).map fun t => .str t.word)) := by
  show D.py (.lst _) = _
  rw [D.py, h1]
 unfold yH;rw [e];dsimp only [uZ, D.py];rw [if_pos ⟨by unfold SeqAt.shaped; rw [show PyData.canLay0 (.list ((pre ++ .out c w :: r).map fun t => .str t.word)) = true from h2, Bool.true_and]; exact decide_eq_true (by show PyData.depthAll _ + 1 <= 64; rw [h3]; decide), by decide +kernel⟩]
 rw [cR, aM, Nz (as := pre.map fun t => .str t.word)]
 ·simp
 ·intro x hx
  obtain ⟨t, ht, rfl⟩ := nR.mp hx
  show (t.word == ("out" : Str)) = false
  rw [Ma (h t (pV _ ht)), hn t ht]
 ·show (("out" : Str) == "out") = true
  decide +kernel
def cQ (bs : List (List Stt)) (t : LT) (m : Lm) : LR := match t with
 | .st (.cmd c) => .ok [] { m with deeds := m.deeds ++ [.cmd c] }
 | .st (.keep b) => .ok (gR b ++ [.shut]) { m with deeds := m.deeds ++ [.op] }
 | .st (.either x y) => (match uA (.either x y) m with
  | none => .non m
  | some (b, m') => .ok (gR (if b = 0 then x else y)) m')
 | .st (.again b) => (match uA (.again b) m with
  | none => .non m
  | some (c, m') => .ok (if c = 0 then [] else gR b ++ [.st (.again b)]) m')
 | .st (.call g f x y) => if (g.toNat, m.taken) ∈ m.opens then .non m else (match bs[g.toNat]? with
  | some b => .ok (gR b ++ [.out (g, f, x, y) 0]) { m with opens := (g.toNat, m.taken) :: m.opens, deeds := m.deeds ++ (if f then [.op] else []) }
  | none => .no)
 | .st (.fin w) => (match kN m.todo with
  | some (ds, c, r) => .ok [.out c w] { m with deeds := m.deeds ++ ds, todo := r }
  | none => .no)
 | .out c w => (match m.opens with
  | _ :: o => .ok (gR (if w = 0 then c.2.2.1 else c.2.2.2)) { m with opens := o, way := w, deeds := m.deeds ++ (if c.2.1 then [.cl] else []) }
  | [] => .no)
 | .shut => .ok [] { m with deeds := m.deeds ++ [.cl] }
 | _ => .no
def TR (r : Res Vl) (S0 : aO) (bs : List (List Stt)) (x : LR) : Prop := match x with
 | .ok blk m => r = .ok (.dat (.lst (blk.map LT.d))) (eJ S0 bs m)
 | .non m => r = .ok (.dat .non) (eJ S0 bs m)
 | .no => True
theorem CD {l : List Stt} : (gR l).map LT.d = bP l := by
 rw [qO, gR, jD];rfl
structure Lm.Fit (m : Lm) : Prop where
 t : m.taken <= m.bits.length
 b : m.bits.length < 100000
 d : m.deeds.length < 400000
 o : m.opens.length < 100000
 q : m.todo.length < 400000
 bit : ∀ b ∈ m.bits, b = 0 \/ b = 1
theorem Co {s : Stt} {m m' : Lm} {b : Int} (F : m.Fit) (h : uA s m = some (b, m')) : b = 0 \/ b = 1 := by
 unfold uA at h;split at h
 ·split at h
  ·cases h
  ·cases h; exact Oy s
 ·split at h
  ·rename_i q
   cases h;exact F.bit _ (bN q)
  ·cases h
theorem MC {c : Cmd} : decide (c.word = ("either" : Str)) = false := by cases c <;> rfl
theorem P4 {c : Cmd} : decide (c.word = ("again" : Str)) = false := by cases c <;> rfl
theorem Rn {c : Cmd} : decide (c.word = ("keep" : Str)) = false := by cases c <;> rfl
theorem KR {c : Cmd} : decide (c.word = ("call" : Str)) = false := by cases c <;> rfl
theorem Ro {c : Cmd} : decide (c.word = ("end" : Str)) = false := by cases c <;> rfl
theorem VQ {c : Cmd} : decide (c.word = ("out" : Str)) = false := by cases c <;> rfl
def IZ (o : Nat × Nat) : PyData := .tuple [.int (o.1 : Int), .int (o.2 : Int)]
theorem Gr : ∀ {os : List (Nat × Nat)}, D.pys (os.map Jv) = some (os.map IZ) /\ PyData.canLayAll0 (os.map IZ) = true /\ PyData.depthAll (os.map IZ) <= 1
 | [] => ⟨rfl, rfl, jC _⟩
 | o :: r => by
  obtain ⟨h1, h2, h3⟩ := Gr (os := r);refine ⟨?_, ?_, ?_⟩
  ·rw [aM, D.pys, h1]
   rfl
  ·rw [aM, PyData.canLayAll0, h2]
   rfl
  ·rw [aM, PyData.depthAll]
   simp only [IZ, PyData.depth, PyData.depthAll];omega
theorem HW {S0 : aO} {bs : List (List Stt)} {m : Lm} {g : Nat} : fIn false (.dat (.tup [.int (g : Int), .int (m.taken : Int)])) (.cel (S0.length + 2)) (eJ S0 bs m) = .ok (.dat (.bl (decide ((g, m.taken) ∈ m.opens)))) (eJ S0 bs m) := by
 obtain ⟨h1, h2, h3⟩ := Gr (os := m.opens.reverse);have e1 : uZ (eJ S0 bs m) (.dat (.tup [.int (g : Int), .int (m.taken : Int)])) = some (IZ (g, m.taken)) := rfl;have e2 : uZ (eJ S0 bs m) (.cel (S0.length + 2)) = some (.list (m.opens.reverse.map IZ)) := by
  unfold uZ;dsimp only;rw [zX];dsimp only;rw [D.py, show tG Jv m.opens = m.opens.reverse.map Jv from rfl, h1]
 have hs : shp (IZ (g, m.taken)) (.list (m.opens.reverse.map IZ)) = true := by
  unfold shp SeqAt.shaped;rw [show PyData.canLay0 (.list (m.opens.reverse.map IZ)) = true from h2, show decide ((PyData.list (m.opens.reverse.map IZ)).depth <= 64) = true from decide_eq_true (by show PyData.depthAll _ + 1 <= 64; omega)]
  rfl
 have ha : ((m.opens.reverse.map IZ).any fun z => PyData.eqv z (IZ (g, m.taken))) = decide ((g, m.taken) ∈ m.opens) := by
  rw [Bool.eq_iff_iff, List.any_eq_true, decide_eq_true_iff]
  constructor
  ·rintro ⟨z, hz, he⟩
   obtain ⟨o, ho, rfl⟩ := nR.mp hz;simp only [IZ, PyData.eqv, PyData.eqvAll, Ad, iT, beq_iff_eq] at he;have : o = (g, m.taken) := by
    obtain ⟨o1, o2⟩ := o;simp only at he;rw [show o1 = g by omega, show o2 = m.taken by omega]
   rw [<- this]
   simpa using ho
  ·intro h
   exact ⟨IZ (g, m.taken), MU (by simpa using h), by simp [IZ, PyData.eqv, PyData.eqvAll]⟩
 unfold fIn;rw [e1, e2];dsimp only;rw [if_pos hs, ha];rfl
theorem Rp {xs : List D} {n : Nat} : cutD xs none (some (n : Int)) = xs.take n := by
 unfold cutD;rw [HT.sIx_none, HT.sIx_nat];simp
theorem TH {xs : List D} {n : Nat} : cutD xs (some (n : Int)) none = xs.drop n := by
 unfold cutD;rw [HT.sIx_none, HT.sIx_nat, wL (by simp)]
 by_cases h : n <= xs.length
 ·rw [FM h]
 ·rw [Nat.min_eq_right (by omega), Dc, Ja (by omega)]
theorem KC {x : Deed} {f : Bool} : cutD [x.l] none (some (if f = true then 1 else 0)) = (if f then [x] else []).map Deed.l := by
 cases f with
 | true => exact Rp (n := 1)
 | false => exact Rp (n := 0)
section
variable {S0 : aO} {bs : List (List Stt)} {m : Lm} {many : Int}
theorem Mq {c : Cmd} (F : m.Fit) : TR (jK [lv S0, .dat (LT.st (.cmd c)).d] (eJ S0 bs m)) S0 bs (cQ bs (.st (.cmd c)) m) := by
 have Fd := F.d;have e1 := Cp (S0 := S0) (bs := bs) (m := m) (t := .cmd c) (ρ := [some (lv S0), some (.dat c.d), some (.dat (.str c.word)), none, none, none, none]) (b := aC 1) (by omega) rfl
 show _ = _
 rw [jQ];unfold gI;simp! [tH, LT.d, Stt.d, By, MC, P4, Rn, KR, Ro, VQ, oM, e1];rfl
theorem Kv (F : m.Fit) : TR (jK [lv S0, .dat LT.shut.d] (eJ S0 bs m)) S0 bs (cQ bs .shut m) := by
 have Fd := F.d;have e1 := Cp (S0 := S0) (bs := bs) (m := m) (t := .cl) (ρ := [some (lv S0), some (.dat (.tup [.str "shut"])), some (.dat (.str "shut")), none, none, none, none]) (b := aC 1) (by omega) rfl
 show _ = _
 rw [jQ];unfold gI;simp! [tH, LT.d, cO, oM, e1];rfl
theorem Kw {b : List Stt} (F : m.Fit) (h : SG many (.keep b)) : TR (jK [lv S0, .dat (LT.st (.keep b)).d] (eJ S0 bs m)) S0 bs (cQ bs (.st (.keep b)) m) := by
 have Fd := F.d;have hb := h.keep.1;have e1 := Cp (S0 := S0) (bs := bs) (m := m) (t := .op) (ρ := [some (lv S0), some (.dat (.tup [.str "keep", .lst (bP b)])), some (.dat (.str "keep")), none, none, none, none]) (b := cC (aB (mC (.str "hold")) aJ)) (by omega) rfl
 have ad : ∀ {S : aO} {z : D}, dD false (.dat (.lst (bP b))) (.dat (.lst [z])) S = newL false (bP b ++ [z]) S := gL (by rw [cY]; exact sz (by simp; omega))
 show _ = _
 rw [jQ];unfold gI;simp! [tH, LT.d, Stt.d, cO, eP, oM, e1, ad];rw [cR, CD];rfl
theorem Mo {c : fY} {w : Int} (F : m.Fit) (h : (LT.out c w).Ok many) : TR (jK [lv S0, .dat (LT.out c w).d] (eJ S0 bs m)) S0 bs (cQ bs (.out c w) m) := by
 have Fd := F.d;unfold cQ;dsimp only;cases ho : m.opens with
 | nil => trivial
 | cons o r =>
  show _ = _
  obtain ⟨_, _, _, hw⟩ := h;have e1 := Cj (S0 := S0) (bs := bs) (m := { m with opens := r, way := w }) (ds := if c.2.1 then [.cl] else []) (ρ := [some (lv S0), some (.dat (LT.out c w).d), some (.dat (.str "out")), none, none, none, none]) (v := Aq false (cS false (aB (cC (aB (mC (.str "shut")) aJ)) aJ)) pN (fX (m1 pS (aR bW (aR bW (aC 1) (mC (.int 1))) (mC (.int 2)))))) (by dsimp only; split <;> simp <;> omega) (by
   simp! [tH, LT.d, eP, Ny, show D.tup [D.str (Str.ofString "shut")] = Deed.cl.l from rfl, KC])
  rw [jQ];unfold gI;simp! [tH, LT.d, cO, eP, kL, Ck, Nb ho, UE, Iw];simp only [LT.d] at e1;simp! [tH, e1, eP, kL, Iw];rcases hw with rfl | rfl
  ·simp! [tH, yD]
   rw [CD];rfl
  ·simp! [tH, Cs]
   rw [CD];rfl
theorem GW {s : Stt} (hm : many <= 9) (F : m.Fit) (h : SG many s) (ha : asks s = true) : TR (jK [lv S0, .dat (LT.st s).d] (eJ S0 bs m)) S0 bs (cQ bs (.st s) m) := by
 have eb := VS (S0 := S0) (bs := bs) hm h ha F.t F.b;cases q : uA s m with
 | none =>
  rw [q] at eb;dsimp only at eb;cases s with
  | either x y =>
   unfold cQ;dsimp only;rw [q]
   show _ = _
   rw [jQ];unfold gI;simp only [Stt.d] at eb;simp! [tH, LT.d, Stt.d, cO, eb];rfl
  | again b =>
   unfold cQ;dsimp only;rw [q]
   show _ = _
   rw [jQ];unfold gI;simp only [Stt.d] at eb;simp! [tH, LT.d, Stt.d, cO, eb];rfl
  | _ => cases ha
 | some x =>
  obtain ⟨b, m'⟩ := x;have hbit := Co F q;rw [q] at eb;dsimp only at eb;cases s with
  | either x y =>
   unfold cQ;dsimp only;rw [q]
   show _ = _
   rw [jQ];unfold gI;simp only [Stt.d] at eb;rcases hbit with rfl | rfl
   ·simp! [tH, LT.d, Stt.d, cO, eb, eP]
    rw [CD];rfl
   ·simp! [tH, LT.d, Stt.d, cO, eb, kL]
    rw [CD];rfl
  | again b =>
   have hb := h.again.1;unfold cQ;dsimp only;rw [q]
   show _ = _
   rw [jQ];unfold gI;simp only [Stt.d] at eb;have ad : ∀ {S : aO}, dD false (.dat (.lst (bP b))) (.dat (.lst [.tup [.str "again", .lst (bP b)]])) S = newL false (bP b ++ [.tup [.str "again", .lst (bP b)]]) S := gL (by rw [cY]; exact sz (by simp; omega))
   rcases hbit with rfl | rfl
   ·simp! [tH, LT.d, Stt.d, cO, eb, eP, ad, yD]
    rfl
   ·simp! [tH, LT.d, Stt.d, cO, eb, eP, ad, Cs]
    rw [cR, CD];rfl
  | _ => cases ha
end
section
variable {S0 : aO} {bs : List (List Stt)} {m : Lm} {many : Int}
theorem Kx {g : Int} {f : Bool} {x y : List Stt} (F : m.Fit) (h : SG many (.call g f x y)) (hB : ∀ b ∈ bs, b.length <= 1000) : TR (jK [lv S0, .dat (LT.st (.call g f x y)).d] (eJ S0 bs m)) S0 bs (cQ bs (.st (.call g f x y)) m) := by
 have Fd := F.d;have Fo := F.o;obtain ⟨⟨g0, g1⟩, hx, hy⟩ := h.call;obtain ⟨n, rfl⟩ : ∃ n : Nat, g = (n : Int) := ⟨g.toNat, by omega⟩
 unfold cQ;dsimp only;rw [gX]
 by_cases hin : (n, m.taken) ∈ m.opens
 ·rw [if_pos hin]
  show _ = _
  rw [jQ];unfold gI;simp! [tH, LT.d, Stt.d, cO, eP, mK, Ck, HW, decide_eq_true hin];rfl
 ·rw [if_neg hin]
  cases hb : bs[n]? with
  | none => trivial
  | some b =>
   have hbl := hB b (bN hb);have ib : ∀ {S : aO}, bW (.dat (.lst (bls bs))) (.dat (.int (n : Int))) S = .ok (.dat (.lst (bP b))) S := fun {S} => Ln (n := n) rfl (by rw [bls, cM, hb]; rfl)
   have e0 := Ni (S0 := S0) (bs := bs) (m := m) (t := (n, m.taken)) (ρ := [some (lv S0), some (.dat (Stt.call (n : Int) f x y).d), some (.dat (.str "call")), none, none, none, none]) (b := cC (aB (aR bW (aC 1) (mC (.int 1))) (aB (aR dF (aC 0) (mC (.str "taken"))) aJ))) (by omega) (by
    simp! [tH, Stt.d, eP, mK];rfl)
   have e1 := Cj (S0 := S0) (bs := bs) (m := { m with opens := (n, m.taken) :: m.opens }) (ds := if f then [.op] else []) (ρ := [some (lv S0), some (.dat (Stt.call (n : Int) f x y).d), some (.dat (.str "call")), none, none, none, none]) (v := Aq false (cS false (aB (cC (aB (mC (.str "hold")) aJ)) aJ)) pN (fX (m1 pS (aR bW (aC 1) (mC (.int 2)))))) (by dsimp only; split <;> simp <;> omega) (by
    simp! [tH, Stt.d, kL, show D.tup [D.str (Str.ofString "hold")] = Deed.op.l from rfl, KC])
   have ad : ∀ {S : aO} {z : D}, dD false (.dat (.lst (bP b))) (.dat (.lst [z])) S = newL false (bP b ++ [z]) S := gL (by rw [cY]; exact xE (IS (by simp; omega)))
   show _ = _
   simp only [Stt.d] at e0 e1;rw [jQ];unfold gI;simp! [tH, LT.d, Stt.d, cO, eP, mK, Ck, HW, decide_eq_false hin, e0, e1, Lj, ib, ad];rw [cR, CD];rfl
theorem MZ {ts : List LT} {S : aO} {a0 a1 a2 a3 a4 a5 : Option Vl} (h : ∀ t ∈ ts, t.Ok many) (hl : ts.length < 400000) : A3 false (.nm 6) hY (aR bW (aC 6) (mC (.int 0))) [a0, a1, a2, a3, a4, a5, none] [6] (ts.map LT.d) S = .ok (.dat (.lst (ts.map fun t => .str t.word))) S := by
 unfold A3;rw [aP, if_pos (xE (IS (by omega))), A0 (f := LT.d) (g := fun t => .str t.word) fun t ht => ⟨_, rfl, by
  have := Ik (S := S) (h t ht);simp! [tH, this]⟩]
 rfl
theorem QA {ts : List LT} {S : aO} {a0 a1 a2 a3 a4 a5 : Option Vl} (h : ∀ t ∈ ts, t.Ok many) (hl : ts.length < 400000) : A3 false (.nm 6) (mB (aR eV (aR bW (aC 6) (mC (.int 0))) (mC (.str "shut")))) (aC 6) [a0, a1, a2, a3, a4, a5, none] [6] (ts.map LT.d) S = .ok (.dat (.lst ((ts.filter Cu).map LT.d))) S := by
 unfold A3;rw [aP, if_pos (xE (IS (by omega))), Ea (f := LT.d) (g := LT.d) (p := Cu) fun t ht => ⟨_, rfl, by
  have := Ik (S := S) (h t ht);simp! [tH, this, Kj (h t ht)], rfl⟩]
 rfl
theorem Mp {w : Int} (F : m.Fit) (hw : w = 0 \/ w = 1) (T : ∀ t ∈ m.todo, t.Ok many) : TR (jK [lv S0, .dat (LT.st (.fin w)).d] (eJ S0 bs m)) S0 bs (cQ bs (.st (.fin w)) m) := by
 have Fd := F.d;have Fq := F.q;unfold cQ;dsimp only;cases hc : kN m.todo with
 | none => trivial
 | some z =>
  obtain ⟨ds, c, r⟩ := z;obtain ⟨pre, w', h1, h2, h3, h4⟩ := AG hc;have hpl : pre.length < 400000 := by rw [h1] at Fq; simp at Fq; omega
  have T' : ∀ t ∈ pre ++ .out c w' :: r, t.Ok many := by rw [<- h1]; exact T
  have Tp : ∀ t ∈ pre, t.Ok many := fun t ht => T' t (pV _ ht)
  have hix := fun {S : aO} => Lo (S := S) T' h2
  have hl := fun {S : aO} {a0 a1 a2 a3 a4 a5 : Option Vl} => MZ (S := S) (a0 := a0) (a1 := a1) (a2 := a2) (a3 := a3) (a4 := a4) (a5 := a5) T' (by rw [<- h1]; exact Fq)
  have hsh := fun {S : aO} {a0 a1 a2 a3 a4 a5 : Option Vl} => QA (S := S) (a0 := a0) (a1 := a1) (a2 := a2) (a3 := a3) (a4 := a4) (a5 := a5) Tp hpl
  have htk : (List.map LT.d (pre ++ .out c w' :: r)).take pre.length = pre.map LT.d := by simp
  have htd : (List.map LT.d (pre ++ .out c w' :: r)).drop (pre.length + 1) = r.map LT.d := by
   rw [cR, aM, List.drop_append];simp
  have hat : (List.map LT.d (pre ++ .out c w' :: r))[pre.length]? = some (LT.out c w').d := by simp
  have h5 : ∀ {S : aO}, bW (.dat (.lst (List.map LT.d (pre ++ .out c w' :: r)))) (.dat (.int (pre.length : Int))) S = .ok (.dat (LT.out c w').d) S := fun {S} => Ln (n := pre.length) rfl hat
  have h6 : cutD (List.map LT.d (pre ++ .out c w' :: r)) (some ((pre.length : Int) + 1)) none = r.map LT.d := by
   rw [show ((pre.length : Int) + 1) = ((pre.length + 1 : Nat) : Int) by omega, TH, htd]
  have h7 : cutD (List.map LT.d (pre ++ .out c w' :: r)) none (some (pre.length : Int)) = pre.map LT.d := by rw [Rp, htk]
  have lgt := tY (S0 := S0) (bs := bs) (m := m);rw [h1] at lgt;have e1 := Cj (S0 := S0) (bs := bs) (m := m) (ds := ds) (ρ := [some (lv S0), some (.dat (Stt.fin w).d), some (.dat (.str "end")), none, some (.dat (.lst (List.map LT.d (pre ++ .out c w' :: r)))), some (.dat (.int (pre.length : Int))), none]) (v := (Ar false (lQ (Aq false (aC 4) pN (fX (aC 5)))) (.nm 6) (mB (aR eV (aR bW (aC 6) (mC (.int 0))) (mC (.str "shut")))) (aC 6) [6])) (by omega) (by
   simp! [tH, h7, hsh];rw [h3])
  show _ = _
  simp only [Stt.d] at e1;rw [jQ];unfold gI;simp! [tH, LT.d, Stt.d, cO, lgt, hl, hix, e1, h6, zU, h5, eP];rfl
theorem Py {t : LT} (hm : many <= 9) (F : m.Fit) (h : t.Ok many) (T : ∀ t ∈ m.todo, t.Ok many) (hB : ∀ b ∈ bs, b.length <= 1000) : TR (jK [lv S0, .dat t.d] (eJ S0 bs m)) S0 bs (cQ bs t m) := by
 cases t with
 | shut => exact Kv F
 | out c w => exact Mo F h
 | st s =>
  cases s with
  | cmd c => exact Mq F
  | fin w => exact Mp F (SG.fin h) T
  | keep b => exact Kw F h
  | again b => exact GW hm F h rfl
  | either a b => exact GW hm F h rfl
  | call g f x y => exact Kx F h hB
  | bad => trivial
  | odd x => trivial
end
inductive LF where
 | fin (m : Lm) | long (m : Lm) | never (m : Lm) | short (m : Lm) | no (m : Lm)
def isCall : LT -> Bool
 | .st (.call _ _ _ _) => true
 | _ => false
def cW (bs : List (List Stt)) : Nat -> Lm -> LF
 | 0, m => if m.todo = [] then .fin m else .long m
 | k + 1, m => match m.todo with
  | [] => .fin m
  | t :: r => match cQ bs t { m with todo := r } with
   | .ok blk m' => cW bs k { m' with todo := blk ++ m'.todo }
   | .non m' => if isCall t = true then .never m' else .short m'
   | .no => .no m
structure Lm.Inv (many : Int) (k : Nat) (m : Lm) : Prop where
 T : ∀ t ∈ m.todo, t.Ok many
 bit : ∀ b ∈ m.bits, b = 0 \/ b = 1
 t : m.taken <= m.bits.length
 b : m.bits.length + k < 90000
 o : m.opens.length + k < 90000
 d : m.deeds.length + m.todo.length + 12 * k < 400000
theorem Lm.Inv.fit {many : Int} {k : Nat} {m : Lm} (h : m.Inv many k) : m.Fit := ⟨h.t, by have := h.b; omega, by have := h.d; omega, by have := h.o; omega, by have := h.d; omega, h.bit⟩
theorem Lm.Inv.pop {many : Int} {k : Nat} {m : Lm} {t : LT} {r : List LT} (h : m.Inv many k) (e : m.todo = t :: r) : ({ m with todo := r } : Lm).Inv many k /\ t.Ok many := ⟨⟨fun t ht => h.T t (by rw [e]; exact aK _ ht), h.bit, h.t, h.b, h.o, by have := h.d; rw [e] at this; simp at this; simp; omega⟩, h.T t (by rw [e]; exact aV ..)⟩
theorem tZ {s : Stt} {m m' : Lm} {b : Int} (h : uA s m = some (b, m')) : m'.todo = m.todo /\ m'.deeds = m.deeds /\ m'.opens = m.opens /\ m'.way = m.way /\ m'.taken = m.taken + 1 /\ m'.bits[m.taken]? = some b /\ (∃ x, m'.bits = m.bits ++ x /\ x.length <= 1 /\ ∀ y ∈ x, y = 0 \/ y = 1) := by
 unfold uA at h;split at h
 ·rename_i ht
  split at h
  ·cases h
  ·cases h
   exact ⟨rfl, rfl, rfl, rfl, rfl, by rw [ht]; simp, _, rfl, by simp, fun y hy => by rw [bK.mp hy]; exact Oy s⟩
 ·split at h
  ·rename_i q
   cases h;exact ⟨rfl, rfl, rfl, rfl, rfl, q, [], by simp, by simp, fun y hy => by cases hy⟩
  ·cases h
theorem HI {many : Int} {k : Nat} {s : Stt} {m m' : Lm} {b : Int} {blk : List LT} (I : m.Inv many (k + 1)) (hb : ∀ t ∈ blk, t.Ok many) (hl : blk.length <= 9) (h : uA s m = some (b, m')) (hlt : m.taken < m'.bits.length) : ({ m' with todo := blk ++ m'.todo } : Lm).Inv many k := by
 obtain ⟨h1, h2, h3, _, h4, _, x, h5, h6, h7⟩ := tZ h;have := I.b; have := I.o; have := I.d;refine ⟨fun t ht => ?_, fun y hy => ?_, ?_, ?_, ?_, ?_⟩
 ·simp only [h1] at ht
  rcases dH.mp ht with ht | ht
  ·exact hb t ht
  ·exact I.T t ht
 ·simp only [h5] at hy
  rcases dH.mp hy with hy | hy
  ·exact I.bit y hy
  ·exact h7 y hy
 ·simp only [h4]; omega
 ·simp only [h5, bL]; omega
 ·simp only [h3]; omega
 ·simp only [h1, h2, bL]; omega
theorem K5 {s : Stt} {m m' : Lm} {b : Int} (h : uA s m = some (b, m')) : m.taken < m'.bits.length := by
 obtain ⟨_, _, _, _, _, h6, _⟩ := tZ h;exact (aI.mp h6).1
theorem yY {l : List Stt} {many : Int} (h : BG many l) : ∀ t ∈ gR l, t.Ok many := fun t ht => by
 obtain ⟨s, h1, rfl⟩ := nR.mp ht;exact h.2 s h1
theorem wQ {l : List Stt} : (gR l).length = l.length := by simp [gR]
theorem gH {bs : List (List Stt)} {many : Int} {k : Nat} {m m' : Lm} {t : LT} {blk : List LT} (hB : ∀ b ∈ bs, BG many b) (I : m.Inv many (k + 1)) (ht : t.Ok many) (h : cQ bs t m = .ok blk m') : ({ m' with todo := blk ++ m'.todo } : Lm).Inv many k := by
 have Ib := I.b; have Io := I.o; have Id := I.d;have app : ∀ {blk : List LT}, (∀ t ∈ blk, t.Ok many) -> ∀ t ∈ blk ++ m.todo, t.Ok many := fun {blk} hb t ht => by
  rcases dH.mp ht with ht | ht
  ·exact hb t ht
  ·exact I.T t ht
 cases t with
 | shut =>
  cases h;exact ⟨I.T, I.bit, I.t, by dsimp only; omega, by dsimp only; omega, by simp; omega⟩
 | out c w =>
  obtain ⟨hg, hx, hy, hw⟩ := ht;unfold cQ at h;dsimp only at h;split at h
  ·rename_i q
   cases h;have hq := congrArg MR q;have hz : BG many (if w = 0 then c.2.2.1 else c.2.2.2) := by split <;> assumption
   have := hz.1;refine ⟨app (yY hz), I.bit, I.t, by dsimp only; omega, by simp at hq; dsimp only; omega, ?_⟩
   have hcl : (if c.2.1 = true then [Deed.cl] else []).length <= 1 := by split <;> simp
   simp only [bL, wQ];omega
  ·cases h
 | st s =>
  cases s with
  | bad => cases h
  | odd x => cases h
  | cmd c =>
   cases h;exact ⟨I.T, I.bit, I.t, by dsimp only; omega, by dsimp only; omega, by simp; omega⟩
  | keep b =>
   cases h;have hz := SG.keep ht;have := hz.1;refine ⟨app fun t ht => ?_, I.bit, I.t, by dsimp only; omega, by dsimp only; omega, by simp [wQ]; omega⟩
   rcases dH.mp ht with ht | ht
   ·exact yY hz t ht
   ·rw [bK.mp ht]; trivial
  | either x y =>
   obtain ⟨hx, hy⟩ := SG.either ht;unfold cQ at h;dsimp only at h;split at h
   ·cases h
   ·rename_i b m1 q
    cases h;have hz : BG many (if b = 0 then x else y) := by split <;> assumption
    have := hz.1;exact HI I (yY hz) (by rw [wQ]; omega) q (K5 q)
  | again b =>
   have hz := SG.again ht;have := hz.1;unfold cQ at h;dsimp only at h;split at h
   ·cases h
   ·rename_i c m1 q
    cases h;refine HI I (fun t h => ?_) (by split <;> simp [wQ]; omega) q (K5 q)
    split at h
    ·cases h
    ·rcases dH.mp h with h | h
     ·exact yY hz t h
     ·rw [bK.mp h]; exact ht
  | call g f x y =>
   obtain ⟨hg, hx, hy⟩ := SG.call ht;unfold cQ at h;dsimp only at h;split at h
   ·cases h
   ·split at h
    ·rename_i b hb
     cases h;have hz := hB b (bN hb);have := hz.1;refine ⟨app fun t ht => ?_, I.bit, I.t, by dsimp only; omega, by simp; omega, ?_⟩
     ·rcases dH.mp ht with ht | ht
      ·exact yY hz t ht
      ·rw [bK.mp ht]; exact ⟨hg, hx, hy, .inl rfl⟩
     ·have hcl : (if f = true then [Deed.op] else []).length <= 1 := by split <;> simp
      simp only [bL, wQ, aL, bF];omega
    ·cases h
  | fin w =>
   have hw := SG.fin ht;unfold cQ at h;dsimp only at h;split at h
   ·rename_i ds c r q
    cases h;obtain ⟨pre, w', h1, h2, h3, h4⟩ := AG q;have hc := I.T (.out c w') (by rw [h1]; simp)
    have hl := congrArg MR h1;simp only [bL, aL] at hl;refine ⟨fun t ht => ?_, I.bit, I.t, by dsimp only; omega, by dsimp only; omega, by simp; omega⟩
    rcases dH.mp ht with ht | ht
    ·rw [bK.mp ht]; exact ⟨hc.1, hc.2.1, hc.2.2.1, hw⟩
    ·exact I.T t (by rw [h1]; exact List.mem_append_right _ (aK _ ht))
   ·cases h
def mV (w : Str) (i : Int) (m : Lm) : D := .tup [.str w, .int i, .lst (m.deeds.map Deed.l), .lst (m.bits.map D.int)]
theorem zV : ∀ {S0 : aO} {bs : List (List Stt)} {m : Lm}, (eJ S0 bs m).take S0.length = S0 := by
 intro S0 bs m;simp [eJ]
theorem zY {S0 : aO} {bs : List (List Stt)} {m : Lm} {c : Cell} : ((eJ S0 bs m).set (S0.length + 1) c)[S0.length]? = some (.lst (m.bits.map D.int)) := by
 rw [aW, if_neg (by omega)]
 exact nW
section
variable {S0 : aO} {bs : List (List Stt)} {many : Int} {a0 a1 a2 a3 : Option Vl}
abbrev rE (S0 : aO) (a0 a1 a2 a3 : Option Vl) : Ev := [a0, a1, a2, a3, some (lv S0), none, none, none]
theorem Kn {m : Lm} (h : m.todo = []) : eT [a0, a1, a2, a3, some (lv S0), some x, none, none] (eJ S0 bs m) = .next (rE S0 a0 a1 a2 a3) (eJ S0 bs m) := by
 rw [eT];simp! [tH, tY, h, bI]
theorem idle {m : Lm} (h : m.todo = []) : ∀ (n : Nat) (lo : Int), loop (.nm 5) eT (gK lo n) (rE S0 a0 a1 a2 a3) (eJ S0 bs m) = .next (rE S0 a0 a1 a2 a3) (eJ S0 bs m)
 | 0, lo => rfl
 | n + 1, lo => by
  have ih := idle h n (lo + 1);rw [oG, loop];simp only [pE, kG, rE, bY, cE];rw [Kn h];exact ih
theorem GU (hm : many <= 9) (hB : ∀ b ∈ bs, BG many b) : ∀ (n : Nat) (lo : Int) (m : Lm), m.Inv many n ->
  match cW bs n m with
  | .fin m' => loop (.nm 5) eT (gK lo n) (rE S0 a0 a1 a2 a3) (eJ S0 bs m) = .next (rE S0 a0 a1 a2 a3) (eJ S0 bs m')
  | .long m' => m'.todo ≠ [] /\ loop (.nm 5) eT (gK lo n) (rE S0 a0 a1 a2 a3) (eJ S0 bs m) = .next (rE S0 a0 a1 a2 a3) (eJ S0 bs m')
  | .never m' => ∃ S', loop (.nm 5) eT (gK lo n) (rE S0 a0 a1 a2 a3) (eJ S0 bs m) = .ret (.dat (mV "never" (-2) m')) S' /\ S'.take S0.length = S0
  | .short m' => ∃ S', loop (.nm 5) eT (gK lo n) (rE S0 a0 a1 a2 a3) (eJ S0 bs m) = .ret (.dat (mV "short" (m'.bits.length : Int) m')) S' /\ S'.take S0.length = S0
  | .no _ => True
 | 0, lo, m, I => by
  unfold cW
  by_cases h : m.todo = []
  ·rw [if_pos h]; rfl
  ·rw [if_neg h]; exact ⟨h, rfl⟩
 | n + 1, lo, m, I => by
  unfold cW;cases h : m.todo with
  | nil => exact idle h (n + 1) lo
  | cons t r =>
   dsimp only;obtain ⟨I1, ht⟩ := I.pop h;have tk := Py (S0 := S0) hm I1.fit ht I1.T (fun b hb => cA (hB b hb).1 (by decide))
   have ix0 : bW (.dat (.lst (t.d :: r.map LT.d))) (.dat (.int 0)) (eJ S0 bs m) = .ok (.dat t.d) (eJ S0 bs m) := yD;have lgt := tY (S0 := S0) (bs := bs) (m := m);rw [h, aM] at lgt;have hgt : decide ((0 : Int) < (((r.map LT.d).length + 1 : Nat) : Int)) = true := decide_eq_true (by omega)
   have hgt' : decide ((0 : Int) < ((r.length + 1 : Nat) : Int)) = true := decide_eq_true (by omega)
   have hnl : ∀ xs : List D, isNon (Vl.dat (D.lst xs)) = false := fun _ => rfl
   have hcut : cutD (t.d :: r.map LT.d) (some 1) none = r.map LT.d := TH (n := 1);have hw0 : ∀ {S : aO}, bW (.dat t.d) (.dat (.int 0)) S = .ok (.dat (.str t.word)) S := Ik ht;rw [oG, loop];simp only [pE, kG, rE, bY, cE]
   revert tk
   cases q : cQ bs t { m with todo := r } with
   | no => intro _; trivial
   | ok blk m' =>
    intro tk;have tk' : _ = _ := tk;have I2 := gH hB I1 ht q;have ih := GU hm hB n (lo + 1) _ I2;have ad : ∀ {S : aO}, dD false (.dat (.lst (blk.map LT.d))) (.dat (.lst (m'.todo.map LT.d))) S = newL false (blk.map LT.d ++ m'.todo.map LT.d) S := gL (by
     have := I2.d;simp at this ⊢;exact xE (IS (by omega)))
    have e : eT [a0, a1, a2, a3, some (lv S0), some (.dat (.int lo)), none, none] (eJ S0 bs m) = .next (rE S0 a0 a1 a2 a3) (eJ S0 bs { m' with todo := blk ++ m'.todo }) := by
     rw [eT];simp! [tH, lgt, hgt, ix0, hcut, zU (ts := r), tk', hnl, tY, ad, <- cR, zU]
    rw [e];exact ih
   | non m' =>
    intro tk;have tk' : _ = _ := tk;cases hc : isCall t with
    | true =>
     dsimp only;rw [if_pos rfl];have hw : t.word = ("call" : Str) := by
      cases t with
      | st s => cases s <;> first | rfl | cases hc
      | _ => cases hc
     refine ⟨((eJ S0 bs m').set (S0.length + 1) .dead).set S0.length .dead, ?_, by rw [take_set (by omega), take_set (by omega), zV]⟩
     have e : eT [a0, a1, a2, a3, some (lv S0), some (.dat (.int lo)), none, none] (eJ S0 bs m) = .ret (.dat (mV "never" (-2) m')) (((eJ S0 bs m').set (S0.length + 1) .dead).set S0.length .dead) := by
      rw [eT];have lgb : dF (lv S0) (.dat (.str "bits")) ((eJ S0 bs m').set (S0.length + 1) .dead) = .ok (.cel S0.length) ((eJ S0 bs m').set (S0.length + 1) .dead) := mQ (by rw [aW, if_neg (by omega)]; exact kK) rfl
      simp! [tH, lgt, hgt, ix0, hcut, zU (ts := r), tk', hw0, hw, oM, nO qH, lgb, nO zY];rfl
     rw [e]
    | false =>
     dsimp only;rw [if_neg (by decide)]
     have hw : decide (t.word = ("call" : Str)) = false := by
      cases t with
      | st s =>
       cases s with
       | call g f x y => cases hc
       | cmd c => exact KR
       | odd x => exact (by obtain ⟨k, _, h, _⟩ := ht; exact h.elim)
       | _ => rfl
      | _ => rfl
     refine ⟨((eJ S0 bs m').set (S0.length + 1) .dead).set S0.length .dead, ?_, by rw [take_set (by omega), take_set (by omega), zV]⟩
     have e : eT [a0, a1, a2, a3, some (lv S0), some (.dat (.int lo)), none, none] (eJ S0 bs m) = .ret (.dat (mV "short" (m'.bits.length : Int) m')) (((eJ S0 bs m').set (S0.length + 1) .dead).set S0.length .dead) := by
      rw [eT];have lgb : dF (lv S0) (.dat (.str "bits")) ((eJ S0 bs m').set (S0.length + 1) .dead) = .ok (.cel S0.length) ((eJ S0 bs m').set (S0.length + 1) .dead) := mQ (by rw [aW, if_neg (by omega)]; exact kK) rfl
      simp! [tH, lgt, hgt', ix0, hcut, zU (ts := r), tk', hw0, hw, oM, zZ, qJ nW, aP, nO qH, lgb, nO zY];rfl
     rw [e]
end
def fE (p : Nat) (bits : List Int) (ex : Nat) : Lm := ⟨bits, ex, 0, 0, [], [], [.st (.call (p : Int) false [] [])]⟩
theorem Eh {p : Nat} {bits : List Int} {ex k : Nat} {many : Int} (hp : (p : Int) < many) (hb : ∀ b ∈ bits, b = 0 \/ b = 1) (hl : bits.length < 40000) (hk : k <= 20001) : (fE p bits ex).Inv many k :=
 ⟨fun t ht => by
  rw [bK.mp ht];exact ⟨3, by decide, ⟨⟨by decide, by omega, hp⟩, trivial, trivial⟩, by simp [Stt.size, cD], ⟨⟨jC _, trivial⟩, jC _, trivial⟩⟩, hb, jC _, by simp [fE]; omega, by simp [fE]; omega, by simp [fE]; omega⟩
section
variable {S0 : aO} {bs : List (List Stt)} {p : Nat} {bits : List Int} {ex : Nat}
theorem Oz {ρ : Ev} (h0 : aC 0 ρ = fun S => .ok (.dat (.lst (bls bs))) S) (h2 : aC 2 ρ = fun S => .ok (.dat (.lst (bits.map D.int))) S) (h3 : aC 3 ρ = fun S => .ok (.dat (.int (ex : Int))) S) :
  Lh [("bodies", (aC 0)), ("bits", (m1 (oR true) (aC 2))), ("extra", (aC 3)), ("taken", (mC (.int 0))), ("way", (mC (.int 0))), ("deeds", (cS true aJ)), ("opens", (cS true aJ))] ρ S0 = .ok (.cel (S0.length + 3)) (S0 ++ [.lst (bits.map D.int), .lst [], .lst [], .dct [("bodies", .dat (.lst (bls bs))), ("bits", .cel S0.length), ("extra", .dat (.int (ex : Int))), ("taken", .dat (.int 0)), ("way", .dat (.int 0)), ("deeds", .cel (S0.length + 1)), ("opens", .cel (S0.length + 2))]]) := by
 have e : mH [("bodies", (aC 0)), ("bits", (m1 (oR true) (aC 2))), ("extra", (aC 3)), ("taken", (mC (.int 0))), ("way", (mC (.int 0))), ("deeds", (cS true aJ)), ("opens", (cS true aJ))] ρ S0 = .ok [("bodies", .dat (.lst (bls bs))), ("bits", .cel S0.length), ("extra", .dat (.int (ex : Int))), ("taken", .dat (.int 0)), ("way", .dat (.int 0)), ("deeds", .cel (S0.length + 1)), ("opens", .cel (S0.length + 2))] (S0 ++ [.lst (bits.map D.int), .lst [], .lst []]) := by
  have h2' : ∀ S, m1 (oR true) (aC 2) ρ S = .ok (.cel S.length) (S ++ [.lst (bits.map D.int)]) := fun S => by
   show ((aC 2 ρ) S).bind _ = _
   rw [h2];rfl
  have hl : ∀ S, cS true aJ ρ S = .ok (.cel S.length) (S ++ [.lst []]) := fun S => rfl
  have hc : ∀ (d : D) S, mC d ρ S = .ok (.dat d) S := fun d S => rfl
  simp only [mH, h0, h2', h3, hl, hc, Res.bind, bL, aL, bF, dN, cH, bQ]
 unfold Lh;rw [e];dsimp only;rw [if_pos ⟨by
  show (["bodies", "bits", "extra", "taken", "way", "deeds", "opens"] : List Str).Nodup
  decide +kernel, by simp⟩]
 simp
def UF (n : Nat) (bs : List (List Stt)) (bits : List Int) (ex : Nat) : List (Str × Vl) := [("bodies", .dat (.lst (bls bs))), ("bits", .cel n), ("extra", .dat (.int (ex : Int))), ("taken", .dat (.int 0)), ("way", .dat (.int 0)), ("deeds", .cel (n + 1)), ("opens", .cel (n + 2))]
theorem NJ {ρ : Ev} : vX ρ (.dat (.lst [.tup [.str "call", .int (p : Int), .bl false, .lst [.lst [], .lst []]]])) (lv S0) (.dat (.str "todo")) (S0 ++ [.lst (bits.map D.int), .lst [], .lst [], .dct [("bodies", .dat (.lst (bls bs))), ("bits", .cel S0.length), ("extra", .dat (.int (ex : Int))), ("taken", .dat (.int 0)), ("way", .dat (.int 0)), ("deeds", .cel (S0.length + 1)), ("opens", .cel (S0.length + 2))]]) = .next ρ (eJ S0 bs (fE p bits ex)) := by
 have hd : (S0 ++ [Cell.lst (bits.map D.int), .lst [], .lst [], .dct (UF S0.length bs bits ex)])[S0.length + 3]? = some (.dct (UF S0.length bs bits ex)) := by
  rw [bD (by omega), show S0.length + 3 - S0.length = 3 by omega]; rfl
 unfold vX;rw [show ([("bodies", .dat (.lst (bls bs))), ("bits", .cel S0.length), ("extra", .dat (.int (ex : Int))), ("taken", .dat (.int 0)), ("way", .dat (.int 0)), ("deeds", .cel (S0.length + 1)), ("opens", .cel (S0.length + 2))] : List (Str × Vl)) = UF S0.length bs bits ex from rfl]
 rw [Az hd (by show 7 < 1000; decide) (by show (["bodies", "bits", "extra", "taken", "way", "deeds", "opens"] : List Str).Nodup; decide +kernel)]
 rw [dM _ _ (by omega), show S0.length + 3 - S0.length = 3 by omega]
 rfl
def jB (x : LF) (S : aO) : Res Vl := match x with
 | .fin m => if m.taken < m.bits.length then .ok (.dat (mV "rest" (m.taken : Int) m)) S else .ok (.dat (mV "run" m.way m)) S
 | .long _ => .ok (.dat (.tup [.str "long", .int 0, .lst [], .lst []])) S
 | .never m => .ok (.dat (mV "never" (-2) m)) S
 | .short m => .ok (.dat (mV "short" (m.bits.length : Int) m)) S
 | .no _ => .stuck
theorem nI {T S : aO} {d : D} {n : Nat} (ls : LS S) (h : T.take n = S) : trunc n (.ok (.dat d) T) = .ok (.dat d) S := by
 unfold trunc;dsimp only;rw [h, show (Vl.below n (Vl.dat d) && S.all fun c => c.below n) = true by rw [show (S.all fun c => c.below n) = true from bT.mpr fun c hc => ls c hc n]; rfl, if_pos rfl]
theorem Qc {many : Int} (ls : LS S0) (hm : many <= 9) (hB : ∀ b ∈ bs, BG many b) (hp : (p : Int) < many) (hb : ∀ b ∈ bits, b = 0 \/ b = 1) (hl : bits.length < 40000) (hn : ∀ m, cW bs 3000 (fE p bits ex) ≠ .no m) :
  wV [.dat (.lst (bls bs)), .dat (.int (p : Int)), .dat (.lst (bits.map D.int)), .dat (.int (ex : Int))] S0 = jB (cW bs 3000 (fE p bits ex)) S0 := by
 have lp := GU (S0 := S0) (a0 := some (.dat (.lst (bls bs)))) (a1 := some (.dat (.int (p : Int)))) (a2 := some (.dat (.lst (bits.map D.int)))) (a3 := some (.dat (.int (ex : Int)))) hm hB 3000 0 (fE p bits ex) (Eh hp hb hl (by decide))
 have e0 := Oz (S0 := S0) (bs := bs) (bits := bits) (ex := ex) (ρ := [some (.dat (.lst (bls bs))), some (.dat (.int (p : Int))), some (.dat (.lst (bits.map D.int))), some (.dat (.int (ex : Int))), none, none, none, none]) rfl rfl rfl;have hr : ∀ {S : aO}, Cq (.dat (.int 3000)) S = .ok (gK 0 3000) S := fun {S} => by rw [gT (by decide) (by decide)]; rfl
 rw [SN];unfold Bz;simp! [tH, e0, NJ, hr]
 revert hn lp
 cases q : cW bs 3000 (fE p bits ex) with
 | no m => intro hn; exact absurd rfl (hn m)
 | never m =>
  intro _ lp;obtain ⟨S', h1, h2⟩ := lp;simp! [tH, h1];exact nI ls h2
 | short m =>
  intro _ lp;obtain ⟨S', h1, h2⟩ := lp;simp! [tH, h1];exact nI ls h2
 | long m =>
  intro _ lp;obtain ⟨h1, h2⟩ := lp;simp! [tH, h2, tY, aP, decide_eq_true (show (0 : Int) < (m.todo.length : Int) by have := List.length_pos_iff.mpr h1; omega)]
  exact nI ls zV
 | fin m =>
  intro _ lp;have lp' : _ = _ := lp;have ht : m.todo = [] := by
   have : ∀ (n : Nat) (m0 : Lm), cW bs n m0 = .fin m -> m.todo = [] := by
    intro n
    induction n with
    | zero =>
     intro m0 h;unfold cW at h;split at h
     ·cases h; assumption
     ·cases h
    | succ n ih =>
     intro m0 h;unfold cW at h;split at h
     ·cases h; assumption
     ·split at h
      ·exact ih _ h
      ·split at h <;> cases h
      ·cases h
   exact this _ _ q
  have lgb : ∀ {c : Cell}, dF (lv S0) (.dat (.str "bits")) ((eJ S0 bs m).set (S0.length + 1) c) = .ok (.cel S0.length) ((eJ S0 bs m).set (S0.length + 1) c) := mQ (by rw [aW, if_neg (by omega)]; exact kK) rfl
  by_cases hr : m.taken < m.bits.length
  ·simp! [tH, lp', tY, ht, bI, mK, zZ, qJ nW, aP, decide_eq_true (show (m.taken : Int) < (m.bits.length : Int) by omega), oM, nO qH, lgb, nO zY]
   unfold jB;dsimp only;rw [if_pos hr];exact nI ls (by rw [take_set (by omega), take_set (by omega), zV])
  ·simp! [tH, lp', tY, ht, bI, mK, zZ, qJ nW, aP, decide_eq_false (show ¬ (m.taken : Int) < (m.bits.length : Int) by omega), UI, oM, nO qH, lgb, nO zY]
   unfold jB;dsimp only;rw [if_neg hr];exact nI ls (by rw [take_set (by omega), take_set (by omega), zV])
end
def lW (q : Nat) : Option fY -> fY
 | none => ((q : Int), false, [], [])
 | some c => c
def flat : List Task -> List LT
 | [] => []
 | .lst l i :: r => gR (l.drop i) ++ flat r
 | .close :: r => .shut :: flat r
 | .again b :: r => .st (.again b) :: flat r
 | .call q st :: r => .out (lW q st) 0 :: flat r
def callsOf : List Task -> List Nat
 | [] => []
 | .call q _ :: r => q :: callsOf r
 | _ :: r => callsOf r
def Pm (p : Nat) : List Task -> Prop
 | [] => False
 | .call q none :: r => r = [] /\ q = p
 | .call _ (some _) :: r => Pm p r
 | .lst _ _ :: r => Pm p r
 | .close :: r => Pm p r
 | .again _ :: r => Pm p r
def uY (n : Nat) (os : List (Nat × Nat)) : List (List Nat) := (aX n).map fun q => (os.filter fun o => o.1 == q).map (·.2)
theorem lT {n q : Nat} {os : List (Nat × Nat)} (h : q < n) : (uY n os)[q]? = some ((os.filter fun o => o.1 == q).map (·.2)) := by
 rw [uY, cM, lJ h];rfl
theorem qA {n : Nat} {os : List (Nat × Nat)} : (uY n os).length = n := by simp [uY]
theorem ML {n q t : Nat} {os : List (Nat × Nat)} {a : List Nat} (h : q < n) : (uY n ((q, t) :: os)).set q ((os.filter fun o => o.1 == q).map (·.2)) = uY n os := by
 apply gQ
 intro i;rw [aW]
 by_cases e : q = i
 ·subst e
  rw [if_pos rfl, if_pos (by rw [qA]; exact h), lT h]
 ·rw [if_neg e]
  by_cases hi : i < n
  ·rw [lT hi, lT hi, nF (by simpa using e)]
  ·rw [dC (by rw [qA]; omega), dC (by rw [qA]; omega)]
theorem DW {n q t : Nat} {os : List (Nat × Nat)} (h : q < n) : uY n ((q, t) :: os) = (uY n os).set q (t :: (os.filter fun o => o.1 == q).map (·.2)) := by
 apply gQ
 intro i;rw [aW]
 by_cases e : q = i
 ·subst e
  rw [if_pos rfl, if_pos (by rw [qA]; exact h), lT h, nE (by simp)]
  rfl
 ·rw [if_neg e]
  by_cases hi : i < n
  ·rw [lT hi, lT hi, nF (by simpa using e)]
  ·rw [dC (by rw [qA]; omega), dC (by rw [qA]; omega)]
structure Sim (bs : List (List Stt)) (B : List Int) (p : Nat) (m : Lm) (c : Mc) : Prop where
 hbs : c.bs = bs
 bits : c.bits = B
 taken : c.taken = m.taken
 deeds : c.deeds = m.deeds
 todo : m.todo = flat c.stk
 calls : callsOf c.stk = m.opens.map Prod.fst
 act : c.act = uY bs.length m.opens
 lt : ∀ o ∈ m.opens, o.1 < bs.length
 srt : m.opens.Pairwise fun a b => b.2 <= a.2
 le : ∀ o ∈ m.opens, o.2 <= m.taken
 bot : Pm p c.stk \/ (c.stk = [] /\ c.ended = m.way)
def Goes (j : Nat) (c c' : Mc) : Prop := ∀ n, runM (n + j) c = runM n c'
theorem Goes.refl {c : Mc} : Goes 0 c c := fun n => rfl
theorem Goes.step {c c' : Mc} (hs : c.stk ≠ []) (h : eO c = .ok c') : Goes 1 c c' := fun n => by
 rw [runM];cases e : c.stk with
 | nil => exact absurd e hs
 | cons t r => dsimp only; rw [h]
theorem Goes.trans {i j : Nat} {a b c : Mc} (h : Goes i a b) (k : Goes j b c) : Goes (i + j) a c := fun n => by
 rw [show n + (i + j) = (n + j) + i by omega, h, k]
def SJ : List Task -> Prop
 | .lst l i :: _ => i < l.length
 | _ => True
theorem settle {bs : List (List Stt)} {B : List Int} {p : Nat} {m : Lm} : ∀ (stk : List Task) (c : Mc), c.stk = stk -> Sim bs B p m c -> ∃ j c', Goes j c c' /\ Sim bs B p m c' /\ j + c'.stk.length <= stk.length /\ SJ c'.stk
 | [], c, e, s => ⟨0, c, Goes.refl, s, by rw [e]; simp, by rw [e]; trivial⟩
 | .close :: r, c, e, s => ⟨0, c, Goes.refl, s, by rw [e]; simp, by rw [e]; trivial⟩
 | .again b :: r, c, e, s => ⟨0, c, Goes.refl, s, by rw [e]; simp, by rw [e]; trivial⟩
 | .call q st :: r, c, e, s => ⟨0, c, Goes.refl, s, by rw [e]; simp, by rw [e]; trivial⟩
 | .lst l i :: r, c, e, s => by
  by_cases hi : i < l.length
  ·exact ⟨0, c, Goes.refl, s, by rw [e]; simp, by rw [e]; exact hi⟩
  ·have st : eO c = .ok { c with stk := r } := by
    unfold eO;rw [e];dsimp only;rw [dC (by omega)]
   have s' : Sim bs B p m { c with stk := r } := ⟨s.hbs, s.bits, s.taken, s.deeds, by
    have := s.todo;rw [e] at this;simp only [flat] at this;rw [Ja (by omega)] at this
    exact this, by have := s.calls; rw [e] at this; exact this, s.act, s.lt, s.srt, s.le, by
    rcases s.bot with h | ⟨h, _⟩
    ·rw [e] at h; exact .inl h
    ·rw [e] at h; cases h⟩
   obtain ⟨j, c', h1, h2, h3, h4⟩ := settle r _ rfl s';exact ⟨1 + j, c', (Goes.step (by rw [e]; simp) st).trans h1, h2, by simp; omega, h4⟩
theorem yW {p : Nat} : ∀ (stk : List Task) (d0 : List Deed), Pm p stk -> ∃ ds q st r, yR stk d0 = some (d0 ++ ds, q, st, r) /\ kN (flat stk) = some (ds, lW q st, flat r) /\ callsOf stk = q :: callsOf r /\ (st = none -> r = []) /\ (st ≠ none -> Pm p r) /\ r.length < stk.length
 | [], d0, h => h.elim
 | .close :: r, d0, h => by
  obtain ⟨ds, q, st, r', h1, h2, h3, h4, h5, h6⟩ := yW r (d0 ++ [.cl]) h;refine ⟨.cl :: ds, q, st, r', by rw [yR, h1]; simp, by rw [flat, kN, h2], h3, h4, h5, by simp; omega⟩
 | .again b :: r, d0, h => by
  obtain ⟨ds, q, st, r', h1, h2, h3, h4, h5, h6⟩ := yW r d0 h;exact ⟨ds, q, st, r', h1, by rw [flat, kN]; exact h2, h3, h4, h5, by simp; omega⟩
 | .lst l i :: r, d0, h => by
  obtain ⟨ds, q, st, r', h1, h2, h3, h4, h5, h6⟩ := yW r d0 h;refine ⟨ds, q, st, r', h1, ?_, h3, h4, h5, by simp; omega⟩
  rw [flat];have : ∀ l : List Stt, kN (gR l ++ flat r) = kN (flat r) := by
   intro l
   induction l with
   | nil => rfl
   | cons s l ih => exact ih
  rw [this];exact h2
 | .call q none :: r, d0, h => by
  obtain ⟨rfl, rfl⟩ := h;exact ⟨[], q, none, [], by simp [yR], rfl, rfl, fun _ => rfl, fun h => absurd rfl h, by simp⟩
 | .call q (some c) :: r, d0, h => ⟨[], q, some c, r, by simp [yR], rfl, rfl, fun h => (by cases h), fun _ => h, by simp⟩
def LF.bits : LF -> List Int
 | .fin m => m.bits
 | .long m => m.bits
 | .never m => m.bits
 | .short m => m.bits
 | .no m => m.bits
theorem Mn {bs : List (List Stt)} {t : LT} {m m' : Lm} {blk : List LT} (h : cQ bs t m = .ok blk m') : ∃ x, m'.bits = m.bits ++ x := by
 have nil : ∀ {m' : Lm}, m'.bits = m.bits -> ∃ x, m'.bits = m.bits ++ x := fun h => ⟨[], by simp [h]⟩
 have lb : ∀ {s : Stt} {b : Int} {m' : Lm}, uA s m = some (b, m') -> ∃ x, m'.bits = m.bits ++ x := fun h => by
  obtain ⟨_, _, _, _, _, _, x, hx, _⟩ := tZ h;exact ⟨x, hx⟩
 cases t with
 | shut => cases h; exact nil rfl
 | out c w =>
  unfold cQ at h;dsimp only at h;split at h
  ·cases h; exact nil rfl
  ·cases h
 | st s =>
  cases s with
  | bad => cases h
  | odd x => cases h
  | cmd c => cases h; exact nil rfl
  | keep b => cases h; exact nil rfl
  | either x y =>
   unfold cQ at h;dsimp only at h;split at h
   ·cases h
   ·rename_i q; cases h; exact lb q
  | again b =>
   unfold cQ at h;dsimp only at h;split at h
   ·cases h
   ·rename_i q; cases h; exact lb q
  | call g f x y =>
   unfold cQ at h;dsimp only at h;split at h
   ·cases h
   ·split at h
    ·cases h; exact nil rfl
    ·cases h
  | fin w =>
   unfold cQ at h;dsimp only at h;split at h
   ·cases h; exact nil rfl
   ·cases h
theorem H9 {bs : List (List Stt)} {t : LT} {m m' : Lm} (h : cQ bs t m = .non m') : m' = m := by
 cases t with
 | shut => cases h
 | out c w =>
  unfold cQ at h;dsimp only at h;split at h <;> cases h
 | st s =>
  cases s with
  | bad => cases h
  | odd x => cases h
  | cmd c => cases h
  | keep b => cases h
  | either x y =>
   unfold cQ at h;dsimp only at h;split at h
   ·cases h; rfl
   ·cases h
  | again b =>
   unfold cQ at h;dsimp only at h;split at h
   ·cases h; rfl
   ·cases h
  | call g f x y =>
   unfold cQ at h;dsimp only at h;split at h
   ·cases h; rfl
   ·split at h <;> cases h
  | fin w =>
   unfold cQ at h;dsimp only at h;split at h <;> cases h
theorem Jn {bs : List (List Stt)} : ∀ (k : Nat) (m : Lm), ∃ x, (cW bs k m).bits = m.bits ++ x
 | 0, m => by
  unfold cW
  split <;> exact ⟨[], by simp [LF.bits]⟩
 | k + 1, m => by
  unfold cW;cases e : m.todo with
  | nil => exact ⟨[], by simp [LF.bits]⟩
  | cons t r =>
   dsimp only;cases q : cQ bs t { m with todo := r } with
   | no => exact ⟨[], by simp [LF.bits]⟩
   | non m' =>
    dsimp only;have := H9 q;subst this
    split <;> exact ⟨[], by simp [LF.bits]⟩
   | ok blk m' =>
    obtain ⟨x, hx⟩ := Mn q;obtain ⟨y, hy⟩ := Jn k { m' with todo := blk ++ m'.todo }
    refine ⟨x ++ y, ?_⟩
    dsimp only;rw [hy];dsimp only at hx ⊢;rw [hx, dN]
def Ends : LF -> SR -> Prop
 | .fin m', r => ∃ c', r = .ok c' /\ c'.taken = m'.taken /\ c'.deeds = m'.deeds /\ c'.ended = m'.way
 | .long _, _ => True
 | .never _, r => ∃ c', r = .err (-2) c'
 | .short m', r => ∃ c', r = .err (m'.bits.length : Int) c'
 | .no _, _ => False
section
variable {bs : List (List Stt)} {B : List Int} {p : Nat} {many : Int}
theorem EZ {m : Lm} {c : Mc} {q t : Nat} {os : List (Nat × Nat)} {st : Option fY} {w : Int} (h1 : c.bs = bs) (h2 : c.bits = B) (h3 : c.taken = m.taken) (h4 : c.deeds = m.deeds) (h5 : m.todo = flat c.stk) (h6 : callsOf c.stk = os.map Prod.fst) (ho : m.opens = (q, t) :: os) (h7 : c.act = uY bs.length m.opens) (h8 : ∀ o ∈ m.opens, o.1 < bs.length) (h9 : m.opens.Pairwise fun a b => b.2 <= a.2) (h10 : ∀ o ∈ m.opens, o.2 <= m.taken) (h11 : st = none -> c.stk = []) (h12 : st ≠ none -> Pm p c.stk) :
  ∃ a, c.act[q]? = some (t :: a) /\ Sim bs B p { m with opens := os, way := w, deeds := m.deeds ++ (if (lW q st).2.1 then [.cl] else []), todo := gR (if w = 0 then (lW q st).2.2.1 else (lW q st).2.2.2) ++ m.todo } (c.leave q a st w) /\ (c.leave q a st w).stk.length <= c.stk.length + 1 := by
 have hq : q < bs.length := h8 (q, t) (by rw [ho]; exact aV ..)
 have hac : c.act[q]? = some (t :: (os.filter fun o => o.1 == q).map (·.2)) := by
  rw [h7, ho, lT hq, nE (by simp)]
  rfl
 have hset : c.act.set q ((os.filter fun o => o.1 == q).map (·.2)) = uY bs.length os := by rw [h7, ho, ML (a := []) hq]
 have hlt : ∀ o ∈ os, o.1 < bs.length := fun o h => h8 o (by rw [ho]; exact aK _ h)
 have hsr : os.Pairwise fun a b => b.2 <= a.2 := by rw [ho] at h9; exact (BJ.mp h9).2
 have hle : ∀ o ∈ os, o.2 <= m.taken := fun o h => h10 o (by rw [ho]; exact aK _ h)
 refine ⟨_, hac, ?_, ?_⟩
 ·cases st with
  | none =>
   have hn := h11 rfl;refine ⟨h1, h2, h3, ?_, ?_, h6, hset, hlt, hsr, hle, .inr ⟨hn, rfl⟩⟩
   ·simp [Mc.leave, lW, h4]
   ·simp [Mc.leave, lW, h5, gR]
  | some k =>
   have hb := h12 (by simp)
   refine ⟨h1, h2, h3, ?_, ?_, ?_, hset, hlt, hsr, hle, .inl hb⟩
   ·simp only [Mc.leave, lW, h4]; rfl
   ·simp only [Mc.leave, lW, flat, List.drop_zero, h5]
   ·simp only [Mc.leave, callsOf, h6]
 ·cases st with
  | none => simp [Mc.leave]
  | some k => simp [Mc.leave]
theorem Br {c c' : Mc} {i : Int} (hs : c.stk ≠ []) (h : eO c = .err i c') : runM 1 c = .err i c' := by
 rw [runM];cases e : c.stk with
 | nil => exact absurd e hs
 | cons t r => dsimp only; rw [h]
theorem As {s : Stt} {m : Lm} (ht : m.taken <= m.bits.length) (h : uA s m = none) : m.taken = m.bits.length := by
 unfold uA at h;split at h
 ·assumption
 ·split at h
  ·cases h
  ·rename_i q
   have := gO.mp q;omega
theorem drop_cons {l : List Stt} {i : Nat} {s : Stt} (h : l[i]? = some s) : l.drop i = s :: l.drop (i + 1) := by
 have hl := (aI.mp h).1;rw [tE hl]
 congr 1
 exact (aI.mp h).2
theorem G6 {k : Nat} {s : Stt} {m m' : Lm} {b : Int} {blk : List LT} (h : uA s m = some (b, m')) (hB : (cW bs k { m' with todo := blk ++ m'.todo }).bits = B) : B[m.taken]? = some b := by
 obtain ⟨_, _, _, _, _, h6, _⟩ := tZ h;obtain ⟨y, hy⟩ := Jn (bs := bs) k { m' with todo := blk ++ m'.todo }
 rw [hB] at hy;dsimp only at hy;rw [hy, aN (aI.mp h6).1];exact h6
theorem Sim.ask {s : Stt} {m m' : Lm} {c : Mc} {b : Int} {stk : List Task} {blk : List LT} (S : Sim bs B p m c) (h : uA s { m with todo := td } = some (b, m')) (hf : blk ++ td = flat stk) (hc : callsOf stk = callsOf c.stk) (hbot : Pm p stk) : Sim bs B p { m' with todo := blk ++ m'.todo } { c with taken := c.taken + 1, stk := stk } := by
 obtain ⟨h1, h2, h3, h4, h5, _, _⟩ := tZ h;dsimp only at h1 h2 h3 h4 h5;refine ⟨S.hbs, S.bits, ?_, ?_, ?_, ?_, ?_, ?_, ?_, ?_, .inl hbot⟩
 ·dsimp only; rw [h5, S.taken]
 ·dsimp only; rw [h2, S.deeds]
 ·dsimp only; rw [h1, hf]
 ·dsimp only; rw [hc, h3, S.calls]
 ·dsimp only; rw [h3, S.act]
 ·dsimp only; rw [h3]; exact S.lt
 ·dsimp only; rw [h3]; exact S.srt
 ·dsimp only; rw [h3, h5]; exact fun o ho => Nat.le_succ_of_le (S.le o ho)
theorem head_mem {m : Lm} {g : Nat} (hg : g < bs.length) (srt : m.opens.Pairwise fun a b => b.2 <= a.2) (le : ∀ o ∈ m.opens, o.2 <= m.taken) : ((m.opens.filter fun o => o.1 == g).map (·.2)).head? = some m.taken ↔ (g, m.taken) ∈ m.opens := by
 constructor
 ·intro h
  cases e : m.opens.filter fun o => o.1 == g with
  | nil => rw [e] at h; cases h
  | cons o r =>
   rw [e] at h;simp at h;have hm : o ∈ m.opens.filter fun o => o.1 == g := by rw [e]; exact aV ..
   obtain ⟨h1, h2⟩ := Dy.mp hm;have h2 : o.1 = g := by simpa using h2
   obtain ⟨a, b⟩ := o;simp only at h h2;subst h2 h;exact h1
 ·intro h
  have hm : (g, m.taken) ∈ m.opens.filter fun o => o.1 == g := Dy.mpr ⟨h, by simp⟩
  have hp := List.Pairwise.filter (fun o => o.1 == g) srt
  cases e : m.opens.filter fun o => o.1 == g with
  | nil => rw [e] at hm; cases hm
  | cons o r =>
   rw [e] at hm hp;have ho : o ∈ m.opens := (Dy.mp (show o ∈ m.opens.filter fun o => o.1 == g by rw [e]; exact aV ..)).1
   have h1 := le o ho;have h2 : m.taken <= o.2 := by
    rcases bJ.mp hm with h | h
    ·rw [<- h]; exact bX _
    ·exact (BJ.mp hp).1 _ h
   simp;omega
theorem Q4 (hm : (bs.length : Int) = many) (hG : ∀ b ∈ bs, BG many b) : ∀ (k : Nat) (m : Lm) (c : Mc), Sim bs B p m c -> m.Inv many k -> (cW bs k m).bits = B -> ∃ j, j <= 4 * k + c.stk.length + 1 /\ Ends (cW bs k m) (runM j c) := by
 intro k
 induction k using Nat.strongRecOn with
 | ind k ih =>
 intro m c S0 I hB;obtain ⟨j0, c1, g1, S, l1, st1⟩ := settle _ c rfl S0
 suffices h : ∃ j, j <= 4 * k + c1.stk.length + 1 /\ Ends (cW bs k m) (runM j c1) by
  obtain ⟨j, h1, h2⟩ := h;exact ⟨j + j0, by omega, by rw [g1]; exact h2⟩
 clear g1 S0 l1;cases hs : c1.stk with
 | nil =>
  have ht : m.todo = [] := by rw [S.todo, hs]; rfl
  have hl : cW bs k m = .fin m := by
   cases k with
   | zero => unfold cW; rw [if_pos ht]
   | succ k => unfold cW; rw [ht]
  rcases S.bot with h | ⟨_, h⟩
  ·rw [hs] at h; exact h.elim
  ·refine ⟨1, by omega, ?_⟩
   rw [hl];refine ⟨c1, ?_, S.taken, S.deeds, h⟩
   rw [runM, hs]
 | cons t r =>
  have hne : c1.stk ≠ [] := by rw [hs]; simp
  have hbot : Pm p (t :: r) := by
   rcases S.bot with h | ⟨h, _⟩
   ·rw [hs] at h; exact h
   ·exact absurd h hne
  rw [hs] at st1;have htd := S.todo;have hcl := S.calls;rw [hs] at htd hcl
  -- with no turn left nothing is asked
  cases k with
  | zero =>
   have : m.todo ≠ [] := by
    rw [htd];cases t with
    | lst l i =>
     rw [flat];intro h;have := (List.append_eq_nil_iff.mp h).1;have h2 : (gR (l.drop i)).length = 0 := by rw [this]; rfl
     rw [wQ, pC] at h2;have : i < l.length := st1;omega
    | _ => simp [flat]
   refine ⟨0, by omega, ?_⟩
   unfold cW;rw [if_neg this]
   trivial
  | succ k =>
   -- one step of the machine, one turn of the law
   have go : ∀ {m2 : Lm} {c2 : Mc} {i : Nat}, Goes i c1 c2 -> Sim bs B p m2 c2 -> m2.Inv many k -> (cW bs k m2).bits = B -> i + c2.stk.length <= (t :: r).length + 4 -> ∃ j, j <= 4 * (k + 1) + (t :: r).length + 1 /\ Ends (cW bs k m2) (runM j c1) := fun {m2 c2 i} g s2 i2 b2 hi => by
    obtain ⟨j, h1, h2⟩ := ih k (by omega) m2 c2 s2 i2 b2
    exact ⟨j + i, by omega, by rw [g]; exact h2⟩
   cases t with
   | close =>
    rw [flat] at htd;have I2 := gH (t := .shut) hG (I.pop htd).1 trivial rfl;have hlr : cW bs (k + 1) m = cW bs k { m with todo := flat r, deeds := m.deeds ++ [.cl] } := by
     rw [cW, htd];rfl
    rw [hlr] at hB ⊢;have e : eO c1 = .ok { c1 with stk := r, deeds := c1.deeds ++ [.cl] } := by unfold eO; rw [hs]
    exact go (Goes.step hne e) ⟨S.hbs, S.bits, S.taken, by dsimp only; rw [S.deeds], rfl, hcl, S.act, S.lt, S.srt, S.le, .inl hbot⟩ I2 hB (by simp; omega)
   | call q st =>
    rw [flat] at htd;cases ho : m.opens with
    | nil => rw [ho] at hcl; cases hcl
    | cons o os =>
     obtain ⟨q', t'⟩ := o;rw [ho] at hcl;simp only [callsOf, aM, List.cons.injEq] at hcl;obtain ⟨rfl, hcl⟩ := hcl;obtain ⟨a, h1, h2, h3⟩ := EZ (p := p) (c := { c1 with stk := r }) (m := { m with todo := flat r }) (q := q) (t := t') (os := os) (st := st) (w := 0) S.hbs S.bits S.taken S.deeds rfl hcl ho S.act S.lt S.srt S.le (fun h => by subst h; exact hbot.1) (fun h => by cases st with
      | none => exact absurd rfl h
      | some z => exact hbot)
     have tq : cQ bs (.out (lW q st) 0) { m with todo := flat r } = .ok (gR (if (0 : Int) = 0 then (lW q st).2.2.1 else (lW q st).2.2.2)) { m with todo := flat r, opens := os, way := 0, deeds := m.deeds ++ (if (lW q st).2.1 then [.cl] else []) } := by
      unfold cQ;dsimp only;rw [ho]
     have I2 := gH hG (I.pop htd).1 (I.pop htd).2 tq;have hlr : cW bs (k + 1) m = cW bs k { m with opens := os, way := 0, deeds := m.deeds ++ (if (lW q st).2.1 then [.cl] else []), todo := gR (if (0 : Int) = 0 then (lW q st).2.2.1 else (lW q st).2.2.2) ++ flat r } := by
      rw [cW, htd];dsimp only;rw [tq]
     rw [hlr] at hB ⊢;have e : eO c1 = .ok (({ c1 with stk := r } : Mc).leave q a st 0) := by
      unfold eO;rw [hs];dsimp only;rw [show c1.act[q]? = some (t' :: a) from h1]
     exact go (Goes.step hne e) h2 I2 hB (by simp at h3 ⊢; omega)
   | again b =>
    rw [flat] at htd;have hIp := I.pop htd;have hon := hIp.2;cases ql : uA (.again b) { m with todo := flat r } with
    | none =>
     have tq : cQ bs (.st (.again b)) { m with todo := flat r } = .non { m with todo := flat r } := by unfold cQ; dsimp only; rw [ql]
     have hlr : cW bs (k + 1) m = .short { m with todo := flat r } := by
      rw [cW, htd];dsimp only;rw [tq];rfl
     rw [hlr] at hB ⊢;have htk := As (m := { m with todo := flat r }) I.t ql
     have hbn : B = m.bits := hB.symm;have e : eO c1 = .err (c1.taken : Int) { c1 with stk := r } := by
      unfold eO;rw [hs];dsimp only;rw [S.bits, S.taken, hbn, dC (by dsimp only at htk; omega)]
     refine ⟨1, by omega, ?_⟩
     rw [Br hne e];exact ⟨_, by rw [S.taken, show m.taken = m.bits.length from htk]⟩
    | some z =>
     obtain ⟨x, m'⟩ := z;have hbit := Co hIp.1.fit ql;have tq : cQ bs (.st (.again b)) { m with todo := flat r } = .ok (if x = 0 then [] else gR b ++ [.st (.again b)]) m' := by unfold cQ; dsimp only; rw [ql]
     have I2 := gH hG hIp.1 hIp.2 tq;have hlr : cW bs (k + 1) m = cW bs k { m' with todo := (if x = 0 then [] else gR b ++ [.st (.again b)]) ++ m'.todo } := by
      rw [cW, htd];dsimp only;rw [tq]
     rw [hlr] at hB ⊢;have hx := G6 ql hB;dsimp only at hx;rcases hbit with rfl | rfl
     ·have e : eO c1 = .ok { c1 with taken := c1.taken + 1, stk := r } := by
       unfold eO;rw [hs];dsimp only;rw [S.bits, S.taken, hx];rfl
      exact go (Goes.step hne e) (S.ask ql rfl (by rw [hs]; rfl) hbot) I2 hB (by simp; omega)
     ·have e : eO c1 = .ok { c1 with taken := c1.taken + 1, stk := .lst b 0 :: .again b :: r } := by
       unfold eO;rw [hs];dsimp only;rw [S.bits, S.taken, hx];rfl
      exact go (Goes.step hne e) (S.ask ql (by simp [flat]) (by rw [hs]; rfl) hbot) I2 hB (by simp; omega)
   | lst l i =>
    obtain ⟨s, hsi⟩ : ∃ s, l[i]? = some s := ⟨l[i]'st1, bO st1⟩;rw [flat, drop_cons hsi] at htd;have htd : m.todo = .st s :: (gR (l.drop (i + 1)) ++ flat r) := htd;have hIp := I.pop htd;have hon : SG many s := hIp.2;have hst : ∀ {x : SR}, hZ s { c1 with stk := .lst l (i + 1) :: r } = x -> eO c1 = x := fun {x} h => by
     unfold eO;rw [hs];dsimp only;rw [hsi];exact h
    have hbot' : Pm p (.lst l (i + 1) :: r) := hbot;cases s with
    | bad => obtain ⟨_, _, h, _⟩ := hon; exact h.elim
    | odd x => obtain ⟨_, _, h, _⟩ := hon; exact h.elim
    | cmd z =>
     have I2 := gH (t := .st (.cmd z)) hG hIp.1 hon rfl;have hlr : cW bs (k + 1) m = cW bs k { m with todo := gR (l.drop (i + 1)) ++ flat r, deeds := m.deeds ++ [.cmd z] } := by
      rw [cW, htd];rfl
     rw [hlr] at hB ⊢;exact go (Goes.step hne (hst rfl)) ⟨S.hbs, S.bits, S.taken, by dsimp only; rw [S.deeds], rfl, hcl, S.act, S.lt, S.srt, S.le, .inl hbot'⟩ I2 hB (by simp; omega)
    | keep b =>
     have I2 := gH (t := .st (.keep b)) hG hIp.1 hon rfl;have hlr : cW bs (k + 1) m = cW bs k { m with todo := (gR b ++ [.shut]) ++ (gR (l.drop (i + 1)) ++ flat r), deeds := m.deeds ++ [.op] } := by
      rw [cW, htd];rfl
     rw [hlr] at hB ⊢;exact go (Goes.step hne (hst rfl)) ⟨S.hbs, S.bits, S.taken, by dsimp only; rw [S.deeds], by simp [flat], hcl, S.act, S.lt, S.srt, S.le, .inl hbot'⟩ I2 hB (by simp; omega)
    | either x y =>
     cases ql : uA (.either x y) { m with todo := gR (l.drop (i + 1)) ++ flat r } with
     | none =>
      have tq : cQ bs (.st (.either x y)) { m with todo := gR (l.drop (i + 1)) ++ flat r } = .non { m with todo := gR (l.drop (i + 1)) ++ flat r } := by unfold cQ; dsimp only; rw [ql]
      have hlr : cW bs (k + 1) m = .short { m with todo := gR (l.drop (i + 1)) ++ flat r } := by
       rw [cW, htd];dsimp only;rw [tq];rfl
      rw [hlr] at hB ⊢;have htk := As (m := { m with todo := gR (l.drop (i + 1)) ++ flat r }) I.t ql
      have hbn : B = m.bits := hB.symm;have e : eO c1 = .err (c1.taken : Int) { c1 with stk := .lst l (i + 1) :: r } := hst (by
       unfold hZ;dsimp only;rw [S.bits, S.taken, hbn, dC (by dsimp only at htk; omega)])
      refine ⟨1, by omega, ?_⟩
      rw [Br hne e];exact ⟨_, by rw [S.taken, show m.taken = m.bits.length from htk]⟩
     | some z =>
      obtain ⟨b, m'⟩ := z;have tq : cQ bs (.st (.either x y)) { m with todo := gR (l.drop (i + 1)) ++ flat r } = .ok (gR (if b = 0 then x else y)) m' := by unfold cQ; dsimp only; rw [ql]
      have I2 := gH hG hIp.1 hIp.2 tq;have hlr : cW bs (k + 1) m = cW bs k { m' with todo := gR (if b = 0 then x else y) ++ m'.todo } := by
       rw [cW, htd];dsimp only;rw [tq]
      rw [hlr] at hB ⊢;have hx := G6 ql hB;dsimp only at hx;have e : eO c1 = .ok { c1 with taken := c1.taken + 1, stk := .lst (if b = 0 then x else y) 0 :: .lst l (i + 1) :: r } := hst (by
       unfold hZ;dsimp only;rw [S.bits, S.taken, hx])
      exact go (Goes.step hne e) (S.ask ql (by simp [flat]) (by rw [hs]; rfl) hbot') I2 hB (by simp; omega)
    | again b =>
     have g1 : Goes 1 c1 { c1 with stk := .again b :: .lst l (i + 1) :: r } := Goes.step hne (hst rfl)
     have hne2 : ({ c1 with stk := .again b :: .lst l (i + 1) :: r } : Mc).stk ≠ [] := by simp
     cases ql : uA (.again b) { m with todo := gR (l.drop (i + 1)) ++ flat r } with
     | none =>
      have tq : cQ bs (.st (.again b)) { m with todo := gR (l.drop (i + 1)) ++ flat r } = .non { m with todo := gR (l.drop (i + 1)) ++ flat r } := by unfold cQ; dsimp only; rw [ql]
      have hlr : cW bs (k + 1) m = .short { m with todo := gR (l.drop (i + 1)) ++ flat r } := by
       rw [cW, htd];dsimp only;rw [tq];rfl
      rw [hlr] at hB ⊢;have htk := As (m := { m with todo := gR (l.drop (i + 1)) ++ flat r }) I.t ql
      have hbn : B = m.bits := hB.symm;have e : eO { c1 with stk := .again b :: .lst l (i + 1) :: r } = .err (c1.taken : Int) { c1 with stk := .lst l (i + 1) :: r } := by
       unfold eO;dsimp only;rw [S.bits, S.taken, hbn, dC (by dsimp only at htk; omega)]
      refine ⟨1 + 1, by omega, ?_⟩
      rw [g1, Br hne2 e];exact ⟨_, by rw [S.taken, show m.taken = m.bits.length from htk]⟩
     | some z =>
      obtain ⟨x, m'⟩ := z;have hbit := Co hIp.1.fit ql;have tq : cQ bs (.st (.again b)) { m with todo := gR (l.drop (i + 1)) ++ flat r } = .ok (if x = 0 then [] else gR b ++ [.st (.again b)]) m' := by unfold cQ; dsimp only; rw [ql]
      have I2 := gH hG hIp.1 hIp.2 tq;have hlr : cW bs (k + 1) m = cW bs k { m' with todo := (if x = 0 then [] else gR b ++ [.st (.again b)]) ++ m'.todo } := by
       rw [cW, htd];dsimp only;rw [tq]
      rw [hlr] at hB ⊢;have hx := G6 ql hB;dsimp only at hx;rcases hbit with rfl | rfl
      ·have e : eO { c1 with stk := .again b :: .lst l (i + 1) :: r } = .ok { c1 with taken := c1.taken + 1, stk := .lst l (i + 1) :: r } := by
        unfold eO;dsimp only;rw [S.bits, S.taken, hx];rfl
       exact go (g1.trans (Goes.step hne2 e)) (S.ask ql (by simp [flat]) (by rw [hs]; rfl) hbot') I2 hB (by simp; omega)
      ·have e : eO { c1 with stk := .again b :: .lst l (i + 1) :: r } = .ok { c1 with taken := c1.taken + 1, stk := .lst b 0 :: .again b :: .lst l (i + 1) :: r } := by
        unfold eO;dsimp only;rw [S.bits, S.taken, hx];rfl
       exact go (g1.trans (Goes.step hne2 e)) (S.ask ql (by simp [flat]) (by rw [hs]; rfl) hbot') I2 hB (by simp; omega)
    | call g f x y =>
     obtain ⟨⟨g0, g1⟩, _⟩ := hon.call;have hgl : g.toNat < bs.length := by omega
     obtain ⟨b, hb⟩ : ∃ b, bs[g.toNat]? = some b := ⟨bs[g.toNat], bO hgl⟩;have hac : c1.act[g.toNat]? = some ((m.opens.filter fun o => o.1 == g.toNat).map (·.2)) := by rw [S.act, lT hgl]
     have hh := head_mem (m := m) hgl S.srt S.le
     by_cases hin : (g.toNat, m.taken) ∈ m.opens
     ·have tq : cQ bs (.st (.call g f x y)) { m with todo := gR (l.drop (i + 1)) ++ flat r } = .non { m with todo := gR (l.drop (i + 1)) ++ flat r } := by unfold cQ; dsimp only; rw [if_pos hin]
      have hlr : cW bs (k + 1) m = .never { m with todo := gR (l.drop (i + 1)) ++ flat r } := by
       rw [cW, htd];dsimp only;rw [tq];rfl
      rw [hlr];have e : eO c1 = .err (-2) { c1 with stk := .lst l (i + 1) :: r, deeds := c1.deeds ++ (if f then [.op] else []) } := hst (by
       unfold hZ;dsimp only;rw [hac, S.hbs, hb];dsimp only;rw [if_pos (by rw [S.taken]; exact hh.mpr hin)])
      exact ⟨1, by omega, _, Br hne e⟩
     ·have tq : cQ bs (.st (.call g f x y)) { m with todo := gR (l.drop (i + 1)) ++ flat r } = .ok (gR b ++ [.out (g, f, x, y) 0]) { m with todo := gR (l.drop (i + 1)) ++ flat r, opens := (g.toNat, m.taken) :: m.opens, deeds := m.deeds ++ (if f then [.op] else []) } := by
       unfold cQ;dsimp only;rw [if_neg hin, hb]
      have I2 := gH hG hIp.1 hIp.2 tq;have hlr : cW bs (k + 1) m = cW bs k { m with todo := (gR b ++ [.out (g, f, x, y) 0]) ++ (gR (l.drop (i + 1)) ++ flat r), opens := (g.toNat, m.taken) :: m.opens, deeds := m.deeds ++ (if f then [.op] else []) } := by
       rw [cW, htd];dsimp only;rw [tq]
      rw [hlr] at hB ⊢;have e : eO c1 = .ok (({ c1 with stk := .lst l (i + 1) :: r, deeds := c1.deeds ++ (if f then [.op] else []) } : Mc).enter g.toNat ((m.opens.filter fun o => o.1 == g.toNat).map (·.2)) b (some (g, f, x, y))) := hst (by
       unfold hZ;dsimp only;rw [hac, S.hbs, hb];dsimp only;rw [if_neg (by rw [S.taken]; exact fun h => hin (hh.mp h))])
      refine go (Goes.step hne e) ⟨S.hbs, S.bits, S.taken, by simp only [Mc.enter, S.deeds], by simp [Mc.enter, flat, lW], ?_, ?_, ?_, ?_, ?_, .inl hbot'⟩ I2 hB (by simp [Mc.enter]; omega)
      ·simp only [Mc.enter, callsOf, aM]
       rw [<- hcl];rfl
      ·simp only [Mc.enter]
       rw [DW hgl, S.act, S.taken]
      ·intro o ho
       rcases bJ.mp ho with rfl | ho
       ·exact hgl
       ·exact S.lt o ho
      ·exact BJ.mpr ⟨fun o ho => S.le o ho, S.srt⟩
      ·intro o ho
       rcases bJ.mp ho with rfl | ho
       ·exact bX _
       ·exact S.le o ho
    | fin w =>
     obtain ⟨ds, q, st, r', h1, h2, h3, h4, h5, h6⟩ := yW (p := p) (.lst l (i + 1) :: r) c1.deeds hbot';have h2' : kN (gR (l.drop (i + 1)) ++ flat r) = some (ds, lW q st, flat r') := h2;have tq : cQ bs (.st (.fin w)) { m with todo := gR (l.drop (i + 1)) ++ flat r } = .ok [.out (lW q st) w] { m with todo := flat r', deeds := m.deeds ++ ds } := by
      unfold cQ;dsimp only;rw [h2']
     have I2 := gH hG hIp.1 hIp.2 tq;have hlr : cW bs (k + 1) m = cW bs k { m with todo := .out (lW q st) w :: flat r', deeds := m.deeds ++ ds } := by
      rw [cW, htd];dsimp only;rw [tq];rfl
     rw [hlr] at hB ⊢;cases k with
     | zero =>
      refine ⟨0, by omega, ?_⟩
      unfold cW;rw [if_neg (by simp)]
      trivial
     | succ k =>
      have hcl' : callsOf (.lst l (i + 1) :: r) = m.opens.map Prod.fst := hcl;rw [h3] at hcl';obtain ⟨q', t', os, ho⟩ : ∃ q' t' os, m.opens = (q', t') :: os := by
       cases ho : m.opens with
       | nil => rw [ho] at hcl'; cases hcl'
       | cons o os => exact ⟨o.1, o.2, os, rfl⟩
      ·rw [ho] at hcl'
       simp only [aM, List.cons.injEq] at hcl';obtain ⟨rfl, hcl'⟩ := hcl';obtain ⟨a, e1, e2, e3⟩ := EZ (p := p) (c := { c1 with stk := r', deeds := c1.deeds ++ ds }) (m := { m with todo := flat r', deeds := m.deeds ++ ds }) (q := q) (t := t') (os := os) (st := st) (w := w) S.hbs S.bits S.taken (by dsimp only; rw [S.deeds]) rfl hcl' ho S.act S.lt S.srt S.le h4 h5
       have tq2 : cQ bs (.out (lW q st) w) { m with todo := flat r', deeds := m.deeds ++ ds } = .ok (gR (if w = 0 then (lW q st).2.2.1 else (lW q st).2.2.2)) { m with todo := flat r', opens := os, way := w, deeds := m.deeds ++ ds ++ (if (lW q st).2.1 then [.cl] else []) } := by
        unfold cQ;dsimp only;rw [ho]
       have I2' : ({ m with todo := .out (lW q st) w :: flat r', deeds := m.deeds ++ ds } : Lm).Inv many (k + 1) := I2
       have I3 := gH hG (I2'.pop rfl).1 (I2'.pop rfl).2 tq2;have hlr2 : cW bs (k + 1) { m with todo := .out (lW q st) w :: flat r', deeds := m.deeds ++ ds } = cW bs k { m with opens := os, way := w, deeds := m.deeds ++ ds ++ (if (lW q st).2.1 then [.cl] else []), todo := gR (if w = 0 then (lW q st).2.2.1 else (lW q st).2.2.2) ++ flat r' } := by
        rw [cW];dsimp only;rw [tq2]
       rw [hlr2] at hB ⊢;have e : eO c1 = .ok (({ c1 with stk := r', deeds := c1.deeds ++ ds } : Mc).leave q a st w) := hst (by
        unfold hZ;dsimp only;rw [h1];dsimp only;rw [show c1.act[q]? = some (t' :: a) from e1])
       obtain ⟨j, h7, h8⟩ := ih k (by omega) _ _ e2 I3 hB
       refine ⟨j + 1, ?_, by rw [Goes.step hne e]; exact h8⟩
       simp at h6 e3 h7 ⊢;omega
end
def nest : List LT -> Nat
 | [] => 0
 | .shut :: r => nest r + 1
 | .out c _ :: r => nest r + (if c.2.1 then 1 else 0)
 | .st _ :: r => nest r
theorem oJ {r : List LT} : ∀ {l : List Stt}, nest (gR l ++ r) = nest r
 | [] => rfl
 | s :: l => oJ (l := l)
structure Bal (n : Nat) (m : Lm) : Prop where
 len : m.deeds.length + nest m.todo <= n
 ok : ∀ d ∈ m.deeds, d.Ok
 nest : ∃ s, lG m.deeds ⟨unitM, []⟩ = some s /\ s.stk.length = nest m.todo
theorem uH : ∀ {a b : List Deed} {s : Ms}, lG (a ++ b) s = (lG a s).bind (lG b)
 | [], b, s => rfl
 | d :: a, b, s => by
  simp only [cH, lG];cases wC d s with
  | none => rfl
  | some s' => exact uH
theorem I6 : ∀ {n : Nat} {s : Ms}, n <= s.stk.length -> ∃ s', lG (bZ n Deed.cl) s = some s' /\ s'.stk.length + n = s.stk.length
 | 0, s, h => ⟨s, rfl, rfl⟩
 | n + 1, s, h => by
  obtain ⟨m, stk⟩ := s;cases stk with
  | nil => simp at h
  | cons P k =>
   obtain ⟨s', h1, h2⟩ := I6 (n := n) (s := ⟨rK P (rA m), k⟩) (by simpa using h)
   exact ⟨s', h1, by simp at h2 ⊢; omega⟩
theorem DP : ∀ {ts : List LT} {ds : List Deed} {c : fY} {r : List LT}, kN ts = some (ds, c, r) -> ds = bZ ds.length .cl /\ nest ts = ds.length + (nest r + (if c.2.1 then 1 else 0))
 | [], ds, c, r, h => by cases h
 | .out c' w :: q, ds, c, r, h => by cases h; exact ⟨rfl, by simp [nest]⟩
 | .shut :: q, ds, c, r, h => by
  simp only [kN] at h;cases e : kN q with
  | none => rw [e] at h; cases h
  | some x =>
   obtain ⟨ds', c', q'⟩ := x;rw [e] at h;cases h;obtain ⟨h1, h2⟩ := DP e;refine ⟨by rw [aL, List.replicate_succ, <- h1], ?_⟩
   simp only [nest, h2, aL];omega
 | .st s :: q, ds, c, r, h => DP (ts := q) h
theorem xA {N : Nat} {m : Lm} {n : Nat} {td : List LT} (b : Bal N m) (h : nest m.todo = n + nest td) : ({ m with deeds := m.deeds ++ bZ n .cl, todo := td } : Lm) |> Bal N := by
 obtain ⟨len, ok, s, h1, h2⟩ := b;obtain ⟨s', h3, h4⟩ := I6 (n := n) (s := s) (by omega)
 refine ⟨by simp; omega, fun d hd => ?_, s', by rw [uH, h1]; exact h3, by dsimp only; omega⟩
 rcases dH.mp hd with hd | hd
 ·exact ok d hd
 ·rw [(List.mem_replicate.mp hd).2]; trivial
theorem VT {N : Nat} {m : Lm} {f : Bool} {td : List LT} (b : Bal N m) (h : nest m.todo = (if f then 1 else 0) + nest td) : ({ m with deeds := m.deeds ++ (if f then [.cl] else []), todo := td } : Lm) |> Bal N := by
 cases f with
 | true => exact xA (n := 1) b h
 | false => exact xA (n := 0) b h
theorem PP {N : Nat} {m : Lm} {f : Bool} {td : List LT} (b : Bal N m) (h : nest td = nest m.todo + (if f then 1 else 0)) : ({ m with deeds := m.deeds ++ (if f then [.op] else []), todo := td } : Lm) |> Bal (N + 2) := by
 obtain ⟨len, ok, s, h1, h2⟩ := b;cases f with
 | true =>
  refine ⟨by simp at h ⊢; omega, fun d hd => ?_, ⟨unitM, s.m :: s.stk⟩, by rw [uH, h1]; rfl, by simp at h ⊢; omega⟩
  rcases dH.mp hd with hd | hd
  ·exact ok d hd
  ·rw [bK.mp hd]; trivial
 | false => exact ⟨by simp at h ⊢; omega, by simpa using ok, s, by simpa using h1, by simp at h ⊢; omega⟩
theorem Bal.le {N M : Nat} {m : Lm} (b : Bal N m) (h : N <= M) : Bal M m := ⟨by have := b.len; omega, b.ok, b.nest⟩
theorem AI {N : Nat} {m m' : Lm} (b : Bal N m) (h1 : m'.deeds = m.deeds) (h2 : nest m'.todo = nest m.todo) : Bal N m' := ⟨by rw [h1, h2]; exact b.len, by rw [h1]; exact b.ok, by
 obtain ⟨s, h3, h4⟩ := b.nest;exact ⟨s, by rw [h1]; exact h3, by rw [h2]; exact h4⟩⟩
theorem PN {N : Nat} {bs : List (List Stt)} {many : Int} {m m' : Lm} {t : LT} {r blk : List LT} (ht : t.Ok many) (b : Bal N m) (e : m.todo = t :: r) (h : cQ bs t { m with todo := r } = .ok blk m') : Bal (N + 2) { m' with todo := blk ++ m'.todo } := by
 cases t with
 | shut =>
  cases h;refine Bal.le (N := N) ?_ (by omega)
  exact xA (n := 1) (td := r) b (by rw [e, nest]; omega)
 | out c w =>
  unfold cQ at h;dsimp only at h;split at h
  ·cases h
   have := VT (f := c.2.1) (td := gR (if w = 0 then c.2.2.1 else c.2.2.2) ++ r) b (by rw [e, nest, oJ]; omega)
   refine Bal.le (N := N) ?_ (by omega)
   exact AI this rfl rfl
  ·cases h
 | st s =>
  cases s with
  | bad => cases h
  | odd x => cases h
  | cmd c =>
   cases h;obtain ⟨len, ok, s, h1, h2⟩ := b;rw [e, nest] at len;refine ⟨by simp; omega, fun d hd => ?_, ⟨rK s.m c.mat, s.stk⟩, by rw [uH, h1]; rfl, by rw [e, nest] at h2; exact h2⟩
   rcases dH.mp hd with hd | hd
   ·exact ok d hd
   ·rw [bK.mp hd]; exact SG.cmd ht
  | keep b' =>
   cases h;have := PP (f := true) (td := gR b' ++ [.shut] ++ r) b (by rw [e, dN, oJ]; simp [nest])
   exact this
  | either x y =>
   unfold cQ at h;dsimp only at h;split at h
   ·cases h
   ·rename_i q
    cases h;obtain ⟨h1, h2, _⟩ := tZ q;refine Bal.le (N := N) ?_ (by omega)
    exact AI b h2 (by dsimp only; rw [oJ, h1, e, nest])
  | again b' =>
   unfold cQ at h;dsimp only at h;split at h
   ·cases h
   ·rename_i q
    cases h;obtain ⟨h1, h2, _⟩ := tZ q;refine Bal.le (N := N) (AI b h2 ?_) (by omega)
    dsimp only;rw [h1, e];split
    ·rfl
    ·rw [dN, oJ]; rfl
  | call g f x y =>
   unfold cQ at h;dsimp only at h;split at h
   ·cases h
   ·split at h
    ·rename_i z hz
     cases h;have := PP (f := f) (td := gR z ++ [.out (g, f, x, y) 0] ++ r) b (by rw [e, dN, oJ]; simp [nest])
     exact AI this rfl rfl
    ·cases h
  | fin w =>
   unfold cQ at h;dsimp only at h;split at h
   ·rename_i ds c r' q
    cases h;obtain ⟨h1, h2⟩ := DP q;rw [h1];refine Bal.le (N := N) ?_ (by omega)
    exact xA (n := ds.length) (td := [.out c w] ++ r') b (by rw [e]; simp only [cH, bQ, nest]; exact h2)
   ·cases h
theorem Jp {bs : List (List Stt)} {many : Int} (hG : ∀ b ∈ bs, BG many b) : ∀ (k : Nat) (m : Lm) (N : Nat), m.Inv many k -> Bal N m -> ∀ m', cW bs k m = .fin m' -> Bal (N + 2 * k) m' /\ m'.Inv many 0 /\ m'.todo = []
 | 0, m, N, I, b, m', h => by
  unfold cW at h;split at h
  ·cases h; exact ⟨b, I, by assumption⟩
  ·cases h
 | k + 1, m, N, I, b, m', h => by
  unfold cW at h;split at h
  ·rename_i q
   cases h;exact ⟨b.le (by omega), ⟨I.T, I.bit, I.t, by have := I.b; omega, by have := I.o; omega, by have := I.d; omega⟩, q⟩
  ·rename_i t r q
   split at h
   ·rename_i q2
    have := Jp hG k _ (N + 2) (gH hG (I.pop q).1 (I.pop q).2 q2) (PN (I.pop q).2 b q q2) _ h;exact ⟨this.1.le (by omega), this.2⟩
   ·split at h <;> cases h
   ·cases h
theorem Good2.bg {bs : List (List Stt)} (G : Good2 bs) : ∀ b ∈ bs, BG (bs.length : Int) b := fun b hb => by
 obtain ⟨h1, h2, h3, h4⟩ := G.gd b hb;exact ⟨h2, fun s hs => ⟨3, by omega, JC h1 s hs, cA (h4 s hs) (by decide), lb_S (h4 s hs)⟩⟩
structure Ran (N : Nat) (m : Lm) : Prop where
 ok : ∀ d ∈ m.deeds, d.Ok
 len : m.deeds.length <= N
 mat : ∃ s, lG m.deeds ⟨unitM, []⟩ = some s /\ s.stk = []
 bit : ∀ b ∈ m.bits, b = 0 \/ b = 1
 bits : m.bits.length < 90000
 tk : m.taken <= m.bits.length
def Says (N : Nat) (bs : List (List Stt)) (p : Nat) : LF -> Prop
 | .fin m => Ran N m /\ ∀ S, LS S -> cK [.dat (gP bs), .dat (.int (p : Int)), .dat (.lst (m.bits.map D.int))] S = if m.taken < m.bits.length then .err (lM (m.taken : Int)) S else .ok (.dat (.tup [.int m.way, .lst (m.deeds.map Deed.d)])) S
 | .never m => ∀ S, LS S -> cK [.dat (gP bs), .dat (.int (p : Int)), .dat (.lst (m.bits.map D.int))] S = .err (lM (-2)) S
 | .short m => ∀ S, LS S -> cK [.dat (gP bs), .dat (.int (p : Int)), .dat (.lst (m.bits.map D.int))] S = .err (lM (m.bits.length : Int)) S
 | .long _ => True
 | .no _ => False
theorem Ran.le {N M : Nat} {m : Lm} (h : Ran N m) (k : N <= M) : Ran M m := ⟨h.ok, cA h.len k, h.mat, h.bit, h.bits, h.tk⟩
theorem Says.le {N M : Nat} {bs : List (List Stt)} {p : Nat} {x : LF} (h : Says N bs p x) (k : N <= M) : Says M bs p x := by
 cases x with
 | fin m => exact ⟨h.1.le k, h.2⟩
 | _ => exact h
theorem Jo {bs : List (List Stt)} {many : Int} (hG : ∀ b ∈ bs, BG many b) : ∀ (k : Nat) (m : Lm), m.Inv many k -> ∀ b ∈ (cW bs k m).bits, b = 0 \/ b = 1
 | 0, m, I => by
  unfold cW
  split <;> exact I.bit
 | k + 1, m, I => by
  unfold cW;split
  ·exact I.bit
  ·rename_i t r q
   split
   ·rename_i q2
    exact Jo hG k _ (gH hG (I.pop q).1 (I.pop q).2 q2)
   ·rename_i q2
    have := H9 q2;subst this
    split <;> exact I.bit
   ·exact I.bit
theorem N4 {bs : List (List Stt)} {p ex K : Nat} {bits : List Int} (G : Good2 bs) (hp : p < bs.length) (hb : ∀ b ∈ bits, b = 0 \/ b = 1) (hl : bits.length < 40000) (hK : K <= 20000) :
  (∀ m, cW bs (K + 1) (fE p bits ex) ≠ .no m) /\ Says (2 * K) bs p (cW bs (K + 1) (fE p bits ex)) := by
 have hG := G.bg;have h3 := G.l3;obtain ⟨b, hpb⟩ : ∃ b, bs[p]? = some b := ⟨bs[p], bO hp⟩;have I := Eh (ex := ex) (many := (bs.length : Int)) (p := p) (k := K + 1) (by omega) hb hl (by omega)
 have tq : cQ bs (.st (.call (p : Int) false [] [])) { (fE p bits ex) with todo := [] } = .ok (gR b ++ [.out ((p : Int), false, [], []) 0]) { (fE p bits ex) with todo := [], opens := [(p, 0)] } := by
  unfold cQ;dsimp only;rw [gX, hpb];rfl
 have I1 := gH hG (I.pop rfl).1 (I.pop rfl).2 tq;have hlr : cW bs (K + 1) (fE p bits ex) = cW bs K { (fE p bits ex) with todo := (gR b ++ [.out ((p : Int), false, [], []) 0]) ++ [], opens := [(p, 0)] } := by
  rw [cW]
  show (match cQ bs (.st (.call (p : Int) false [] [])) { (fE p bits ex) with todo := [] } with
   | .ok blk m' => cW bs K { m' with todo := blk ++ m'.todo }
   | .non m' => if isCall (.st (.call (p : Int) false [] [])) = true then .never m' else .short m'
   | .no => .no (fE p bits ex)) = _
  rw [tq]
 have S1 : Sim bs (cW bs (K + 1) (fE p bits ex)).bits p { (fE p bits ex) with todo := (gR b ++ [.out ((p : Int), false, [], []) 0]) ++ [], opens := [(p, 0)] } (startM bs (cW bs (K + 1) (fE p bits ex)).bits p b) := by
  refine ⟨rfl, rfl, rfl, rfl, ?_, rfl, ?_, ?_, ?_, ?_, .inl ⟨rfl, rfl⟩⟩
  ·simp [startM, Mc.enter, xH, flat, lW]
  ·rw [DW hp]
   simp [startM, Mc.enter, xH, uY]
   congr 1
   apply gQ
   intro i
   by_cases hi : i < bs.length <;> simp [hi]
  ·intro o ho
   rw [bK.mp ho];exact hp
  ·exact List.pairwise_singleton _ _
  ·intro o ho
   rw [bK.mp ho];exact jC _
 obtain ⟨j, hj, he⟩ := Q4 rfl hG K _ _ S1 I1 (by rw [<- hlr])
 rw [<- hlr] at he;have hj' : j <= 100000 := by
  have : (startM bs (cW bs (K + 1) (fE p bits ex)).bits p b).stk.length = 2 := rfl;omega
 have hbit := Jo hG (K + 1) _ I;have B1 : Bal 0 { (fE p bits ex) with todo := (gR b ++ [.out ((p : Int), false, [], []) 0]) ++ [], opens := [(p, 0)] } := ⟨by dsimp only; rw [cX, oJ]; exact bX _, fun d hd => (by cases hd), ⟨unitM, []⟩, rfl, by dsimp only; rw [cX, oJ]; rfl⟩
 have hbal := Jp hG K _ 0 I1 B1;rw [<- hlr] at hbal;have xq := fun (S : aO) (ls : LS S) h => Rf (S0 := S) (k := j) (bits := (cW bs (K + 1) (fE p bits ex)).bits) ls G hpb hbit hj' h
 have key : (∀ m, cW bs (K + 1) (fE p bits ex) ≠ .no m) /\ Says (2 * K) bs p (cW bs (K + 1) (fE p bits ex)) := by
  revert he xq hbit hbal
  generalize cW bs (K + 1) (fE p bits ex) = x;intro he hbit hbal xq;cases x with
  | no m => exact he.elim
  | long m => exact ⟨fun m h => (by cases h), trivial⟩
  | never m =>
   obtain ⟨c', e⟩ := he;refine ⟨fun m h => (by cases h), fun S ls => ?_⟩
   have := xq S ls (by simp only [LF.bits] at e ⊢; rw [e]; intro h; cases h)
   simp only [LF.bits] at this e;rw [e] at this;exact this
  | short m =>
   obtain ⟨c', e⟩ := he;refine ⟨fun m h => (by cases h), fun S ls => ?_⟩
   have := xq S ls (by simp only [LF.bits] at e ⊢; rw [e]; intro h; cases h)
   simp only [LF.bits] at this e;rw [e] at this;exact this
  | fin m =>
   obtain ⟨c', e, e1, e2, e3⟩ := he;obtain ⟨b1, i1, t1⟩ := hbal _ rfl;obtain ⟨s, hs1, hs2⟩ := b1.nest;refine ⟨fun m h => (by cases h), ⟨b1.ok, by have := b1.len; omega, ⟨s, hs1, by rw [t1] at hs2; exact List.length_eq_zero_iff.mp hs2⟩, hbit, by have := i1.b; simp at this; omega, i1.t⟩, fun S ls => ?_⟩
   have h := xq S ls (by simp only [LF.bits] at e ⊢; rw [e]; intro h; cases h)
   simp only [LF.bits] at h e;rw [e] at h;rw [h];have hb' := (CZ e).1;unfold PX;dsimp only;rw [hb', e1, e2, e3];rfl
 exact key
theorem EG {S : aO} {bs : List (List Stt)} {p ex : Nat} {bits : List Int} (ls : LS S) (G : Good2 bs) (hp : p < bs.length) (hb : ∀ b ∈ bits, b = 0 \/ b = 1) (hl : bits.length < 40000) :
  wV [.dat (.lst (bls bs)), .dat (.int (p : Int)), .dat (.lst (bits.map D.int)), .dat (.int (ex : Int))] S = jB (cW bs 3000 (fE p bits ex)) S /\ Says 6000 bs p (cW bs 3000 (fE p bits ex)) := by
 have h3 := G.l3;have key := N4 (ex := ex) (K := 2999) G hp hb hl (by decide)
 exact ⟨Qc ls (by omega) G.bg (by omega) hb hl key.1, key.2.le (by decide)⟩
theorem VR {bs : List (List Stt)} (G : Good2 bs) : (D.lst (bls bs)).Pl /\ (D.lst (bls bs)).ht < 20 := by
 obtain ⟨bp1, bp2⟩ := FG G.ok;have := G.l3;exact ⟨⟨by rw [rL]; omega, bp1⟩, by simp only [D.ht]; omega⟩
theorem K4 {p : Nat} {a1 : Option Vl} : ∀ (ds : List D) (S : aO) (ks : List Int), PoolAt S p ks ->
  ∃ (xs : List Int) (ks' : List Int), jO (.nm 2) hY (bA cG (aB (aC 0) (aB (mC (.int 2)) aJ))) [some (.cel p), a1, none] ds S = .ok (xs.map D.int) (S.set p (PL ks')) /\ xs.length = ds.length /\ (∀ x ∈ xs, x = 0 \/ x = 1) /\ ks'.length = ks.length
 | [], S, ks, h => ⟨[], ks, by rw [EK h]; rfl, rfl, (fun x hx => by cases hx), rfl⟩
 | d :: r, S, ks, h => by
  obtain ⟨x, k1, e1, h0, h1, l1⟩ := fL h (k := 2) (by decide) (by decide)
  obtain ⟨xs, k2, e2, hl, hxs, l2⟩ := K4 (a1 := a1) r _ _ (h.next l1);rw [eN] at e2;refine ⟨x :: xs, k2, ?_, by simp [hl], fun y hy => ?_, by omega⟩
  ·rw [jO]
   simp only [pE, KF, if_true];simp! [e1];rw [e2];rfl
  ·rcases bJ.mp hy with rfl | hy
   ·omega
   ·exact hxs y hy
theorem SD {S : aO} {p : Nat} {ks : List Int} {many : Int} (hP : PoolAt S p ks) (h0 : 0 <= many) (h1 : many <= 100) : ∃ (bits : List Int) (ks' : List Int), zT [.cel p, .dat (.int many)] S = .ok (.dat (.lst (bits.map D.int))) (S.set p (PL ks')) /\ (∀ b ∈ bits, b = 0 \/ b = 1) /\ (bits.length : Int) <= many /\ ks'.length = ks.length := by
 obtain ⟨d, k1, e1, d0, d1, l1⟩ := fL hP (k := many + 1) (by omega) (by omega)
 obtain ⟨bits, k2, e2, hl, hb, l2⟩ := K4 (a1 := some (.dat (.int many))) (gK 0 d.toNat) _ _ (hP.next l1);have hl' : bits.length = d.toNat := by rw [hl]; simp [gK]
 rw [eN] at e2;rw [Pk];unfold AW;have e3 : A3 false (.nm 2) hY (bA cG (aB (aC 0) (aB (mC (.int 2)) aJ))) [some (.cel p), some (.dat (.int many)), none] [2] (gK 0 d.toNat) (S.set p (PL k1)) = .ok (.dat (.lst (bits.map D.int))) (S.set p (PL k2)) := by
  unfold A3;rw [if_pos (sz (by simp [gK]; omega)), show wipeE [some (Vl.cel p), some (.dat (.int many)), none] [2] = [some (Vl.cel p), some (.dat (.int many)), none] from rfl, e2]
  rfl
 simp! [e1, gT (show -(2 ^ 62) <= d by omega) (show d < 2 ^ 62 by omega), e3]
 exact ⟨bits, k2, rfl, hb, by omega, by omega⟩
theorem IT {S : aO} {p0 p ex : Nat} {ks : List Int} {bs : List (List Stt)} {many : Int} (hP : PoolAt S p0 ks) (ls : LS S) (G : Good2 bs) (hp : p < bs.length) (h0 : 0 <= many) (h1 : many <= 100) :
  ∃ (bits : List Int) (ks' : List Int), jL [.cel p0, .dat (.lst (bls bs)), .dat (.int (p : Int)), .dat (.int many), .dat (.int (ex : Int))] S = jB (cW bs 3000 (fE p bits ex)) (S.set p0 (PL ks')) /\ Says 6000 bs p (cW bs 3000 (fE p bits ex)) /\ (∀ b ∈ bits, b = 0 \/ b = 1) /\ (bits.length : Int) <= many /\ ks'.length = ks.length := by
 obtain ⟨bits, k1, e1, hb, hl, l1⟩ := SD hP h0 h1;have ls1 : LS (S.set p0 (PL k1)) := ls.set;obtain ⟨r1, s1⟩ := EG (ex := ex) ls1 G hp hb (by omega)
 rw [IF];unfold rN;cases q : cW bs 3000 (fE p bits ex) with
 | no m => rw [q] at s1; exact s1.elim
 | never m =>
  rw [q] at s1 r1;refine ⟨bits, k1, ?_, by rw [q]; exact s1, hb, hl, l1⟩
  simp only [jB, mV] at r1;simp! [e1, r1, cO];rw [q];rfl
 | short m =>
  rw [q] at s1 r1;refine ⟨bits, k1, ?_, by rw [q]; exact s1, hb, hl, l1⟩
  simp only [jB, mV] at r1;simp! [e1, r1, cO];rw [q];rfl
 | long m =>
  rw [q] at s1 r1;refine ⟨bits, k1, ?_, by rw [q]; exact s1, hb, hl, l1⟩
  simp only [jB] at r1;simp! [e1, r1, cO];rw [q];rfl
 | fin m =>
  rw [q] at s1 r1
  by_cases ht : m.taken < m.bits.length
  ·have hb2 : ∀ b ∈ bits.take m.taken, b = 0 \/ b = 1 := fun b h => hb b (yQ h)
   obtain ⟨r2, s2⟩ := EG (ex := ex) ls1 G hp hb2 (by simp; omega)
   refine ⟨bits.take m.taken, k1, ?_, s2, hb2, by simp; omega, l1⟩
   simp only [jB, mV, if_pos ht] at r1;rw [IJ] at r2;simp! [e1, r1, cO, eP, Rp, r2];cases q2 : cW bs 3000 (fE p (bits.take m.taken) ex) with
   | no m => rw [q2] at s2; exact s2.elim
   | fin m => unfold jB; dsimp only; split <;> (simp! [if_true]; rfl)
   | _ => unfold jB; simp! [if_true]; rfl
  ·refine ⟨bits, k1, ?_, by rw [q]; exact s1, hb, hl, l1⟩
   simp only [jB, mV, if_neg ht] at r1;simp! [e1, r1, cO];rw [q];simp only [jB, if_neg ht];rfl
structure RunOf (N : Nat) (m : Lm) (p' : Pen -> Ps) (M : List Int) : Prop where
 ok : ∀ d ∈ m.deeds, d.Ok
 len : m.deeds.length <= N
 big : N <= 90000
 mat : ∃ s, lG m.deeds ⟨unitM, []⟩ = some s /\ s.stk = [] /\ s.m = M
 pens : ∀ z, jP m.deeds ⟨[], z, []⟩ = some (p' z)
 of : MatOf (fun z => (p' z).z) M
 num : ∀ z, (p' z).pens.length = pA m.deeds
theorem Ran.all {N : Nat} {m : Lm} (R : Ran N m) (hN : N <= 90000 := by decide) : ∃ p' M, RunOf N m p' M := by
 obtain ⟨s, hm, hk⟩ := R.mat;obtain ⟨p', hp, hM, hn⟩ := MA R.ok hm hk;exact ⟨p', s.m, R.ok, R.len, hN, ⟨s, hm, hk, rfl⟩, hp, hM, hn⟩
section
variable {N : Nat} {m : Lm} {p' : Pen -> Ps} {M : List Int} {S : aO} {x0 x1 x2 : Vl}
theorem RunOf.ran (R : RunOf N m p' M) (ls : LS S) (ex : cK [x0, x1, x2] S = .ok (.dat (.tup [.int m.way, .lst (m.deeds.map Deed.d)])) S) (z : Pen) : NX [x0, x1, x2, .dat z.d] S = .ok (.dat (.tup [.int m.way, (p' z).z.d, .int (pA m.deeds : Int)])) S := by
 have := R.len;have := R.big;rw [Tu (z := z) ls ex R.ok (R.pens z) (by omega), R.num]
theorem RunOf.lpens (R : RunOf N m p' M) (ls : LS S) (z : Pen) : sP [.dat (.lst (m.deeds.map Deed.l)), .dat z.d] S = .ok (.dat (.lst [.lst ((p' z).pens.map Pen.d), (p' z).z.d])) S := by
 have := R.len;have := R.big;exact Na ls R.ok (R.pens z) (by omega)
end
theorem QW {S : aO} {c : Int} {n : Nat} (hc : 0 <= c) (h : c < 1000) : (∃ k : Nat, Em (.dat (.int c)) (.dat (.int (n : Int))) S = .ok (.dat (.int (k : Int))) S /\ ∀ S, Cq (.dat (.int (k : Int))) S = .ok (gK 0 k) S) := by
 refine ⟨min c.toNat n, ?_, fun S => ?_⟩
 ·rw [OH]
  congr 3
  split <;> omega
 ·rw [gT (by omega) (by omega)]
  rfl
theorem Ru {S : aO} {ks : List Int} {p : Nat} (h : PoolAt S p ks) : fR (.cel p) S = .ok (.dat (.int (ks.length : Int))) S := by rw [qJ h.1, aP]
theorem Il {t : Tg} {m : FS} {d : PH.D} {ds : List PH.D} {ρ ρ1 ρ2 : Ev} {S S2 : aO} (h : pE t (.dat d) ρ = some ρ1) (e : m ρ1 S = .next ρ2 S2) : loop t m (d :: ds) ρ S = loop t m ds ρ2 S2 := by
 rw [loop, h];dsimp only;rw [e]
theorem g_kys {n : Dd} {ρ : Ev} {S : aO} : K8 n (.next ρ S) = n ρ S := rfl
theorem Ks {S : aO} {x0 x1 x2 : Vl} {w : Int} {ds : List Deed} {z : Pen} {s' : Ps} (ls : LS S) (he : cK [x0, x1, x2] S = .ok (.dat (.tup [.int w, .lst (ds.map Deed.d)])) S) (ok : ∀ d ∈ ds, d.Ok) (h : jP ds ⟨[], z, []⟩ = some s') (hl : ds.length <= 900000) (hp : s'.pens.length <= 900000) :
  sN [x0, x1, x2, .dat z.d] S = .ok (s'.pens.map Pen.d) S := by
 have yf : Sq (.dat (.lst (s'.pens.map Pen.d))) S = .ok (s'.pens.map Pen.d) S := if_pos (by rw [aP]; omega)
 rw [FL];unfold sY;simp! [OA, g_kys, g_yf, he, Ct, NN ls ok h hl, yf]
theorem g_kye {n : Dd} {e : Er} {ρ : Ev} {S : aO} : K8 n (.err e ρ S) = .err e S := rfl
theorem R4 {n : Dd} {ρ : Ev} {S : aO} : Sw n (.next ρ S) = n ρ S := rfl
theorem IR {S : aO} {x0 x1 x2 x3 : Vl} {e : Er} (he : cK [x0, x1, x2] S = .err e S) : sN [x0, x1, x2, x3] S = .err e S := by
 rw [FL];unfold sY;simp! [OA, g_kye, he]
theorem Kt {S : aO} {x0 x1 x2 : Vl} {w : Int} {ds : List Deed} {z : Pen} {s' : Ps} (ls : LS S) (he : cK [x0, x1, x2] S = .ok (.dat (.tup [.int w, .lst (ds.map Deed.d)])) S) (ok : ∀ d ∈ ds, d.Ok) (h : jP ds ⟨[], z, []⟩ = some s') (hl : ds.length <= 900000) (hp : s'.pens.length <= 900000) :
  wU [x0, x1, x2, .dat z.d] S = .ok (s'.pens.map Pen.d) S := by
 have yf : Sq (.dat (.lst (s'.pens.map Pen.d))) S = .ok (s'.pens.map Pen.d) S := if_pos (by rw [aP]; omega)
 rw [MN];unfold xB;simp! [V3, R4, g_yf, he, Ct, NN ls ok h hl, yf]
theorem VP {a0 a1 a2 a3 a4 a5 a6 : Option Vl} {zs : List D} : ∃ x, Es [a0, a1, a2, a3, a4, a5, a6] 5 zs = [a0, a1, a2, a3, a4, x, a6] := by
 unfold Es;split
 ·exact ⟨_, rfl⟩
 ·exact ⟨_, rfl⟩
theorem Oh {cs : List Str} {ix il : Nat} {ρ : Ev} {T : aO} {zs : List D} (hρ : ρ[il]? = some (some (.cel T.length))) (hz : zs.length <= 900000) : Cr cs ix il ρ (.ok zs (T ++ [.lst []])) = .next (Es ρ ix zs) (T ++ [.lst zs]) := by
 unfold Cr;rw [hρ];dsimp only;rw [EL];dsimp only;rw [if_pos (show ([] : List D).length + zs.length <= sizeLine from cA (show 0 + zs.length <= 1000000 by omega) (by decide)), NP, bQ]
abbrev Ki : List Str := ["NoBook", "NoPath", "NoPen", "NoProcedure", "NoRun"]
abbrev hs18 : List (Str × HJ) := [("NoRun", .j 6 [.c (.str "NoRun") (.str "NoRun"), .f "index", .v 4])]
theorem Kr {S : aO} {x0 x1 x2 : Vl} {w : Int} {ds : List Deed} {z : Pen} {s' : Ps} (ls : LS S) (he : cK [x0, x1, x2] (S ++ [.lst []]) = .ok (.dat (.tup [.int w, .lst (ds.map Deed.d)])) (S ++ [.lst []])) (ok : ∀ d ∈ ds, d.Ok) (h : jP ds ⟨[], z, []⟩ = some s') (hl : ds.length <= 900000) (hp : s'.pens.length <= 900000) :
  lD [x0, x1, x2, .dat z.d] S = .ok (.dat (.tup [.str "told", .lst (s'.pens.map Pen.d)])) S := by
 have lsl : LS (S ++ [.lst []]) := ls.app;have tr := Ks lsl he ok h hl hp;obtain ⟨x5, hE⟩ := VP (a0 := some x0) (a1 := some x1) (a2 := some x2) (a3 := some (.dat z.d)) (a4 := some (.cel S.length)) (a5 := none) (a6 := none) (zs := s'.pens.map Pen.d);have fg := Oh (cs := Ki) (ix := 5) (il := 4) (ρ := [some x0, some x1, some x2, some (.dat z.d), some (.cel S.length), none, none]) (T := S) (zs := s'.pens.map Pen.d) rfl (by rw [aP]; exact hp)
 rw [hE] at fg;have kt : ∀ {ρ : Ev} {T : aO}, HN Ki hs18 (.next ρ T) = .next ρ T := rfl;have fz := nO (S := S ++ [.lst (s'.pens.map Pen.d)]) (EL (S0 := S) (xs := s'.pens.map Pen.d));rw [Da];unfold qS;simp! [OC, Ob, KI, KH, tr, fg, kt, fz];exact nI ls (by simp)
theorem IQ {S : aO} {x0 x1 x2 x3 : Vl} {i : Int} (ls : LS S) (he : cK [x0, x1, x2] (S ++ [.lst []]) = .err (lM i) (S ++ [.lst []])) :
  lD [x0, x1, x2, x3] S = .ok (.dat (.tup [.str "NoRun", .int i, .lst []])) S := by
 have tr := IR (x3 := x3) he;have fg : ∀ {ρ : Ev}, Cr Ki 5 4 ρ (.err (lM i) (S ++ [.lst []])) = .err (lM i) ρ (S ++ [.lst []]) := fun {ρ} => by
  unfold Cr;exact if_pos (show ("NoRun" : Str) ∈ Ki by decide)
 have kt : HN Ki hs18 (.err (lM i) [some x0, some x1, some x2, some x3, some (.cel S.length), none, none] (S ++ [.lst []])) = .ret (.dat (.tup [.str "NoRun", .int i, .lst []])) (S ++ [.dead]) := by
  unfold HN;dsimp only;rw [if_pos ⟨show ("NoRun" : Str) ∈ Ki by decide, fun h hh => by rw [bK.mp hh]; decide⟩]
  unfold rC;have l7 : 6 < ([some x0, some x1, some x2, some x3, some (Vl.cel S.length), none, none] : Ev).length := by show 6 < 7; omega
  rw [if_pos (show (lM i).cls = "NoRun" from rfl), if_pos l7]
  have one : (S ++ [Cell.lst []])[S.length]? = some (.lst []) := EL;have q1 : jF (lM i) ([some x0, some x1, some x2, some x3, some (.cel S.length), none, none].set 6 none) (S ++ [.lst []]) [.c (.str "NoRun") (.str "NoRun"), .f "index", .v 4] = some ([.str "NoRun", .int i, .lst []], S ++ [.dead]) := by
   simp only [jF, bY, cE, iS, List.getElem?_cons_zero, one]
   have l1 : List.lookup ("index" : Str) ((lM i).ns.zip (lM i).xs) = some (D.int i) := rfl;rw [l1];simp
  rw [q1];rfl
 rw [Da];unfold qS;simp! [OC, Ob, KI, KH, tr, fg, kt];exact nI ls (by simp)
theorem VD {N : Nat} {bs : List (List Stt)} {p : Nat} {x : LF} (h : Says N bs p x) :
  (∃ m, (∀ S, jB x S = .ok (.dat (mV "run" m.way m)) S) /\ Ran N m /\ x = .fin m /\ m.taken = m.bits.length /\ ∀ S, LS S -> cK [.dat (gP bs), .dat (.int (p : Int)), .dat (.lst (m.bits.map D.int))] S = .ok (.dat (.tup [.int m.way, .lst (m.deeds.map Deed.d)])) S) \/
  (∃ (m : Lm) (w : Str) (i : Int), (∀ S, jB x S = .ok (.dat (mV w i m)) S) /\ decide (w = ("run" : Str)) = false /\ decide (w = ("long" : Str)) = false /\ ∀ S, LS S -> cK [.dat (gP bs), .dat (.int (p : Int)), .dat (.lst (m.bits.map D.int))] S = .err (lM i) S) \/
  ∀ S, jB x S = .ok (.dat (.tup [.str "long", .int 0, .lst [], .lst []])) S := by
 cases x with
 | no m => exact h.elim
 | never m => exact .inr (.inl ⟨m, "never", -2, fun _ => rfl, by decide, by decide, h⟩)
 | short m => exact .inr (.inl ⟨m, "short", _, fun _ => rfl, by decide, by decide, h⟩)
 | long m => exact .inr (.inr fun _ => rfl)
 | fin m =>
  by_cases ht : m.taken < m.bits.length
  ·refine .inr (.inl ⟨m, "rest", m.taken, fun S => by simp only [jB, if_pos ht], by decide, by decide, fun S ls => ?_⟩)
   rw [h.2 S ls, if_pos ht]
  ·refine .inl ⟨m, fun S => by simp only [jB, if_neg ht], h.1, rfl, by have := h.1.tk; omega, fun S ls => ?_⟩
   rw [h.2 S ls, if_neg ht]
def BY (n : Nat) (d : D) : Prop := ∀ S : aO, dU n [.dat d, .dat d] S = .ok (.dat (.bl true)) S
theorem EE {n : Nat} {xs : List D} (hl : xs.length <= 900000) (h : ∀ x ∈ xs, BY n x) : BY (n + 1) (.lst xs) := fun S => by
 rw [show dU (n + 1) [.dat (.lst xs), .dat (.lst xs)] S = cF (iX (dU n) [some (.dat (.lst xs)), some (.dat (.lst xs)), none] S) from rfl]
 unfold iX;simp! [gT (show -(2 ^ 62) <= (xs.length : Int) by omega) (show (xs.length : Int) < 2 ^ 62 by omega), gK, gX]
 rw [gS (g := fun _ => D.bl true) (by simpa using (cA hl (by decide) : xs.length <= sizeLine)) fun i hi => ⟨_, rfl, ?_⟩]
 ·simp! [if_true]
  rw [all_true];rfl
 ·have hi' : i < xs.length := dR.mp hi
  have hx : xs[i]? = some xs[i] := bO hi';exact Bl (n := n) hx (rD (by rw [eX (n := i) (by omega), hx])) (h _ (fW hi') S)
theorem Ai {n : Nat} {xs : List D} (hl : xs.length <= 900000) (h : ∀ x ∈ xs, BY n x) : BY (n + 1) (.tup xs) := fun S => by
 rw [show dU (n + 1) [.dat (.tup xs), .dat (.tup xs)] S = cF (iX (dU n) [some (.dat (.tup xs)), some (.dat (.tup xs)), none] S) from rfl]
 unfold iX;simp! [gT (show -(2 ^ 62) <= (xs.length : Int) by omega) (show (xs.length : Int) < 2 ^ 62 by omega), gK, gX]
 rw [gS (g := fun _ => D.bl true) (by simpa using (cA hl (by decide) : xs.length <= sizeLine)) fun i hi => ⟨_, rfl, ?_⟩]
 ·simp! [if_true]
  rw [all_true];rfl
 ·have hi' : i < xs.length := dR.mp hi
  have hx : xs[i]? = some xs[i] := bO hi';exact Bl (n := n) hx (Cz (by rw [eX (n := i) (by omega), hx])) (h _ (fW hi') S)
theorem ED {n : Nat} {z : Str} : BY (n + 1) (.str z) := fun S => by
 rw [show dU (n + 1) [.dat (.str z), .dat (.str z)] S = cF (iX (dU n) [some (.dat (.str z)), some (.dat (.str z)), none] S) from rfl]
 unfold iX;simp! [if_true];rfl
theorem EF {n : Nat} {z : Int} : BY (n + 1) (.int z) := fun S => by
 rw [show dU (n + 1) [.dat (.int z), .dat (.int z)] S = cF (iX (dU n) [some (.dat (.int z)), some (.dat (.int z)), none] S) from rfl]
 unfold iX;simp! [if_true];rfl
theorem LO {n : Nat} {z : Pen} : BY (n + 2) z.d := Ai (xs := z.ds) (by show 6 <= 900000; omega) fun x hx => by
 simp only [Pen.ds, bJ, vC, or_false] at hx;rcases hx with rfl | rfl | rfl | rfl | rfl | rfl <;> exact EF
theorem CN {n : Nat} {l : List Pen} (hl : l.length <= 900000) : BY (n + 3) (.lst (l.map Pen.d)) := EE (by rw [aP]; exact hl) fun x hx => by
 obtain ⟨z, _, rfl⟩ := nR.mp hx;exact LO
theorem wY : ∀ ds : List Deed, pA ds <= ds.length
 | [] => bX _
 | .cmd c :: r => by have := wY r; show pA r + 1 <= r.length + 1; omega
 | .op :: r => by have := wY r; show pA r <= r.length + 1; omega
 | .cl :: r => by have := wY r; show pA r <= r.length + 1; omega
theorem Ta {l : List Pen} {S : aO} (hl : l.length <= 6000) : dU 20 [.dat (.tup [.str "told", .lst (l.map Pen.d)]), .dat (.tup [.str "told", .lst (l.map Pen.d)])] S = .ok (.dat (.bl true)) S :=
 Ai (n := 19) (by simp) (fun x hx => by
  simp only [bJ, vC, or_false] at hx;rcases hx with rfl | rfl
  ·exact ED
  ·exact CN (by omega)) S
theorem UG {l : List Pen} {S : aO} (hl : l.length <= 6000) : dU 20 [.dat (.lst (l.map Pen.d)), .dat (.lst (l.map Pen.d))] S = .ok (.dat (.bl true)) S := CN (n := 17) (by omega) S
theorem nr18 {i : Int} {S : aO} : dU 20 [.dat (.tup [.str "NoRun", .int i, .lst []]), .dat (.tup [.str "NoRun", .int i, .lst []])] S = .ok (.dat (.bl true)) S :=
 Ai (n := 19) (by simp) (fun x hx => by
  simp only [bJ, vC, or_false] at hx;rcases hx with rfl | rfl | rfl
  ·exact ED
  ·exact EF
  ·exact EE (by simp) fun x hx => by cases hx) S
theorem mul18 (g : Int) {S : aO} : ∃ ex : Nat, oQ (.dat (.int 14)) (.dat (.int (if decide (g > 0) then 1 else 0))) S = .ok (.dat (.int (ex : Int))) S := by
 by_cases hg : g > 0
 ·refine ⟨14, ?_⟩
  rw [decide_eq_true hg];exact lE (mulL (by decide) (by decide))
 ·refine ⟨0, ?_⟩
  rw [decide_eq_false hg];exact lE (mulL (by decide) (by decide))
theorem tg18 {md : Ds} {x0 x1 x2 : Vl} {S : aO} {zs : List D} (td : md [x0, x1, x2, .dat (Pen.d ⟨0, 0, 1, 0, 0, 0⟩)] S = .ok zs S) : A2 md [x0, x1, x2] (.dat G4) S = .ok (.dat (.lst zs)) S := by
 have e : md ([x0, x1, x2] ++ [.dat G4]) S = .ok zs S := td;unfold A2;rw [e]
theorem Nw {ks : List Int} {bs : List (List Stt)} {a0 x4 : Option Vl} (hk : 2 <= ks.length) (G : Good2 bs) : ∃ ks', oF [a0, some (.cel 0), some (.dat (.lst (bls bs))), some (.dat (gP bs)), x4, none, none, none, none] [PL ks] = .next [a0, some (.cel 0), some (.dat (.lst (bls bs))), some (.dat (gP bs)), none, none, none, none, none] [PL ks'] /\ 2 <= ks'.length := by
 have P0 : PoolAt [PL ks] 0 ks := ⟨rfl, hk⟩;have b1 := G.l1;have b3 := G.l3;obtain ⟨d, k1, e1, d0, d1, l1⟩ := fL P0 (k := (bs.length : Int)) (by omega) (by omega)
 obtain ⟨n, rfl⟩ : ∃ n : Nat, d = (n : Int) := ⟨d.toNat, by omega⟩
 have P1 := P0.next l1;obtain ⟨z, k2, e2, hz, l2⟩ := Tx P1;have P2 := P1.next l2;obtain ⟨g, k3, e3, g0, g1, l3⟩ := fL P2 (k := 4) (by decide) (by decide)
 have P3 := P2.next l3;have ls : ∀ k : List Int, LS [PL k] := fun k c hc n => by rw [bK.mp hc]; rfl
 have P3' : PoolAt [PL k3] 0 k3 := by simpa using P3
 obtain ⟨ex, hmul⟩ := mul18 (S := [PL k3]) g;obtain ⟨bits, k4, e4, hs, hb, hl, l4⟩ := IT (ex := ex) (p := n) (many := 10) P3' (ls k3) G (by omega) (by decide) (by decide)
 simp only [eN, cE] at e1 e2 e3 e4;refine ⟨k4, ?_, by omega⟩
 have lsa : ∀ k : List Int, LS ([PL k] ++ [.lst []]) := fun k => (ls k).app
 unfold oF;have fi : ∀ {b : Bool} {S : aO}, pS (.dat (.bl b)) S = .ok (.dat (.int (if b then 1 else 0))) S := fun {b S} => rfl
 have fl : ∀ {xs : List D} {U : aO}, oR false (.dat (.lst xs)) U = .ok (.dat (.lst xs)) U := rfl;have flz : ∀ {U : aO}, oR false (.dat z.d) U = .ok (.dat (.lst z.ds)) U := rfl
 revert e4 hs
 generalize cW bs 3000 (fE n bits ex) = x;intro e4 hs;rcases VD hs with ⟨m, hf, R0, _, _, he⟩ | ⟨m, w, i, hf, hw, hw2, he⟩ | hf
 ·rw [hf] at e4
  have e4' : jL [.cel 0, .dat (.lst (bls bs)), .dat (.int (n : Int)), .dat (.int 10), .dat (.int (ex : Int))] [PL k3] = .ok (.dat (.tup [.str "run", .int m.way, .lst (m.deeds.map Deed.l), .lst (m.bits.map D.int)])) [PL k4] := e4;obtain ⟨p', M, R⟩ := R0.all;have hlen := R.len;have hnum : ∀ u, (p' u).pens.length <= 6000 := fun u => by
   have h1 := R.num u;have h2 : pA m.deeds <= m.deeds.length := wY m.deeds;omega
  have lp := fun u => R.lpens (ls k4) u
  have tr := fun u => Kr (z := u) (ls k4) (he _ (lsa k4)) R.ok (R.pens u) (by omega) (by have := hnum u; omega)
  have td := Kt (z := ⟨0, 0, 1, 0, 0, 0⟩) (ls k4) (he _ (ls k4)) R.ok (R.pens _) (by omega) (by have := hnum ⟨0, 0, 1, 0, 0, 0⟩; omega)
  have tg := tg18 td;have hh : ∀ {ρ : Ev} {T : aO}, (cC (aB (mC (.int 0)) (aB (mC (.int 0)) (aB (mC (.int 1)) (aB (mC (.int 0)) (aB (mC (.int 0)) (aB (mC (.int 0)) aJ))))))) ρ T = .ok (.dat (Pen.d ⟨0, 0, 1, 0, 0, 0⟩)) T := rfl;simp! [rL, e1, e2, e3, fi, hmul, e4', cO, eP, kL, Iy, lp, yD, tr, fl, hh, OI, M0, tg, Ta (hnum _), UG (hnum _)]
 ·rw [hf] at e4
  have e4' : jL [.cel 0, .dat (.lst (bls bs)), .dat (.int (n : Int)), .dat (.int 10), .dat (.int (ex : Int))] [PL k3] = .ok (.dat (.tup [.str w, .int i, .lst (m.deeds.map Deed.l), .lst (m.bits.map D.int)])) [PL k4] := e4;have tr := fun x3 => IQ (x3 := x3) (ls k4) (he _ (lsa k4))
  simp! [rL, e1, e2, e3, fi, hmul, e4', cO, eP, kL, Iy, hw, hw2, fl, flz, tr, nr18]
 ·rw [hf] at e4
  have e4' : jL [.cel 0, .dat (.lst (bls bs)), .dat (.int (n : Int)), .dat (.int 10), .dat (.int (ex : Int))] [PL k3] = .ok (.dat (.tup [.str "long", .int 0, .lst [], .lst []])) [PL k4] := e4;simp! [rL, e1, e2, e3, fi, hmul, e4', cO]
theorem HP {bs : List (List Stt)} {a0 : Option Vl} (G : Good2 bs) : ∀ (n : Nat) (lo : Int) (ks : List Int) (a4 : Option Vl), 2 <= ks.length -> ∃ (ks' : List Int) (b4 : Option Vl), loop (.nm 4) oF (gK lo n) [a0, some (.cel 0), some (.dat (.lst (bls bs))), some (.dat (gP bs)), a4, none, none, none, none] [PL ks] = .next [a0, some (.cel 0), some (.dat (.lst (bls bs))), some (.dat (gP bs)), b4, none, none, none, none] [PL ks']
 | 0, lo, ks, a4, h => ⟨ks, a4, rfl⟩
 | n + 1, lo, ks, a4, h => by
  obtain ⟨k1, e1, h1⟩ := Nw (a0 := a0) (x4 := some (.dat (.int lo))) h G;obtain ⟨k2, b4, e2⟩ := HP (a0 := a0) G n (lo + 1) k1 none h1;refine ⟨k2, b4, ?_⟩
  rw [oG];exact (Il (ρ1 := [a0, some (.cel 0), some (.dat (.lst (bls bs))), some (.dat (gP bs)), some (.dat (.int lo)), none, none, none, none]) rfl e1).trans e2
theorem law_true_k18 : ∀ ns : List Int, ns.length <= 63 -> ∃ S, m_law_k18 [.scr ns] [] = .ok (.dat (.bl true)) S := by
 intro ns hn;refine ⟨[], ?_⟩
 rw [MO];obtain ⟨k0, e0, h0⟩ := QK (S := []) hn;have P0 : PoolAt ([] ++ [PL k0]) 0 k0 := ⟨rfl, h0⟩;have ls : ∀ k : List Int, LS [PL k] := fun k c hc n => by rw [bK.mp hc]; rfl
 obtain ⟨bs, k1, e1, G, hsz, hml, l1⟩ := Rz (most := 3) (size := 7) P0 (ls k0) (by decide) (by decide) (by decide) (by decide)
 have G2 := G.two;have b3 := G2.l3;have hl : bs.length <= 10 := by omega
 simp only [cE, bQ] at e0 e1;have hk1 : 2 <= k1.length := by omega
 have P1 : PoolAt [PL k1] 0 k1 := ⟨rfl, hk1⟩;obtain ⟨k, hm, hr⟩ := QW (S := [PL k1]) (c := 6) (n := k1.length) (by decide) (by decide)
 obtain ⟨k2, b4, e2⟩ := HP (a0 := some (.scr ns)) G2 k 0 k1 none hk1;have ho := VR G2;have hib : ∀ S, pH S "Book" "bodies" (.dat (gP bs)) = true := fun _ => rfl
 unfold sZ;simp! [e0, e1, Pe G2.ok (show 3 <= 9 by omega) hl, Ij (ls k1) G2, Ru P1, hm, hr, e2, gU (hib [PL k2]), FF G2.ok (show 3 <= 9 by omega) hl, QB 20 ho.1 ho.2]
 exact TZ
end PH
open PySem PySem.W PySem.Calls PyProof.Rows
set_option maxHeartbeats 0 in
theorem PySem.Challenge.cw_penhome_k18_trace_holds : PySem.Challenge.rw_penhome_k18_trace.Holds := by
 w_on; o_law
 refine HandSHeadRun.head_any (r := OpenLaw.row PySem.Challenge.rw_penhome_k18_trace) (q := view (OpenLaw.row PySem.Challenge.rw_penhome_k18_trace).prog [60]) (H := PHZ.hk) (ob := PHZ.ob) (M := 8000) (loose := PHZ.loose) (d := HandSHeadRun.topDef (OpenLaw.row PySem.Challenge.rw_penhome_k18_trace).prog 60) (kwd := []) PHZ.ob_eq
  (by kernel_rfl) (fun s => by kernel_rfl) PHZ.run_ (by kernel_rfl) (by kernel_rfl) (by kernel_rfl) (by rfl) (by first | assumption | decide +kernel) (by decide +kernel) ⟨rfl, rfl, rfl, rfl, rfl, by decide +kernel⟩ ?hw ?hc
 case hw => w_witness2
 case hc =>
  refine PH.walk_g (l := PySem.Challenge.rw_penhome_k18_trace) (n := 63) (k := 36) (x := "_law_script") rfl (by decide) (by kernel_rfl) ⟨rfl, by decide, by decide⟩ ?F
  intro w mg fa h Y G hmg0;obtain ⟨K, KX, c⟩ := Y;have hmg : mg ("law" : PySem.Str) = some (.ref fa) := by
   have e : (HandSHeadRun.topDef (OpenLaw.row PySem.Challenge.rw_penhome_k18_trace).prog 60).name = ("law" : PySem.Str) := by kernel_rfl
   rw [<- e];exact hmg0
  have T := PHZ.txt (w := w) KX G c;have e := hmg.symm.trans T.G_law_k18;cases e;obtain ⟨fd, b, F⟩ := PHZ.law_fn (P := (PySem.Challenge.rw_penhome_k18_trace).prog) T;exact ⟨K, fd, PH.spF K PH.m_law_k18, KX, fun s v => b s [v] rfl, fun H a ns hl hO hS => PH.law_start PH.law_true_k18 H a ns hl hO hS, fun base _ _ => F base⟩
