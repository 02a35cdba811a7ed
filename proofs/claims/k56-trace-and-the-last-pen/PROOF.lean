import PyProof.Rows.All
import Wide.All
import OpenK.AllK
import Wide.FinOn
import KE.KStateDown
import Lean
import HandS.ForMost
import HandS.ForExc
import HandS.More
import HandS.Flow
import HandS.IsInst
import HandS.Defaults
import HandS.Head0
import HandS.Head1
import HandS.Head2
import HandS.HeadEnd
import HandS.HeadHook1
import HandS.HeadHook2
import HandS.HeadHook3
import HandS.TupAny
import HandS.Star
import HandS.Wide
import HandS.Zip
import HandS.Rev
import HandS.TryMany
import HandS.Small
import HandS.RaiseMore
import HandS.OwnEq
import HandS.Walk
import HandS.Deep
import HandS.ExcInit
import HandS.ExcField
import HandS.RevRange
import HandS.SortInts
import KE.GoesMore
import HandS.CallSlots
import PyProof.Rows.NestShow
import HandS.Dict
import HandS.Style
import HandS.Text
import HandS.FStr
import HandS.StrMore
import HandS.SetFor
import PyProof.InstNe
import HandS.ReplaceLit
import KE.SortKeyHeap
import HandS.ExcValue
import HandS.SortKw
import HandS.SetKeys
import HandS.WordsDict
import HandS.Conv
import HandS.DictComp
import HandS.Iter
import HandS.TupLen
import HandS.GenList
import HandS.IterNext
import HandS.DictSub
import HandS.GenOver
import PyProof.ReprLen
import PyProof.StrLawsRepr
import PySem.Challenge.RW_penhome_k56_whole_trace_and_the_last_pen
set_option Elab.async false
set_option linter.all false
set_option maxRecDepth 100000
set_option maxHeartbeats 4000000
open PySem.W renaming Frag → aD, fnOf → cZ, keepIn → gW, nsIn → jR, typeIn → mF, findIn → mG, view → mH, subIn → nS, callWith_K → xX, SharedT → Be, cellsFrom_some → FP, methodCall_KW → HY, callWith_K0 → Ij, callWith_KW → Ik, codeRec_of → K0, boot_heap → Le, openGood → Lj
open And renaming intro → aF
open List renaming getElem?_eq_some_iff → aH, mem_cons_of_mem → aJ, getElem?_append_left → aL, map_cons → aM, length_map → aN, length_cons → aR, mem_cons_self → aT, range → aV, getElem?_set → aX, getElem?_append_right → bB, mem_singleton → bC, map_nil → bD, getD_eq_getElem?_getD → bF, mem_of_getElem? → bI, length_append → bL, mem_cons → bM, getElem?_map → bN, replicate → bQ, set_cons_succ → bW, all_eq_true → cD, getElem?_eq_getElem → cJ, set_cons_zero → cK, mem_append → cL, append_nil → cP, map_append → cQ, getElem?_eq_none → cX, length_nil → cY, set_append_right → dE, append_assoc → dG, nil_append → dR, getElem?_take → dW, set_set → eI, lookup_cons → eP, range' → eV, mem_range → fP, ext_getElem? → gI, map_map → gJ, map_congr_left → gX, length_take → iE, cons_append → iF, mem_map → iM, dropLast_concat → jV, getElem?_eq_none_iff → kF, getElem?_range → kN, getElem?_cons_succ → mI, filter_cons_of_pos → mJ, filter_cons_of_neg → mK, length_drop → oA, mem_append_left → oU, zip_cons_cons → rJ, getLast?_cons → rK, drop_eq_getElem_cons → sE, mem_or_eq_of_mem_set → sF, size_toArray → sI, all_cons → tN, getElem_mem → uE, take_of_length_le → vT, getElem?_set_ne → xT, mem_of_mem_take → xU, mem_map_of_mem → AA, any_cons → AC, pairwise_cons → Aj, drop_length → Cn, find?_eq_some_iff_append → Cp, range_succ → DA, mem_filter → DB, map_take → Hb, getElem?_set_self → Il, drop_eq_nil_of_le → Im, dropLast_eq_take → Jy, forall_mem_cons → Lf, length → Lg
open Nat renaming le_refl → bV, le_trans → cC, zero_le → iL, zero_add → qS, le_of_not_lt → uF, le_of_lt → wJ, lt_succ_self → Co, min_eq_left → ET, ne_of_lt → Jz, ne_of_gt → K1
open Int renaming emod_nonneg → dU, emod_lt_of_pos → dX, mul_zero → qT, toNat_natCast → tO
open Bool renaming false_ne_true → fO, and_eq_true → iD, and_true → AD, false_eq_true → Ai, or_false → HZ, and_self → Ha
open Or renaming inr → BF, inl → D0
namespace PH
open PySem PySem.Spec PyProof.Rows L2
abbrev veL : List Value := [.type "ValueError", .type "Exception", .type "BaseException", .type "object"]
def xcB (K : aD) (x : Str) : Bool := PySem.W.excIn K (He.ga K x) veL "ValueError.__new__" && (gW K (.ref (He.ga K x)) && (decide (nS K (.ref (He.ga K x)) (.type "BaseException") = some true) && decide (mF K (.ref (He.ga K x)) = some (.type "type"))))
def nZ : Stmt -> List Stmt
 | .ClassDef _ _ _ b _ _ _ _ _ _ _ => b
 | _ => []
def limits : List (Str × Nat × Int × Int) := [("go", 1, -9, 9), ("turn", 1, 1, 3), ("mirror", 0, 0, 0), ("scale", 1, -3, 3), ("aim", 2, -9, 9), ("place", 2, -9, 9), ("mark", 0, 0, 0), ("return", 0, 0, 0), ("exchange", 0, 0, 0)]
def GF (K : aD) (z : Str) : Addr := match jR K (He.ga K "LIMITS") z with
 | some (some (.ref a)) => a
 | _ => 0
def Hh (K : aD) (a : Addr) (vs : List V) : Bool := match K.lookup a with
 | some ⟨.type c, _, .seq its _, _⟩ => decide (c = "tuple") && (decide (its.size <= sizeLine) && He.relAll vs its.toList)
 | _ => false
def limB (K : aD) : Bool := limits.all fun q => He.eqO (jR K (He.ga K "LIMITS") q.1) (some (some (.ref (GF K q.1)))) && Hh K (GF K q.1) [.int (q.2.1 : Nat), .int q.2.2.1, .int q.2.2.2]
def Hy : He.Tab := (fun K => He.ga K "LIMITS", limits.map (·.1))
def Sj (K : aD) (C : Addr) : Bool := match K.lookup C with
 | some ⟨.type "type", _, .cls cd, sl⟩ => (match cd.mro, sl.toList with
  | .ref C' :: bm, [_, _, _, _, some (.builtin n), _] => C' == C && n == "ValueError.__new__" && !cd.hasDel && cd.hasDict && PySem.HandSPX.refsVE bm
  | _, _ => false)
 | _ => false
def xaB (K : aD) (x : Str) (fs : List Str) : Bool := Sj K (He.ga K x) && (decide (mG K (.ref (He.ga K x)) "__setattr__" = some (some (.builtin "object.__setattr__"))) && (decide (nS K (.ref (He.ga K x)) (.type "BaseException") = some true) && (decide (mF K (.ref (He.ga K x)) = some (.type "type")) && (gW K (.ref (He.ga K x)) && (decide (mG K (.ref (He.ga K x)) "__init__" = some (some (.ref (He.ma K (He.ga K x) "__init__")))) && (decide (mF K (.ref (He.ma K (He.ga K x) "__init__")) = some (.type "function")) && (xfB K (He.ga K x) && fs.all fun f => decide (mG K (.ref (He.ga K x)) f = some none))))))))
section
variable {X : Cx} {W : WX} {e a : Expr} {es : List Expr} {rest gM : List Stmt} {st : Stmt} {pos p yp : Pos} {x kw : Str} {K : aD} {ma me : FE} {mas : FA} {B : Addr -> Prop} {φ φ' : List Addr} {S S' : aO} {H H' : Hp} {σ : L2.St} {Q : TQ} {m : FS} {n : Jx} {D : Ends} {EX : XK}
def nsB (K : aD) (cs : List Str) : Bool := cs.all fun c => decide (nS K (.ref (He.ga K c)) (.type "StopIteration") = some false)
end
end PH
namespace PH
open PySem PySem.Spec PyProof PyProof.Rows L2
def frR (g : Addr -> Option Obj) (n : Nat) : aD := He.frG g (aV n)
def Sk (n : Nat) (fa : List He.Fa) (fn : List He.DefD) (ts : List He.Tab) (ex : aD -> Bool) (g : Addr -> Option Obj) : He.AlT × Bool := (He.obsT fa fn ts (frR g n), ex (frR g n))
def Rq (n : Nat) (fa : List He.Fa) (fn : List He.DefD) (ts : List He.Tab) (ex : aD -> Bool) : PySem.W.Hook where
 α := He.AlT × Bool
 obs := fun s => Sk n fa fn ts ex s.heap.get?
 val := fun w => (He.valT fn ts w, true)
 says := fun w h => ∃ K : aD, K.In h /\ He.SaysT fa fn ts w K /\ ex K = true
 of := fun _ _ e => ⟨_, He.frG_in, congrArg (fun z : He.AlT × Bool => z.1) e, congrArg (fun z : He.AlT × Bool => z.2) e⟩
 keeps := fun _ _ _ ⟨K, hK, c⟩ k => ⟨K, PySem.W.Frag.In.keeps hK k, c⟩
def obC (c : List He.DefD) (K : aD) : Bool × List He.FnW := (c.all fun d => d.ok K, c.map fun d => He.fnW K d.at_)
theorem DQ {σ β γ : Type} {o : Option σ} {l : σ -> β} {b : β} {sn : σ -> γ} {c : γ} {K : σ -> aD} {fa : List He.Fa} {fs : List (List He.DefD)} {ts : List He.Tab} {ex : aD -> Bool} {tv : List (Option (List (Option (Str × Int))))}
  (hA : (o.map fun s => (l s, sn s, fa.all fun f => f.ok (K s), ts.map fun t => He.dicW (K s) (t.1 (K s)), ex (K s))) = some (b, c, true, tv, true))
  (hD : ∀ f ∈ fs, (o.map fun s => obC f (K s)) = some (true, f.map He.DefD.val)) :
  (o.map fun s => (l s, sn s, (He.obsT fa fs.flatten ts (K s), ex (K s)))) = some (b, c, ((true, fs.flatten.map He.DefD.val), tv), true) := by
 cases o with
 | none => cases hA
 | some s =>
  have hA := Option.some.inj hA;have h1 := congrArg (fun z => z.1) hA
  have h2 := congrArg (fun z => z.2.1) hA
  have h3 := congrArg (fun z => z.2.2.1) hA
  have h4 := congrArg (fun z => z.2.2.2.1) hA
  have h5 := congrArg (fun z => z.2.2.2.2) hA
  dsimp only at h1 h2 h3 h4 h5;have hf : ∀ f ∈ fs, (f.all fun d => d.ok (K s)) = true /\ (f.map fun d => He.fnW (K s) d.at_) = f.map He.DefD.val := fun f hf => by
   have z := Option.some.inj (hD f hf);exact ⟨congrArg (fun z => z.1) z, congrArg (fun z => z.2) z⟩
  have hall : (fs.flatten.all fun d => d.ok (K s)) = true := by
   rw [cD];intro d hd;obtain ⟨f, h1, h2⟩ := List.mem_flatten.mp hd;exact cD.mp (hf f h1).1 d h2
  have hmap : (fs.flatten.map fun d => He.fnW (K s) d.at_) = fs.flatten.map He.DefD.val := by
   rw [List.map_flatten, List.map_flatten]
   congr 1
   exact gX fun f h => (hf f h).2
  show some (l s, sn s, ((((fa.all fun f => f.ok (K s)) && (fs.flatten.all fun d => d.ok (K s)), fs.flatten.map fun d => He.fnW (K s) d.at_), ts.map fun t => He.dicW (K s) (t.1 (K s))), ex (K s))) = _
  rw [h1, h2, h3, h4, h5, hall, hmap];rfl
def tT (n : Str) (s : Stmt) : He.DefD := ⟨(n, none), n, n, defArgs s, defBody s, defScope s, [], []⟩
end PH
namespace PHZ
open PH PySem PySem.Spec PyProof.Rows L2
def top (i : Nat) : Stmt := PySem.Challenge.pw_penhome_k56_whole_trace_and_the_last_pen.main.body.getD i (.Pass ⟨0, 0, 0, 0⟩)
abbrev sM : Stmt := top 12
abbrev Bw : Stmt := top 13
abbrev yH : Stmt := top 14
abbrev oH : Stmt := top 15
abbrev xB : Stmt := top 16
abbrev uO : Stmt := top 17
abbrev Ed : Stmt := top 18
abbrev uP : Stmt := top 24
abbrev qU : Stmt := top 25
abbrev lB : Stmt := top 27
abbrev gY : Stmt := top 26
abbrev qV : Stmt := top 28
abbrev qX : Stmt := top 29
abbrev kP : Stmt := (nZ (top 31)).getD 0 (.Pass ⟨0, 0, 0, 0⟩)
abbrev pB : Stmt := (nZ (top 31)).getD 1 (.Pass ⟨0, 0, 0, 0⟩)
abbrev iJ : Stmt := (nZ (top 31)).getD 6 (.Pass ⟨0, 0, 0, 0⟩)
abbrev nV : Stmt := top 32
abbrev fG : Stmt := (nZ (top 34)).getD 0 (.Pass ⟨0, 0, 0, 0⟩)
abbrev gN : Stmt := (nZ (top 34)).getD 1 (.Pass ⟨0, 0, 0, 0⟩)
abbrev fT : Stmt := (nZ (top 34)).getD 2 (.Pass ⟨0, 0, 0, 0⟩)
abbrev fR : Stmt := (nZ (top 34)).getD 3 (.Pass ⟨0, 0, 0, 0⟩)
abbrev fH : Stmt := (nZ (top 34)).getD 4 (.Pass ⟨0, 0, 0, 0⟩)
abbrev fU : Stmt := (nZ (top 34)).getD 5 (.Pass ⟨0, 0, 0, 0⟩)
abbrev gO : Stmt := (nZ (top 34)).getD 6 (.Pass ⟨0, 0, 0, 0⟩)
abbrev pA : Stmt := top 35
abbrev qW : Stmt := top 36
abbrev DO : Stmt := top 37
abbrev yJ : Stmt := top 40
abbrev C0 : Stmt := top 41
abbrev uQ : Stmt := top 42
abbrev Bz : Stmt := top 43
abbrev AJ : Stmt := top 45
abbrev AK : Stmt := top 44
abbrev xD : Stmt := top 46
abbrev C3 : Stmt := top 47
abbrev C1 : Stmt := top 48
abbrev xC : Stmt := top 49
abbrev BL : Stmt := top 50
abbrev BM : Stmt := top 51
abbrev rN : Stmt := top 59
abbrev BK : Stmt := top 52
abbrev yM : Stmt := top 53
abbrev sO : Stmt := top 54
abbrev By : Stmt := top 55
abbrev yL : Stmt := top 56
abbrev sN : Stmt := top 57
abbrev pZ : Stmt := top 58
abbrev yK : Stmt := top 60
abbrev oW : Stmt := top 38
abbrev rM : Stmt := top 61
abbrev rL : Stmt := (nZ (top 5)).getD 0 (.Pass ⟨0, 0, 0, 0⟩)
abbrev uL : Stmt := (nZ (top 8)).getD 0 (.Pass ⟨0, 0, 0, 0⟩)
def wV : He.DefD := tT "is_integer" sM
def EC : He.DefD := tT "is_bit" Bw
def EB : He.DefD := tT "is_pen" yH
def wW : He.DefD := tT "is_command" oH
def Av : He.DefD := tT "executed" xB
def zN : He.DefD := tT "check_pen" uO
def HD : He.DefD := tT "moved" Ed
def zO : He.DefD := tT "blocks_of" uP
def vM : He.DefD := tT "with_blocks" qU
def uB : He.DefD := tT "copied_block" lB
def oD : He.DefD := tT "copied_statement" gY
def vN : He.DefD := tT "well_formed" qV
def vP : He.DefD := tT "first_fault" qX
def zR : He.DefD := ⟨("Book", some "__init__"), "__init__", "Book.__init__", defArgs kP, defBody kP, defScope kP, [], []⟩
def B3 : He.DefD := ⟨("Book", some "__len__"), "__len__", "Book.__len__", defArgs pB, defBody pB, defScope pB, [], []⟩
def vQ : He.DefD := ⟨("Book", some "bodies"), "bodies", "Book.bodies", defArgs iJ, defBody iJ, defScope iJ, [], []⟩
def rX : He.DefD := tT "has_procedure" nV
def qJ : He.DefD := ⟨("Execution", some "__init__"), "__init__", "Execution.__init__", defArgs fG, defBody fG, defScope fG, [], []⟩
def qH : He.DefD := ⟨("Execution", some "take"), "take", "Execution.take", defArgs gN, defBody gN, defScope gN, [], []⟩
def pT : He.DefD := ⟨("Execution", some "enter"), "enter", "Execution.enter", defArgs fT, defBody fT, defScope fT, [], []⟩
def pS : He.DefD := ⟨("Execution", some "leave"), "leave", "Execution.leave", defArgs fR, defBody fR, defScope fR, [], []⟩
def oE : He.DefD := ⟨("Execution", some "unwind"), "unwind", "Execution.unwind", defArgs fH, defBody fH, defScope fH, [], []⟩
def pU : He.DefD := ⟨("Execution", some "begin"), "begin", "Execution.begin", defArgs fU, defBody fU, defScope fU, [], []⟩
def qI : He.DefD := ⟨("Execution", some "step"), "step", "Execution.step", defArgs gO, defBody gO, defScope gO, [], []⟩
def uA : He.DefD := tT "executed_run" pA
def vO : He.DefD := tT "pens_behind" qW
def OE : He.DefD := ⟨("ran", none), "ran", "ran", defArgs DO, defBody DO, defScope DO, [], [("pen", .glo "HOME")]⟩
def EF : He.DefD := tT "_law_pool" yJ
def EI : He.DefD := tT "_law_draw" C0
def zQ : He.DefD := tT "_law_command" uQ
def EG : He.DefD := tT "_law_pair" Bz
def Cc : He.DefD := tT "_law_piece" AJ
def Cd : He.DefD := tT "_law_block" AK
def B0 : He.DefD := tT "_law_around" xD
def EL : He.DefD := tT "_law_body" C3
def EK : He.DefD := tT "_law_book" C1
def Ax : He.DefD := tT "_law_number" xC
def HF : He.DefD := tT "_law_pen" BL
def HG : He.DefD := tT "_law_bit" BM
def EE : He.DefD := tT "_law_task" rN
def HE : He.DefD := tT "_law_run" BK
def EM : He.DefD := tT "_law_bits" yM
def Az : He.DefD := tT "_law_blocks" sO
def ED : He.DefD := tT "_law_with" By
def EJ : He.DefD := tT "_law_copy" yL
def Ay : He.DefD := tT "_law_copies" sN
def zP : He.DefD := tT "_law_steered" pZ
def EH : He.DefD := tT "_law_open" yK
def Ca : He.DefD := ⟨("trace", none), "trace", "trace", defArgs oW, defBody oW, defScope oW, [], [("pen", .glo "HOME")]⟩
def Cb : He.DefD := tT "law" rM
def CZ : He.DefD := ⟨("NoBook", some "__init__"), "__init__", "NoBook.__init__", defArgs rL, defBody rL, defScope rL, [], []⟩
def EA : He.DefD := ⟨("NoRun", some "__init__"), "__init__", "NoRun.__init__", defArgs uL, defBody uL, defScope uL, [], []⟩
def fa : List He.Fa := ([.free "isinstance", .free "int", .free "bool", .free "tuple", .free "len", .free "all", .free "str", .glo "LIMITS", .free "range", .glo "NoPen", .glo "NoCommand", .int "DEEPEST" 3, .free "list", .free "enumerate", .int "MOST_IN_LIST" 8, .int "MOST_IN_PROCEDURE" 12, .int "MOST_PROCEDURES" 3, .glo "NoBook", .cls "Book", .noat "Book" "own"] : List He.Fa) ++ ([.cls "Execution", .noat "Execution" "own", .noat "Execution" "bits", .noat "Execution" "taken", .noat "Execution" "deeds", .noat "Execution" "stack", .noat "Execution" "active", .noat "Execution" "ended", .glo "NoRun", .glo "NoProcedure", .cls "Execution", .mkr "Execution", .glo "Execution", .cls "Book", .mkr "Book", .glo "Book", .free "min", .glo "is_integer", .glo "is_bit", .glo "is_pen"] : List He.Fa) ++ ([.glo "is_command", .glo "executed", .glo "check_pen", .glo "moved", .glo "blocks_of", .glo "with_blocks", .glo "copied_block", .glo "copied_statement", .glo "well_formed", .glo "first_fault", .meth "Book" "__init__", .meth "Book" "__len__", .meth "Book" "bodies", .glo "has_procedure", .meth "Execution" "__init__", .meth "Execution" "take", .meth "Execution" "enter", .meth "Execution" "leave", .meth "Execution" "unwind", .meth "Execution" "begin"] : List He.Fa) ++ ([.meth "Execution" "step", .glo "executed_run", .glo "pens_behind", .glo "ran", .glo "_law_pool", .glo "_law_draw", .glo "_law_command", .glo "_law_pair", .glo "_law_piece", .glo "_law_block", .glo "_law_around", .glo "_law_body", .glo "_law_book", .glo "_law_number", .glo "_law_pen", .glo "_law_bit", .glo "_law_task", .glo "_law_run", .glo "_law_bits", .glo "_law_blocks"] : List He.Fa) ++ ([.glo "_law_with", .glo "_law_copy", .glo "_law_copies", .glo "_law_steered", .glo "_law_open", .glo "trace", .glo "law"] : List He.Fa)
def fn0 : List He.DefD := [CZ, EA, wV, EC, EB, wW, Av, zN, HD, zO, vM, uB, oD, vN, vP, zR, B3, vQ, rX, qJ, qH, pT, pS, oE, pU, qI, uA, vO, OE, EF, EI, zQ, EG, Cc, Cd, B0, EL, EK, Ax, HF, HG, EE, HE, EM, Az, ED, EJ, Ay, zP, EH, Ca, Cb]
def fns : List (List He.DefD) := [fn0]
def fn : List He.DefD := fns.flatten
def ts : List He.Tab := [Hy]
def exs (K : aD) : List Bool := [limB K, xcB K "NoPen", xcB K "NoCommand", xaB K "NoBook" ["procedure", "path"], xaB K "NoRun" ["index"], xcB K "NoProcedure", nsB K ["NoBook", "NoCommand", "NoPath", "NoPen", "NoProcedure", "NoRun"]]
def ex (K : aD) : Bool := (exs K).all id
def loose : List Str := (["_wall", "HomeError", "NoPen", "NoCommand", "NoBook", "NoProcedure", "NoPath", "NoRun", "HOME", "LIMITS", "is_integer", "is_bit", "is_pen", "is_command", "executed", "check_pen", "moved", "MOST_PROCEDURES", "MOST_IN_LIST", "MOST_IN_PROCEDURE", "DEEPEST", "blocks_of", "with_blocks", "copied_statement", "copied_block", "well_formed", "first_fault", "statement_at", "Book", "has_procedure"] : List Str) ++ (["Execution", "executed_run", "pens_behind", "ran", "trace", "_law_pool", "_law_draw", "_law_command", "_law_pair", "_law_block", "_law_piece", "_law_around", "_law_body", "_law_book", "_law_number", "_law_pen", "_law_bit", "_law_run", "_law_bits", "_law_blocks", "_law_with", "_law_copy", "_law_copies", "_law_steered", "_law_task", "_law_open"] : List Str)
abbrev R : PySem.W.OpenRow := PySem.W.OpenLaw.row PySem.Challenge.rw_penhome_k56_whole_trace_and_the_last_pen
abbrev hk : PySem.W.Hook := Rq 1200 fa fn ts ex
def ob (s : Be) : He.AlT × Bool := Sk 1200 fa fn ts ex (HandSHeadRun.getT s)
abbrev OW (w : World) : Prop := HandSHeadRun.RunEq R (mH R.prog [61]) hk ob 8000 loose w
noncomputable abbrev Qu (w : World) (os : OsState) := HandSHeadRun.endF (HandSHeadRun.stepQ (HandSHeadRun.denQ HandSHeadRun.tabQ) R.prog w) 8000 R.prog w os
abbrev Ol (s : Be) : aD := frR (HandSHeadRun.getT s) 1200
set_option maxHeartbeats 0 in
theorem PV (w : World) : ∀ os : OsState, (Qu (w.withFollow "special-get-raises" false) os).map (fun s => (HandSHeadRun.looksF R.prog (Le (w.withFollow "special-get-raises" false).params) s.abs, HandSHeadRun.seenQ (mH R.prog [61]) loose (PySem.importedModules R.prog.main.body) (fun s => PySem.W.xlAt (mH R.prog [61]) [] s && PySem.W.recOk R.toRowW.records s) s.abs, fa.all fun f => f.ok (Ol s), ts.map fun t => He.dicW (Ol s) (t.1 (Ol s)), ex (Ol s))) = some (true, Lj (mH R.prog [61]) loose, true, ts.map (fun t => some (He.keysIn (w.withFollow "special-get-raises" false).params t.2)), true) := by
 intro os
 kernel_rfl
set_option maxHeartbeats 0 in
theorem PX (w : World) : ∀ os : OsState, (Qu (w.withFollow "special-get-raises" false) os).map (fun s => obC fn0 (Ol s)) = some (true, fn0.map He.DefD.val) := by
 intro os
 kernel_rfl
theorem run_f (w : World) : OW (w.withFollow "special-get-raises" false) := fun os => DQ (fs := fns) (PV w os) (Lf.mpr ⟨PX w os, fun f hf => nomatch hf⟩)
set_option maxHeartbeats 0 in
theorem PP (w : World) : ∀ os : OsState, (Qu (w.withFollow "special-get-raises" true) os).map (fun s => (HandSHeadRun.looksF R.prog (Le (w.withFollow "special-get-raises" true).params) s.abs, HandSHeadRun.seenQ (mH R.prog [61]) loose (PySem.importedModules R.prog.main.body) (fun s => PySem.W.xlAt (mH R.prog [61]) [] s && PySem.W.recOk R.toRowW.records s) s.abs, fa.all fun f => f.ok (Ol s), ts.map fun t => He.dicW (Ol s) (t.1 (Ol s)), ex (Ol s))) = some (true, Lj (mH R.prog [61]) loose, true, ts.map (fun t => some (He.keysIn (w.withFollow "special-get-raises" true).params t.2)), true) := by
 intro os
 kernel_rfl
set_option maxHeartbeats 0 in
theorem PQ (w : World) : ∀ os : OsState, (Qu (w.withFollow "special-get-raises" true) os).map (fun s => obC fn0 (Ol s)) = some (true, fn0.map He.DefD.val) := by
 intro os
 kernel_rfl
theorem run_t (w : World) : OW (w.withFollow "special-get-raises" true) := fun os => DQ (fs := fns) (PP w os) (Lf.mpr ⟨PQ w os, fun f hf => nomatch hf⟩)
theorem run_ (w : World) : OW w := PySem.W.byRow2 "special-get-raises" run_f run_t w
end PHZ
namespace PH
open PySem PySem.Spec PyProof.Rows L2
section
variable {X : Cx}
theorem dD {e : Expr} {t u : TE} (h : PE X e t) (i : ∀ σ H Q, u σ H Q -> t σ H Q) : PE X e u := ⟨fun pins s σ H Q I q => h.run pins s σ H Q I (i σ H Q q)⟩
theorem Cj {e : Expr} {t u : TT} (h : PT X e t) (i : ∀ σ H Q, u σ H Q -> t σ H Q) : PT X e u := ⟨fun pins s σ H Q I q => h.run pins s σ H Q I (i σ H Q q)⟩
theorem iC {f : Value -> Value -> Sem Value} {r u : R2} (h : OpR X f r) (i : ∀ x y H Q, u x y H Q -> r x y H Q) : OpR X f u := fun pins s σ H x y v w Q I rx ry q => h pins s σ H x y v w Q I rx ry (i x y H Q q)
theorem oZ {f : Value} {r u : List V -> Hp -> VK -> Prop} (h : CallR X f r) (i : ∀ xs H Q, u xs H Q -> r xs H Q) : CallR X f u := fun pins s σ H xs us Q I rx q => h pins s σ H xs us Q I rx (i xs H Q q)
theorem Jv {r u : R2} (h : IxR X r) (i : ∀ x y H Q, u x y H Q -> r x y H Q) : IxR X u := fun e1 e2 pins s σ H x y v w Q I rx ry q => h e1 e2 pins s σ H x y v w Q I rx ry (i x y H Q q)
def sl : L2.St -> Nat -> Option V
 | [], _ => none
 | x :: _, 0 => x
 | _ :: r, n + 1 => sl r n
theorem RT : ∀ {σ : L2.St} {i : Nat} {v : V}, sl σ i = some v -> σ[i]? = some (some v)
 | [], _, _, h => by cases h
 | x :: _, 0, v, h => by
  have e : x = some v := h;rw [e]; rfl
 | _ :: r, n + 1, v, h => by
  have e := RT (σ := r) (i := n) (v := v) h
  simpa using e
def F9 (i : Nat) : TE := fun σ H Q => match sl σ i with
 | some v => Q v H
 | none => False
theorem cv (i : Nat) {x : Str} {pos : Pos} (hN : X.N[i]? = some x := by rfl) (hv : Vis X.env.scope x := by first | exact D0 rfl | exact BF (D0 rfl) | exact BF (BF rfl)) (hd : (x == ("__debug__" : Str)) = false := by decide)
  (hcd : (x == ("__classdict__" : Str)) = false := by decide) : PE X (.Name x pos) (F9 i) := dD (pe_var hN hv hd hcd) fun σ H Q h => by
 unfold F9 at h;cases e : sl σ i with
 | none => rw [e] at h; exact h.elim
 | some v => rw [e] at h; exact ⟨v, RT e, h⟩
def cI0 (g : Int -> Int -> V) : R2 := fun x y H Q => match x, y with
 | .int i, .int j => Q (g i j) H
 | _, _ => False
def cI (C : Int -> Int -> Prop) (g : Int -> Int -> V) : R2 := fun x y H Q => match x, y with
 | .int i, .int j => C i j /\ Q (g i j) H
 | _, _ => False
theorem xM {g : Int -> Int -> V} : ∀ x y H Q, cI0 g x y H Q -> rI0 g x y H Q := fun x y H Q h => by
 cases x with
 | int i => cases y with
  | int j => exact ⟨i, j, rfl, rfl, h⟩
  | _ => exact h.elim
 | _ => exact h.elim
theorem Jq {C : Int -> Int -> Prop} {g : Int -> Int -> V} : ∀ x y H Q, cI C g x y H Q -> rI C g x y H Q := fun x y H Q h => by
 cases x with
 | int i => cases y with
  | int j => exact ⟨i, j, rfl, rfl, h.1, h.2⟩
  | _ => exact h.elim
 | _ => exact h.elim
def rAddI : R2 := fun x y H Q => match x, y with
 | .int i, .int j => Q (.int (i + j)) H
 | _, _ => False
def Ma : R2 := fun x y H Q => match x, y with
 | .int i, .int j => Q (.int (i - j)) H
 | _, _ => False
def RZ : R2 := fun x y H Q => match x, y with
 | .int i, .int j => IntMulOk i j /\ Q (.int (i * j)) H
 | _, _ => False
def Ra : R2 := fun x y H Q => match x, y with
 | .int i, .int j => (0 < j) /\ Q (.int (i % j)) H
 | _, _ => False
def Md : R2 := fun x y H Q => match x, y with
 | .int i, .int j => (CDiv i j) /\ Q (.int (i / j)) H
 | _, _ => False
def RY : R2 := fun x y H Q => match x, y with
 | .int i, .int j => (CPow i j) /\ Q (.int (i ^ j.toNat)) H
 | _, _ => False
def rLtC : R2 := fun x y H Q => match x, y with
 | .int i, .int j => Q (.bl (decide (i < j))) H
 | _, _ => False
def rLeC : R2 := fun x y H Q => match x, y with
 | .int i, .int j => Q (.bl (decide (i <= j))) H
 | _, _ => False
def rGtC : R2 := fun x y H Q => match x, y with
 | .int i, .int j => Q (.bl (decide (j < i))) H
 | _, _ => False
def rGeC : R2 := fun x y H Q => match x, y with
 | .int i, .int j => Q (.bl (decide (j <= i))) H
 | _, _ => False
def cAdd (K : aD) : R2 := fun x y H Q => match x, y with
 | .int i, .int j => Q (.int (i + j)) H
 | .str a, .str b => a.length + b.length <= sizeLine /\ Q (.str (a ++ b)) H
 | .ref _, .ref _ => rCat x y H Q \/ rCatA K x y H Q
 | _, _ => False
theorem bT : OpR X (binaryOp .Add) (cAdd X.K) := by
 refine iC (OpR.or (X := X) op_add (OpR.or op_add_str (OpR.or op_cat op_catA))) fun x y H Q h => ?_
 cases x with
 | int i => cases y with
  | int j => exact .inl ⟨i, j, rfl, rfl, h⟩
  | _ => exact h.elim
 | str i => cases y with
  | str j => exact .inr (.inl ⟨i, j, rfl, rfl, h.1, h.2⟩)
  | _ => exact h.elim
 | ref i => cases y with
  | ref j => exact .inr (.inr h)
  | _ => exact h.elim
 | _ => exact h.elim
theorem fV : OpR X (binaryOp .Sub) Ma := iC op_sub fun x y H Q h => xM (g := fun i j => .int (i - j)) x y H Q h
theorem Pf : OpR X (binaryOp .Mult) (rI IntMulOk fun i j => .int (i * j)) := opI fun _ _ _ _ _ _ _ hc q => mul_int q hc
theorem mV : OpR X (binaryOp .Mult) RZ := iC Pf fun x y H Q h => Jq (C := IntMulOk) (g := fun i j => .int (i * j)) x y H Q h
theorem mulL {i j : Int} (h1 : -(2 ^ 64) < i) (h2 : i < 2 ^ 64) : IntMulOk i j := CMul.ok (.inl ⟨h1, h2⟩)
theorem mulR {i j : Int} (h1 : -(2 ^ 64) < j) (h2 : j < 2 ^ 64) : IntMulOk i j := CMul.ok (.inr ⟨h1, h2⟩)
theorem lE : OpR X (binaryOp .Mod) Ra := iC op_mod fun x y H Q h => Jq (C := fun _ j => 0 < j) (g := fun i j => .int (i % j)) x y H Q h
theorem uU : OpR X (binaryOp .FloorDiv) Md := iC op_fdiv fun x y H Q h => Jq (C := CDiv) (g := fun i j => .int (i / j)) x y H Q h
theorem JD : OpR X (binaryOp .Pow) RY := iC op_pow fun x y H Q h => Jq (C := CPow) (g := fun i j => .int (i ^ j.toNat)) x y H Q h
theorem mP : OpR X (compareOp .Lt) rLtC := iC op_lt fun x y H Q h => xM (g := fun i j => .bl (decide (i < j))) x y H Q h
theorem uT : OpR X (compareOp .LtE) rLeC := iC op_le fun x y H Q h => xM (g := fun i j => .bl (decide (i <= j))) x y H Q h
theorem lF : OpR X (compareOp .Gt) rGtC := iC op_gt fun x y H Q h => xM (g := fun i j => .bl (decide (j < i))) x y H Q h
theorem Mj : OpR X (compareOp .GtE) rGeC := iC op_ge fun x y H Q h => xM (g := fun i j => .bl (decide (j <= i))) x y H Q h
def cNeg : V -> Hp -> VK -> Prop := fun x H Q => match x with
 | .int i => Q (.int (-i)) H
 | _ => False
theorem Ou : UnR X (unaryOp .USub) cNeg := fun pins s σ H x v Q I rx h => un_neg pins s σ H x v Q I rx (by
 cases x with
 | int i => exact ⟨i, rfl, h⟩
 | _ => exact h.elim)
def cEq (K : aD) : R2 := fun x y H Q => match x, y with
 | .int i, .int j => Q (.bl (decide (i = j))) H
 | .str i, .str j => Q (.bl (decide (i = j))) H
 | _, _ => rEqD K x y H Q
def cNe (K : aD) : R2 := fun x y H Q => match x, y with
 | .int i, .int j => Q (.bl (!decide (i = j))) H
 | .str i, .str j => Q (.bl (!decide (i = j))) H
 | _, _ => rNeD K x y H Q
theorem dI {i j : Int} : decide (V.int i = V.int j) = decide (i = j) := by
 by_cases h : i = j
 ·rw [decide_eq_true h, h, decide_eq_true rfl]
 ·rw [decide_eq_false h, decide_eq_false fun e => h (V.int.inj e)]
theorem dS {i j : Str} : decide (V.str i = V.str j) = decide (i = j) := by
 by_cases h : i = j
 ·rw [decide_eq_true h, h, decide_eq_true rfl]
 ·rw [decide_eq_false h, decide_eq_false fun e => h (V.str.inj e)]
theorem bG (hu : X.A.units + 64 < cLine) : OpR X (compareOp .Eq) (cEq X.K) := by
 refine iC (OpR.or (X := X) op_eq (op_eqD hu)) fun x y H Q h => ?_
 cases x with
 | int i => cases y with
  | int j => exact .inl ⟨rfl, by rw [dI]; exact h⟩
  | _ => exact .inr h
 | str i => cases y with
  | str j => exact .inl ⟨rfl, by rw [dS]; exact h⟩
  | _ => exact .inr h
 | _ => exact .inr h
theorem sP (hu : X.A.units + 64 < cLine) : OpR X (compareOp .NotEq) (cNe X.K) := by
 refine iC (OpR.or (X := X) op_ne (op_neD hu)) fun x y H Q h => ?_
 cases x with
 | int i => cases y with
  | int j => exact .inl ⟨rfl, by rw [dI]; exact h⟩
  | _ => exact .inr h
 | str i => cases y with
  | str j => exact .inl ⟨rfl, by rw [dS]; exact h⟩
  | _ => exact .inr h
 | _ => exact .inr h
variable {a b c : Expr} {ta tb tc : TE} {pos : Pos}
def cT (K : aD) : V -> Hp -> (Bool -> Hp -> Prop) -> Prop := fun x H Q => match x with
 | .bl k => Q k H
 | .non => Q false H
 | .int i => Q (i != 0) H
 | x => ∃ k, TruV K x H k /\ Q k H
def cTest (K : aD) (t : TE) : TT := fun σ H Q => t σ H fun x H' => cT K x H' Q
theorem OL {K : aD} : ∀ x H Q, cT K x H Q -> ∃ k, TruV K x H k /\ Q k H := fun x H Q h => by
 cases x with
 | bl k => exact ⟨k, rfl, h⟩
 | non => exact ⟨false, rfl, h⟩
 | int i => exact ⟨_, rfl, h⟩
 | _ => exact h
theorem t_val (ha : PE X a ta) (he : ∀ whole, isTrue a X.env whole = (do let v <- whole; standAt a.pos; holding [v] (truthy v)) := by intro _; rfl) : PT X a (cTest X.K ta) := by
 refine ⟨fun pins s σ H Q I h => ?_⟩
 exact isTrue_plain (thn (ha.run pins s σ H _ I h) fun v s1 ⟨x, H1, I1, r1, q1⟩ => tru_ok pins s1 σ H1 x v Q I1 r1 (OL x H1 Q q1)) (he _)
def cB (t : TE) : TT := fun σ H Q => t σ H fun x H' => match x with
 | .bl k => Q k H'
 | _ => False
theorem RR {op : CmpOp} {r : R2} (ho : OpR X (compareOp op) r) (ha : PE X a ta) (hb : PE X b tb) (hm : behindInMarks op b = false := by rfl) : PT X (.Compare a [op] [b] pos) (cB (tOp r ta tb)) := by
 refine ⟨fun pins s σ H Q I h => ?_⟩
 have h' : ta σ H fun x H1 => tb σ H1 fun y H2 => r x y H2 fun z H3 => (match z with | .bl k => Q k H3 | _ => False) := h
 refine wpAny_isTrue_Compare1 (thn (ha.run pins s σ H _ I h') fun v s1 ⟨x, H1, I1, r1, q1⟩ => thn (hb.run pins s1 σ H1 _ I1 q1) fun u s2 ⟨y, H2, I2, r2, q2⟩ => thn (ho pins s2 σ H2 x y v u _ I2 r1 r2 q2) fun d s3 hz => ?_) hm
 obtain ⟨z, H3, I3, r3, q3⟩ := hz;cases z with
 | bl k => cases r3; exact wpAny_truthy_bool ⟨H3, I3, q3⟩
 | _ => exact q3.elim
theorem e_cmp {op : CmpOp} {r : R2} (ho : OpR X (compareOp op) r) (ha : PE X a ta) (hb : PE X b tb) (hm : behindInMarks op b = false := by rfl) : PE X (.Compare a [op] [b] pos) (tOp r ta tb) := pe_cmpR ho ha hb hm
end
section
variable {X : Cx} {a b c : Expr} {ta tb tc : TE} {pos : Pos}
variable {rest : List Expr}
def cAndV (ta tb : TE) : TE := fun σ H Q => ta σ H fun x H1 => match x with
 | .bl c => if c = true then tb σ H1 Q else Q (.bl false) H1
 | _ => False
def cNotV (K : aD) (ta : TE) : TE := fun σ H Q => ta σ H fun x H1 => cT K x H1 fun k H2 => Q (.bl (!k)) H2
theorem e_and (ha : PE X a ta) (hb : PE X (.BoolOp .And (b :: rest) pos) tb) : PE X (.BoolOp .And (a :: b :: rest) pos) (cAndV ta tb) := by
 refine ⟨fun pins s σ H Q I h => ?_⟩
 refine BoolOp_and (thn (ha.run pins s σ H _ I h) fun v s1 hq => ?_)
 obtain ⟨x, H1, I1, r1, q1⟩ := hq;cases x with
 | bl c =>
  cases r1;refine wpAny_truthy_bool ?_
  cases c with
  | true => exact hb.run pins s1 σ H1 Q I1 q1
  | false => exact ⟨.bl false, H1, I1, rfl, q1⟩
 | _ => exact q1.elim
theorem e_not (ha : PE X a ta) : PE X (.UnaryOp .Not a pos) (cNotV X.K ta) := by
 refine ⟨fun pins s σ H Q I h => ?_⟩
 refine UnaryOp_ (thn (ha.run pins s σ H _ I h) fun v s1 hq => ?_)
 obtain ⟨x, H1, I1, r1, q1⟩ := hq;exact not_of (thn (tru_ok pins s1 σ H1 x v (fun c H2 => Q (.bl (!c)) H2) I1 r1 (OL x H1 _ q1)) fun c s2 ⟨H2, I2, q2⟩ => ⟨.bl (!c), H2, I2, rfl, q2⟩)
def FB (r r' : R2) (ta tb tc : TE) : TE := fun σ H Q => ta σ H fun x H1 => tb σ H1 fun y H2 => r x y H2 fun z H3 => match z with
 | .bl k => if k = true then tc σ H3 fun w' H4 => r' y w' H4 Q else Q (.bl false) H3
 | _ => False
theorem Qw {op op' : CmpOp} {r r' : R2} (ho : OpR X (compareOp op) r) (ho' : OpR X (compareOp op') r') (ha : PE X a ta) (hb : PE X b tb) (hc : PE X c tc)
  (hm : lastMarks [op, op'] [b, c] = false := by with_unfolding_all rfl) : PE X (.Compare a [op, op'] [b, c] pos) (FB r r' ta tb tc) := by
 refine ⟨fun pins s σ H Q I h => ?_⟩
 refine Compare_chain (thn (ha.run pins s σ H _ I h) fun v s1 ⟨x, H1, I1, r1, q1⟩ => chain_link (thn (hb.run pins s1 σ H1 _ I1 q1) fun u s2 ⟨y, H2, I2, r2, q2⟩ =>
  thn (ho pins s2 σ H2 x y v u _ I2 r1 r2 q2) fun d s3 hz => ?_)) hm
 obtain ⟨z, H3, I3, r3, q3⟩ := hz;cases z with
 | bl k =>
  cases r3;refine wpAny_truthy_bool ?_
  cases k with
  | false => exact ite_ff ⟨.bl false, H3, I3, rfl, q3⟩
  | true => exact ite_tt (chain_last (thn (hc.run pins s3 σ H3 _ I3 q3) fun w' s4 ⟨z', H4, I4, r4, q4⟩ => ho' pins s4 σ H4 y z' u w' Q I4 r2 r4 q4))
 | _ => exact q3.elim
theorem Oz {op op' : CmpOp} {r r' : R2} (ho : OpR X (compareOp op) r) (ho' : OpR X (compareOp op') r') (ha : PE X a ta) (hb : PE X b tb) (hc : PE X c tc)
  (hm : lastMarks [op, op'] [b, c] = false := by with_unfolding_all rfl) : PT X (.Compare a [op, op'] [b, c] pos) (cB (FB r r' ta tb tc)) := by
 refine ⟨fun pins s σ H Q I h => ?_⟩
 refine isTrue_chain (thn (ha.run pins s σ H _ I h) fun v s1 ⟨x, H1, I1, r1, q1⟩ => test_link (thn (hb.run pins s1 σ H1 _ I1 q1) fun u s2 ⟨y, H2, I2, r2, q2⟩ =>
  thn (ho pins s2 σ H2 x y v u _ I2 r1 r2 q2) fun d s3 hz => ?_)) hm
 obtain ⟨z, H3, I3, r3, q3⟩ := hz;cases z with
 | bl k =>
  cases r3;refine wpAny_truthy_bool ?_
  cases k with
  | false => exact ite_ff ⟨H3, I3, q3⟩
  | true =>
   refine ite_tt (test_last (thn (hc.run pins s3 σ H3 _ I3 q3) fun w' s4 ⟨z', H4, I4, r4, q4⟩ => thn (ho' pins s4 σ H4 y z' u w' _ I4 r2 r4 q4) fun d' s5 hz2 => ?_))
   obtain ⟨z2, H5, I5, r5, q5⟩ := hz2;cases z2 with
   | bl k2 => cases r5; exact wpAny_truthy_bool ⟨H5, I5, q5⟩
   | _ => exact q5.elim
 | _ => exact q3.elim
def cIx (K : aD) : R2 := fun x y H Q => match x, y with
 | .ref p, .int i => ∃ xs v, (SqL K H p xs \/ SqT K H p xs) /\ atI xs i = some v /\ Q v H
 | .str z, .int i => z.length <= sizeLine /\ ∃ c, atI z.cps.toList i = some c /\ Q (.str ⟨#[c]⟩) H
 | _, _ => False
theorem ix_C : IxR X (cIx X.K) := Jv ix_seq fun x y H Q h => by
 cases x with
 | ref p => cases y with
  | int i =>
   obtain ⟨xs, v, h1 | h1, h2, q⟩ := h
   ·exact .inl ⟨p, xs, i, v, rfl, rfl, h1, h2, q⟩
   ·exact .inr (.inl ⟨p, xs, i, v, rfl, rfl, h1, h2, q⟩)
  | _ => exact h.elim
 | str z => cases y with
  | int i =>
   obtain ⟨h1, c, h2, q⟩ := h;exact .inr (.inr ⟨z, i, c, rfl, rfl, h1, h2, q⟩)
  | _ => exact h.elim
 | _ => exact h.elim
theorem e_ix (ha : PE X a ta) (hb : PE X b tb) (hs : PlainIx b := by intro _ _; rfl) : PE X (.Subscript a b pos) (tOp (cIx X.K) ta tb) := pe_ix ix_C ha hb hs
def cLen (K : aD) : V -> Hp -> VK -> Prop := fun x H Q => match x with
 | .str z => z.length <= sizeLine /\ Q (.int z.length) H
 | .ref p => ∃ ys, (SqL K H p ys \/ SqT K H p ys) /\ Q (.int ys.length) H
 | _ => False
def c1 (r : V -> Hp -> VK -> Prop) : List V -> Hp -> VK -> Prop := fun xs H Q => match xs with
 | [x] => r x H Q
 | _ => False
theorem e_len {p : Pos} (hm : X.mg "len" = none) (ha : PE X a ta) (hg : Gl X "len" := by rfl) (hs : starEach [a] X.env = [(false, eval a X.env)] := by rfl) : PE X (.Call (.Name "len" p) [a] [] pos) (tCB (c1 (cLen X.K)) (tCons ta tNil)) :=
 pe_callB (oZ (CallR.or call_len_seq call_len_str) fun xs H Q h => by
  match xs, h with
  | [x], h =>
   cases x with
   | str z => exact .inr ⟨z, rfl, h.1, h.2⟩
   | ref p =>
    obtain ⟨ys, h1, q⟩ := h;exact .inl ⟨p, ys, rfl, h1, q⟩
   | _ => exact h.elim) hg hm boot_len (pa_cons ha pa_nil hs) (he := hs)
def cInt : V -> Hp -> VK -> Prop := fun x H Q => match x with
 | .int i => Q (.int i) H
 | .bl k => Q (.int (if k then 1 else 0)) H
 | _ => False
theorem e_int {p : Pos} (hm : X.mg "int" = none) (ha : PE X a ta) (hg : Gl X "int" := by rfl) (hs : starEach [a] X.env = [(false, eval a X.env)] := by rfl) : PE X (.Call (.Name "int" p) [a] [] pos) (tCB (c1 cInt) (tCons ta tNil)) :=
 pe_callTy (oZ call_int1 fun xs H Q h => by
  match xs, h with
  | [x], h =>
   cases x with
   | int i => exact .inl ⟨i, rfl, h⟩
   | bl k => exact .inr ⟨k, rfl, h⟩
   | _ => exact h.elim) hg hm boot_int (pa_cons ha pa_nil hs) (he := hs)
def isTy (T n : String) : Bool := n == T || (n == "bool" && T == "int")
def kinds : List String := ["NoneType", "bool", "int", "str", "list", "tuple", "dict"]
def targets : List String := ["int", "bool", "str", "list", "tuple", "dict"]
theorem Px (K : aD) : (kinds.all fun n => targets.all fun T => decide (PySem.W.kitOne K (.type n) (.type T) = some (isTy T n))) = true := by kernel_rfl
theorem T8 {K : aD} {n T : String} (hn : n ∈ kinds) (hT : T ∈ targets) : PySem.W.kitOne K (.type n) (.type T) = some (isTy T n) :=
 of_decide_eq_true (cD.mp (cD.mp (Px K) n hn) T hT)
def Ck (K : aD) (H : Hp) (a : Addr) (n : String) : Prop := n ∈ ["list", "tuple", "dict"] /\ TyX K H (.ref a) (.type n)
def OM (K : aD) (T : String) : V -> Hp -> VK -> Prop := fun x H Q => match x with
 | .non => Q (.bl false) H
 | .bl _ => Q (.bl (T == "bool" || T == "int")) H
 | .int _ => Q (.bl (T == "int")) H
 | .str _ => Q (.bl (T == "str")) H
 | .ref a => ∃ n, Ck K H a n /\ Q (.bl (n == T)) H
 | _ => False
def cIsiL (K : aD) (T : String) : List V -> Hp -> VK -> Prop := fun xs H Q => match xs with
 | [x, .ty n] => if n = T then OM K T x H Q else False
 | _ => False
theorem LU {T : String} (hT : T ∈ targets) : CallR X (.builtin "isinstance") (cIsiL X.K T) := oZ call_isi fun xs H Q h => by
 match xs, h with
 | [x, .ty n], h =>
  have h0 : if n = T then OM X.K T x H Q else False := h
  by_cases e : n = T
  case neg => rw [if_neg e] at h0; exact h0.elim
  rw [if_pos e] at h0
  replace h := h0
  subst e;have go : ∀ (k : String) (b : Bool), k ∈ kinds -> TyX X.K H x (.type k) -> b = isTy n k -> Q (.bl b) H -> rIsi X.K [x, .ty n] H Q := fun k b hk ty e q => ⟨x, .ty n, .type k, .type n, isTy n k, rfl, .ty n, ty, T8 hk hT, by rw [<- e]; exact q⟩
  have h6 : n = "int" \/ n = "bool" \/ n = "str" \/ n = "list" \/ n = "tuple" \/ n = "dict" := by simpa [targets] using hT
  cases x with
  | non => exact go "NoneType" false (by decide) (.base .non) (by rcases h6 with e | e | e | e | e | e <;> subst e <;> decide) h
  | bl b => exact go "bool" _ (by decide) (.base (.bl b)) (by rcases h6 with e | e | e | e | e | e <;> subst e <;> decide) h
  | int b => exact go "int" _ (by decide) (.base (.int b)) (by rcases h6 with e | e | e | e | e | e <;> subst e <;> decide) h
  | str b => exact go "str" _ (by decide) (.base (.str b)) (by rcases h6 with e | e | e | e | e | e <;> subst e <;> decide) h
  | ref a =>
   obtain ⟨k, ⟨hk, ty⟩, q⟩ := h;have h3 : k = "list" \/ k = "tuple" \/ k = "dict" := by simpa using hk
   exact go k _ (by rcases h3 with e | e | e <;> subst e <;> decide) ty (by rcases h6 with e | e | e | e | e | e <;> rcases h3 with e' | e' | e' <;> subst e <;> subst e' <;> decide) q
  | _ => exact h.elim
def cIsE (K : aD) (T : String) (ta : TE) : TE := fun σ H Q => ta σ H fun x H1 => OM K T x H1 Q
theorem e_isi {p q : Pos} {T : String} {y : Str} (hm : X.mg "isinstance" = none) (hmT : X.mg y = none) (ha : PE X a ta) (hT : T ∈ targets := by decide) (hv : bootBuiltins y = some (.type T) := by decide +kernel)
  (hg : Gl X "isinstance" := by rfl) (hgT : Gl X y := by rfl) (hn : y ≠ "__name__" := by decide) (hd : (y == ("__debug__" : Str)) = false := by decide) (hs : starEach [a, .Name y q] X.env = (false, eval a X.env) :: starEach [.Name y q] X.env := by rfl) :
  PE X (.Call (.Name "isinstance" p) [a, .Name y q] [] pos) (cIsE X.K T ta) :=
 dD (pe_callB (LU hT) hg hm boot_isinstance (pa_cons ha (pa_cons (pe_bltn (v := .ty T) hgT hmT hv rfl hn hd) pa_nil) hs) (he := hs)) fun σ H Q h => by
  show ta σ H fun x H1 => if T = T then OM X.K T x H1 Q else False
  simp only [if_true];exact h
def cAll (K : aD) : V -> Hp -> VK -> Prop := fun x H Q => match x with
 | .ref p => ∃ bs : List Bool, SqL K H p (bs.map V.bl) /\ Q (.bl (bs.all id)) H
 | _ => False
theorem e_all {p : Pos} (hm : X.mg "all" = none) (ha : PE X a ta) (hc : X.calm = true := by rfl) (hg : Gl X "all" := by rfl) (hs : starEach [a] X.env = [(false, eval a X.env)] := by rfl) : PE X (.Call (.Name "all" p) [a] [] pos) (tCB (c1 (cAll X.K)) (tCons ta tNil)) :=
 pe_callB (oZ (cr_all hc) fun xs H Q h => by
  match xs, h with
  | [x], h =>
   cases x with
   | ref p =>
    obtain ⟨bs, h1, q⟩ := h;exact ⟨p, bs, rfl, h1, q⟩
   | _ => exact h.elim) hg hm boot_all (pa_cons ha pa_nil hs) (he := hs)
def SC (K : aD) : V -> Hp -> VK -> Prop := fun x H Q => match x with
 | .ref p => ∃ ys, (SqL K H p ys \/ SqT K H p ys) /\ ∀ l, H l = none -> Q (.ref l) (upd H l (.lst ys))
 | _ => False
theorem UO {p : Pos} (hm : X.mg "list" = none) (ha : PE X a ta) (hg : Gl X "list" := by rfl) (hs : starEach [a] X.env = [(false, eval a X.env)] := by rfl) : PE X (.Call (.Name "list" p) [a] [] pos) (tCB (c1 (SC X.K)) (tCons ta tNil)) :=
 pe_callTy (oZ call_list_of fun xs H Q h => by
  match xs, h with
  | [x], h =>
   cases x with
   | ref p =>
    obtain ⟨bs, h1, q⟩ := h;exact ⟨p, bs, rfl, h1, q⟩
   | _ => exact h.elim) hg hm boot_list (pa_cons ha pa_nil hs) (he := hs)
def OK (K : aD) : V -> Hp -> VK -> Prop := fun x H Q => match x with
 | .ref p => ∃ ys, SqL K H p ys /\ ∀ l, H l = none -> Q (.ref l) (upd H l (.tup ys))
 | _ => False
theorem Qv {p : Pos} (hm : X.mg "tuple" = none) (ha : PE X a ta) (hg : Gl X "tuple" := by rfl) (hs : starEach [a] X.env = [(false, eval a X.env)] := by rfl) : PE X (.Call (.Name "tuple" p) [a] [] pos) (tCB (c1 (OK X.K)) (tCons ta tNil)) :=
 pe_callTy (oZ call_tuple_of fun xs H Q h => by
  match xs, h with
  | [x], h =>
   cases x with
   | ref p =>
    obtain ⟨ys, h1, q⟩ := h;exact ⟨p, ys, rfl, .inl ⟨h1, q⟩⟩
   | _ => exact h.elim) hg hm boot_tuple (pa_cons ha pa_nil hs) (he := hs)
def sp2 (p : V -> V -> Hp -> VK -> Prop) : Sp := fun vs H Q _ => match vs with
 | [a, b] => p a b H Q
 | _ => False
end
def Ok (P : Program) (w : World) (K : aD) (mg : Str -> Option Value) (base : Heap) (k : Nat) (x : Str) (ps : List Str) (sp : Sp) : Prop :=
 ∃ fd, FnOk P w K mg base CX0 k (He.ga K x) fd ps sp /\ mg x = some (.ref (He.ga K x)) /\ gW K (.ref (He.ga K x)) = true /\ Binds K fd ps [] /\ ∃ oc od osl, K.lookup (He.ga K x) = some ⟨oc, od, .func fd, osl⟩
section
variable {P : Program} {w : World} {K : aD} {mg : Str -> Option Value} {base : Heap}
abbrev qQ (K : aD) (x : Str) (st : Stmt) : Prop := ∃ fd, FunD K x x (defArgs st) (defBody st) (defScope st) [] [] (He.ga K x) fd
end
section
variable {X : Cx} {o i e : Expr} {to ti te : TE} {pos tpos : Pos}
def Jr : V -> V -> Hp -> VK -> Prop := fun x y H Q => match x, y with
 | .ref p, .int i => ∃ xs v, H p = some (.lst xs) /\ 0 <= i /\ xs[i.toNat]? = some v /\ Q v H
 | _, _ => False
theorem Kv : PGet X Jr := by
 intro pins s σ H o i ov iv Q I ro ri h;cases o with
 | ref p => cases i with
  | int k =>
   obtain ⟨xs, v, hp, h0, hx, q⟩ := h;cases ro;obtain ⟨t, rfl⟩ := ri;obtain ⟨its, r, pl, hz⟩ := I.list (.inl (.inl hp));obtain ⟨w, ew, rw'⟩ := r.get hx;have hl := r.length;have hn := line63;have hlt : k.toNat < xs.length := (aH.mp hx).1;exact wpAny_getItem_list pl.isList h0 (by omega) (by simpa using ew) ⟨v, H, I, rw', q⟩
  | _ => exact h.elim
 | _ => exact h.elim
def Jp : V -> V -> V -> Hp -> (Hp -> Prop) -> Prop := fun o i v H Q => match o, i with
 | .ref p, .int k => ∃ xs, H p = some (.lst xs) /\ 0 <= k /\ k.toNat < xs.length /\ Q (upd H p (.lst (xs.set k.toNat v)))
 | _, _ => False
theorem DJ : PSet X Jp := by
 intro pins s σ H o i v ov iv u Q I ro ri rv h;refine set_list pins s σ H o i v ov iv u Q I ro ri rv ?_
 cases o with
 | ref p => cases i with
  | int k =>
   obtain ⟨xs, hp, h0, hk, q⟩ := h;exact ⟨p, xs, k, k.toNat, rfl, rfl, hp, by unfold ixN; rw [if_pos h0, if_pos (by omega)], q⟩
  | _ => exact h.elim
 | _ => exact h.elim
def cIp (r : R2) : TIp := fun x y H Q => r x y H Q
theorem Eu : PIp X .Add (cIp rAddI) := fun pins s σ H x y v u Q I r1 r2 h => ip_add pins s σ H x y v u Q I r1 r2 (xM (g := fun i j => .int (i + j)) x y H Q h)
theorem Q4 : PIp X .Sub (cIp Ma) := fun pins s σ H x y v u Q I r1 r2 h => ip_sub pins s σ H x y v u Q I r1 r2 (xM (g := fun i j => .int (i - j)) x y H Q h)
theorem MU {op : Operator} {tip : TIp} (ho : PE X o to) (hi : PE X i ti) (he : PE X e te) (hp : PIp X op tip)
  (ha : ∀ ov iv new, augStore i ov iv new = (do holding [new, ov, iv] (setItem ov iv new); release [new, ov, iv] []; pure .next) := by intros; rfl) : PS X (.AugAssign (.Subscript o i tpos) op e pos) (tAugS to ti te Jr tip Jp) :=
 ps_augS ho hi Kv he hp DJ ha
end
section
variable {X : Cx} {tg e : Expr} {te : TE} {pos p : Pos}
def Rb : R2 := fun x y H Q => match y with
 | .non => Q (.bl (decide (x = .non))) H
 | _ => False
def Mb : R2 := fun x y H Q => match y with
 | .non => Q (.bl (!decide (x = .non))) H
 | _ => False
theorem Ei : OpR X (compareOp .Is) Rb := iC op_isN fun x y H Q h => by
 cases y with
 | non => exact ⟨rfl, h⟩
 | _ => exact h.elim
theorem Fz : OpR X (compareOp .IsNot) Mb := iC op_notN fun x y H Q h => by
 cases y with
 | non => exact ⟨rfl, h⟩
 | _ => exact h.elim
def cPart (t : TE) : TO := fun σ H Q => t σ H fun x H1 => match x with
 | .int i => Q (some i) H1
 | _ => False
theorem Mg (h : PE X e te) : PO X (some e) (cPart te) := by
 refine ⟨fun pins s σ H Q I hw => ?_⟩
 rw [evalPart_some];refine thn (h.run pins s σ H _ I hw) fun u s1 hq => ?_
 obtain ⟨x, H1, I1, r1, q1⟩ := hq;cases x with
 | int i =>
  obtain ⟨t, rfl⟩ := r1;exact ⟨some i, H1, I1, .int i t, q1⟩
 | _ => exact q1.elim
theorem RF {r u : V -> Option Int -> Option Int -> Hp -> VK -> Prop} (h : SlR X r) (i : ∀ x lo hi H Q, u x lo hi H Q -> r x lo hi H Q) : SlR X u := by
 intro pins s σ H x v vl vu lo hi sl Q I rx hs pl pu q;exact h pins s σ H x v vl vu lo hi sl Q I rx hs pl pu (i x lo hi H Q q)
def cSl (K : aD) : V -> Option Int -> Option Int -> Hp -> VK -> Prop := fun x lo hi H Q => match x with
 | .ref a => (∃ xs, SqL K H a xs /\ ∀ p, H p = none -> Q (.ref p) (upd H p (.lst (cutV xs lo hi)))) \/ (∃ xs, SqT K H a xs /\
  (HT.sIx xs.length 0 lo = 0 /\ HT.sIx xs.length xs.length hi = xs.length -> Q (.ref a) H) /\ (¬ (HT.sIx xs.length 0 lo = 0 /\ HT.sIx xs.length xs.length hi = xs.length) -> ∀ p, H p = none -> Q (.ref p) (upd H p (.tup (cutV xs lo hi)))))
 | .str z => z.length <= sizeLine /\ Q (.str (cutS z lo hi)) H
 | _ => False
theorem sl_C : SlR X (cSl X.K) := RF (SlR.or sl_list (SlR.or sl_tupA sl_str)) fun x lo hi H Q h => by
 cases x with
 | ref a =>
  rcases h with ⟨xs, h1, q⟩ | ⟨xs, h1, q⟩
  ·exact .inl ⟨a, xs, rfl, h1, q⟩
  ·exact .inr (.inl ⟨a, xs, rfl, h1, q⟩)
 | str z => exact .inr (.inr ⟨z, rfl, h⟩)
 | _ => exact h.elim
def iSeq (K : aD) (tl : TE) : TI := fun σ H R => tl σ H fun x H1 => match x with
 | .ref a => ((∃ xs, SqL K H1 a xs) /\ R (Itl K a) H1) \/ ((∃ xs, SqT K H1 a xs) /\ R (Itt K a) H1)
 | _ => False
theorem Sd (hl : PE X e te) : PI X tg e (iSeq X.K te) := by
 refine ⟨fun pins s σ H R I h => ?_⟩
 refine thn (hl.run pins s σ H _ I h) fun v s1 hq => ?_
 obtain ⟨x, H1, I1, r1, q1⟩ := hq;cases x with
 | ref a =>
  rcases q1 with ⟨h1, q⟩ | ⟨h1, q⟩
  ·cases r1
   obtain ⟨xs, hq⟩ := h1;obtain ⟨its, rv, p, hz⟩ := I1.list hq;refine wpAny_pyIter_list p.isList ?_
   refine ⟨s1.heap.objs.size, [s1.heap.objs.size], _, _, H1, rfl, I1.kept (t' := s1.toks) fun b o e => Heap.get?_push_of_some _ e, turn_list a _, ⟨_, Heap.get?_push_size _ rfl, rfl, rfl⟩, fun b hb => ?_, q⟩
   have e : b = s1.heap.objs.size := by simpa using hb
   subst e;exact I1.fpOk (bV _) (I1.hok.fresh (bV _))
  ·cases r1
   obtain ⟨xs, hq⟩ := h1;obtain ⟨its, rv, p, hz⟩ := I1.tuple hq;refine wpAny_pyIter_tuple (show s1.heap.IsTuple a its.toArray from p) ?_
   refine ⟨s1.heap.objs.size, [s1.heap.objs.size], _, _, H1, rfl, I1.kept (t' := s1.toks) fun b o e => Heap.get?_push_of_some _ e, turn_tuple a _, ⟨_, Heap.get?_push_size _ rfl, rfl, rfl⟩, fun b hb => ?_, q⟩
   have e : b = s1.heap.objs.size := by simpa using hb
   subst e;exact I1.fpOk (bV _) (I1.hok.fresh (bV _))
 | _ => exact q1.elim
def Js : V -> List V -> Hp -> VK -> Prop := fun x vs H Q => match x, vs with
 | .ref l, [y] => ∃ xs, H l = some (.lst xs) /\ xs.length < sizeLine /\ Q .non (upd H l (.lst (xs ++ [y])))
 | _, _ => False
theorem Ht : MtR X "list.append" Js := fun pins s σ H x xs v us Q I rx r h => mt_append pins s σ H x xs v us Q I rx r (by
 match x, xs, h with
 | .ref l, [y], ⟨xs, h1, h2, q⟩ => exact ⟨l, xs, y, rfl, rfl, h1, h2, q⟩)
def cPop : V -> List V -> Hp -> VK -> Prop := fun x vs H Q => match x, vs with
 | .ref l, [] => ∃ xs y, H l = some (.lst xs) /\ xs[xs.length - 1]? = some y /\ Q y (upd H l (.lst xs.dropLast))
 | _, _ => False
theorem Pm : MtR X "list.pop" cPop := fun pins s σ H x xs v us Q I rx r h => mt_pop pins s σ H x xs v us Q I rx r (by
 match x, xs, h with
 | .ref l, [], ⟨xs, y, h1, h2, q⟩ => exact ⟨l, xs, y, rfl, rfl, h1, h2, q⟩)
theorem UP {x : Str} {i : Int} (h : ∃ t, X.mg x = some (.int i t)) (hg : Gl X x := by rfl) (hd : (x == ("__debug__" : Str)) = false := by decide) : PE X (.Name x pos) (tC (.int i)) := by
 obtain ⟨t, h⟩ := h;exact pe_glob hg h ⟨t, rfl⟩ hd
def SD (K : aD) (d : Addr) (neg : Bool) : R2 := fun x y H Q => match x, y with
 | .str z, .ref a => a = d /\ ∃ r, jR K d z = some r /\ Q (.bl (if neg then !r.isSome else r.isSome)) H
 | _, _ => False
theorem Eh {d : Addr} (D : ∃ es n, KDict X.K X.w d es n) : OpR X (compareOp .NotIn) (SD X.K d true) := by
 obtain ⟨es, n, D⟩ := D;refine iC (op_notIn_kd D) fun x y H Q h => ?_
 match x, y, h with
 | .str z, .ref a, ⟨e, r, h1, q⟩ => exact ⟨z, r, rfl, by rw [e], h1, q⟩
def cIxKd (K : aD) (d : Addr) : R2 := fun x y H Q => match x, y with
 | .ref a, .str z => a = d /\ ∃ u v, jR K d z = some (some u) /\ RelV v u /\ Q v H
 | _, _ => False
theorem TM {d : Addr} (D : ∃ es n, KDict X.K X.w d es n) : IxR X (cIxKd X.K d) := by
 obtain ⟨es, n, D⟩ := D;refine Jv ix_kdict fun x y H Q h => ?_
 match x, y, h with
 | .ref a, .str z, ⟨e, u, v, h1, h2, q⟩ => exact ⟨d, z, v, by rw [e], rfl, ⟨es, n, u, D.at_, D.lit, h1, h2⟩, q⟩
end
structure XcF (K : aD) (mg : Str -> Option Value) (x : Str) : Prop where
 exc : PySem.W.excIn K (He.ga K x) veL "ValueError.__new__" = true
 glo : mg x = some (.ref (He.ga K x))
 kp : gW K (.ref (He.ga K x)) = true
 sub : nS K (.ref (He.ga K x)) (.type "BaseException") = some true
 ty : mF K (.ref (He.ga K x)) = some (.type "type")
theorem Hg {K : aD} {mg : Str -> Option Value} {x : Str} (h : xcB K x = true) (g : mg x = some (.ref (He.ga K x))) : XcF K mg x := by
 obtain ⟨h1, h2⟩ := He.ba h;obtain ⟨h3, h4⟩ := He.ba h2;obtain ⟨h5, h6⟩ := He.ba h4;exact ⟨h1, g, h3, of_decide_eq_true h5, of_decide_eq_true h6⟩
section
variable {X : Cx} {x : Str} {p pos pos' : Pos} {W : WX} {e : Expr} {es : List Expr} {t : TA} {ps : List Str} {sp : Sp} {k j : Nat} {E : XK}
def SK (cls : Value) (W : WX) : TS := fun _ σ H => W cls none σ H
theorem Mh (F : XcF X.K X.mg x) (hg : Gl X x) (hdb : (x == ("__debug__" : Str)) = false) : PMk X (.Call (.Name x p) [] [] pos) (fun _ H Q => Q (.ref (He.ga X.K x)) none H) := by
 intro pins s σ H Q I q;refine wpAny_Call_Name_kw (ld_glob I hg F.glo ?_ hdb)
 refine Ij I.kIn F.kp ?_
 show wpAny _ _ (call (.ref (He.ga X.K x)) []) _ _ _
 obtain ⟨_, _, _, _, _, _, _, _, _, _, _, _, _, _, _, _, _, c1, c2, c3, T⟩ := exc_obj I.kIn F.exc;exact wpAny_call_exc_subT PySem.F.excBase_ValueError T c1 c2 c3 (fun _ _ m => mk_of I m (raises_own F.sub F.ty) q (I.hok.gone m.new)) (iL _)
theorem Pe (F : XcF X.K X.mg x) (tk : Takes X W) (hc : X.calm = true := by rfl) (hg : Gl X x := by rfl) (hdb : (x == ("__debug__" : Str)) = false := by decide) : PS X (.Raise (some (.Call (.Name x p) [] [] pos)) none pos') (SK (.ref (He.ga X.K x)) W) :=
 ps_raise hc tk (Mh F hg hdb)
end
def sG (P : Program) (w : World) (K : aD) (mg : Str -> Option Value) (base : Heap) (k : Nat) (x : Str) (ps : List Str) (sp : Sp) : Prop :=
 ∃ fd, FnOk P w K mg base (L2.CX P w) k (He.ga K x) fd ps sp /\ mg x = some (.ref (He.ga K x)) /\ gW K (.ref (He.ga K x)) = true /\ Binds K fd ps []
section
variable {P : Program} {w : World} {K : aD} {mg : Str -> Option Value} {base : Heap}
theorem Mp {x : Str} {st : Stmt} {N ps : List Str} {k : Nat} {sp : Sp} (F : qQ K x st) (g : mg x = some (.ref (He.ga K x))) (S : FnScope N ps (defScope st)) (len : ∀ vs H Q E, sp vs H Q E -> vs.length = ps.length)
  (bnd : ∀ (kV doc pm : Value) (an : Option Addr) (cdv ct : Value) (us : List Value), us.length = ps.length -> bindArgs (cZ x x (defArgs st) (defBody st) (defScope st) .none kV doc pm an cdv ct) ⟨us, []⟩ = pure (ps.zip us))
  (hbody : ∀ (cdv : Value) (A : Around) (outer : List Env) (s : Shared) (H : Hp) (vs : List V) (Q : VK) (E : XK), Room k (A.deeper (envOfC x (defScope st) s.heap.objs.size (He.ga K x) cdv)) -> sp vs H Q E ->
   ∃ t, PSs (cxOf (L2.CX P w) P w K mg base N x (defScope st) (He.ga K x) cdv A outer s H E) (defBody st) t /\ t { nx := fun _ H' => Q .non H', rt := Q } (start N vs) H) : sG P w K mg base (k + 1) x ps sp := by
 obtain ⟨fd, F⟩ := F;refine ⟨fd, ?_, g, F.kp, F.bindsN bnd⟩
 obtain ⟨oc, od, dV, kV, doc, pm, an, cdv, ct, osl, e, lk, hc⟩ := F.ex;subst e;exact fn_of lk hc.1 S len fun A outer s H vs Q E hr hsp => hbody cdv A outer s H vs Q E hr hsp
end
def Bg : WX := fun _ _ _ _ => False
def cIsi2 (K : aD) (T U : String) : V -> Hp -> (Bool -> Prop) -> Prop := fun x H Q => match x with
 | .non => Q false
 | .bl _ => Q (isTy T "bool" || isTy U "bool")
 | .int _ => Q (isTy T "int" || isTy U "int")
 | .str _ => Q (isTy T "str" || isTy U "str")
 | .ref a => ∃ n, Ck K H a n /\ Q (isTy T n || isTy U n)
 | _ => False
def cIsiL2 (K : aD) (T U : String) : List V -> Hp -> VK -> Prop := fun xs H Q => match xs with
 | [x, .ref tp] => H tp = some (.tup [.ty T, .ty U]) /\ cIsi2 K T U x H fun b => Q (.bl b) H
 | _ => False
structure OkMX (P : Program) (w : World) (K : aD) (mg : Str -> Option Value) (base : Heap) (k : Nat) (C m : Str) (ps : List Str) (sp : Sp) : Prop where
 ex : ∃ fd, FnOk P w K mg base (L2.CX P w) k (He.ma K (He.ga K C) m) fd ps sp /\ Binds K fd ps []
 mt : Meth K (He.ga K C) m (He.ma K (He.ga K C) m)
section
variable {X : Cx} {o e : Expr} {es : List Expr} {t : TA} {ta : TE} {apos pos p : Pos} {C m x : Str} {ps : List Str} {sp : Sp} {k j : Nat} {E : XK} {W : WX}
def cMeth (C : Addr) (m : Str) (sp : Sp) (E : XK) (ta : TE) (t : TA) : TE := fun σ H Q => ta σ H fun x H1 => match x with
 | .ref a => ∃ dx fs, H1 a = some (.ins C dx fs) /\ fs.lookup m = none /\ t σ H1 fun vs H2 => sp (.ref a :: vs) H2 Q E
 | _ => False
def cFld (C : Addr) (f : Str) (ta : TE) : TE := fun σ H Q => ta σ H fun x H1 => match x with
 | .ref a => ∃ dx fs v, H1 a = some (.ins C dx fs) /\ fs.lookup f = some v /\ Q v H1
 | _ => False
theorem e_fld {C : Addr} {f : Str} (c : Cls X.K C) (n : NoAttr X.K C f) (he : PE X e ta) (hb : attributeBase e f X.env (eval e X.env) = eval e X.env := by rfl) : PE X (.Attribute e f pos) (cFld C f ta) := by
 refine ⟨fun pins s σ H Q I h => ?_⟩
 refine attr_of hb (thn (he.run pins s σ H _ I h) fun u s1 hh => ?_)
 obtain ⟨x, H1, I1, rx, hq⟩ := hh;cases x with
 | ref a =>
  obtain ⟨dx, fs, v, ea, l, q⟩ := hq;obtain rfl : u = Value.ref a := rx;exact getattr_ok I1 ea c n l fun _ _ I2 ru => ⟨v, H1, I2, ru, q⟩
 | _ => exact hq.elim
def cSetF (C : Addr) (f : Str) (ta tv : TE) : TS := fun D σ H => tv σ H fun y H1 => ta σ H1 fun x H2 => match x with
 | .ref a => ∃ dx fs, H2 a = some (.ins C dx fs) /\ fs.length < 1000 /\ D.nx σ (upd H2 a (.ins C dx (putF f y fs)))
 | _ => False
theorem SU {C : Addr} {f : Str} {value : Expr} {tv : TE} {pos' : Pos} (c : Cls X.K C) (n : NoAttr X.K C f) (ha : PE X o ta) (hv : PE X value tv) (hs : swapsWith value (some (.Attribute o f pos')) pos.line X.env = pure false := by rfl) : PS X (.Assign [.Attribute o f pos'] value pos) (cSetF C f ta tv) := by
 refine ⟨fun pins s σ H D I h => ?_⟩
 refine plainObj_wpAny_Assign_Attribute (thn (hv.run pins s σ H _ I h) fun u s1 hh => ?_) hs
 obtain ⟨y, H1, I1, ry, q⟩ := hh;refine thn (ha.run pins s1 σ H1 _ I1 q) fun ov s2 hh => ?_
 obtain ⟨x, H2, I2, rx, hq⟩ := hh;cases x with
 | ref a =>
  obtain ⟨dx, fs, ea, l, q2⟩ := hq;obtain rfl : ov = Value.ref a := rx;exact setattr_ok I2 ea c n l ry fun _ I3 => ⟨σ, _, I3, q2⟩
 | _ => exact hq.elim
structure ClF (K : aD) (mg : Str -> Option Value) (C : Str) : Prop where
 cls : Cls K (He.ga K C)
 mak : Mk K (He.ga K C) (He.ma K (He.ga K C) "__init__")
 glo : mg C = some (.ref (He.ga K C))
def rLenO (C : Addr) (sp : Sp) (E : XK) : V -> Hp -> VK -> Prop := fun x H Q => match x with
 | .ref a => ∃ dx fs, H a = some (.ins C dx fs) /\ sp [.ref a] H (fun v H' => match v with | .int n => (0 <= n /\ n < 2 ^ 62) /\ Q (.int n) H' | _ => False) E
 | _ => False
end
abbrev Hf (K : aD) (C m q : Str) (st : Stmt) : Prop := ∃ fd, FunD K m q (defArgs st) (defBody st) (defScope st) [] [] (He.ma K (He.ga K C) m) fd
section
variable {P : Program} {w : World} {K : aD} {mg : Str -> Option Value} {base : Heap}
theorem Pi {C m q : Str} {st : Stmt} {N ps : List Str} {k : Nat} {sp : Sp} (F : Hf K C m q st) (g : Meth K (He.ga K C) m (He.ma K (He.ga K C) m)) (S : FnScope N ps (defScope st)) (len : ∀ vs H Q E, sp vs H Q E -> vs.length = ps.length)
  (bnd : ∀ (kV doc pm : Value) (an : Option Addr) (cdv ct : Value) (us : List Value), us.length = ps.length -> bindArgs (cZ m q (defArgs st) (defBody st) (defScope st) .none kV doc pm an cdv ct) ⟨us, []⟩ = pure (ps.zip us))
  (hbody : ∀ (cdv : Value) (A : Around) (outer : List Env) (s : Shared) (H : Hp) (vs : List V) (Q : VK) (E : XK), Room k (A.deeper (envOfC q (defScope st) s.heap.objs.size (He.ma K (He.ga K C) m) cdv)) -> sp vs H Q E ->
   ∃ t, PSs (cxOf (L2.CX P w) P w K mg base N q (defScope st) (He.ma K (He.ga K C) m) cdv A outer s H E) (defBody st) t /\ t { nx := fun _ H' => Q .non H', rt := Q } (start N vs) H) : OkMX P w K mg base (k + 1) C m ps sp := by
 obtain ⟨fd, F⟩ := F;exact ⟨⟨fd, FunD.ok F S len fun cdv A outer s H vs Q E hr hsp => hbody cdv A outer s H vs Q E hr hsp, F.bindsN bnd⟩, g⟩
end
inductive D where
 | non | bl (b : Bool) | int (i : Int) | str (x : Str) | lst (xs : List D) | tup (xs : List D) | ins (C : Str) (ns : List Str) (xs : List D) | dct | opq (k : Option (Int × Int))
inductive Vl where
 | dat (d : D) | cel (n : Nat) | cels (ns : List Nat) | scr (ns : List Int) | tc (xs : List (D ⊕ Nat))
inductive Cell where
 | dead | lst (xs : List D) | ins (C : Str) (fs : List (Str × Vl)) | dct (fs : List (Str × Vl)) | lv (xs : List Vl) | dki (ks : List Int) (xs : List Vl) | dkt (ks : List (Int × Int)) (xs : List Vl)
abbrev aO := List Cell
abbrev Ev := List (Option Vl)
structure Er where
 cls : Str
 ns : List Str := []
 xs : List D := []
inductive Res (α : Type) where
 | ok (a : α) (S : aO) | err (e : Er) (S : aO) | stuck
def Res.bind {α β : Type} (r : Res α) (k : α -> aO -> Res β) : Res β := match r with
 | .ok a S => k a S
 | .err e S => .err e S
 | .stuck => .stuck
def mE (φ : List Addr) (S : aO) (a : Addr) : Prop := ∃ (n : Nat) (c : Cell), S[n]? = some c /\ c ≠ .dead /\ φ[n]? = some a
def lZ (B : Addr -> Prop) (φ : List Addr) (S : aO) (a : Addr) : Prop := B a \/ mE φ S a
mutual
/-- the tree d is at v -/
def Rep (K : aD) (Bk : Addr -> Prop) (H : Hp) : D -> V -> Prop
 | .non, v => v = .non
 | .bl b, v => v = .bl b
 | .int i, v => v = .int i
 | .str x, v => v = .str x
 | .lst ds, v => ∃ a vs, v = .ref a /\ ¬ Bk a /\ H a = some (.lst vs) /\ RepL K Bk H ds vs
 | .tup ds, v => ∃ a vs, v = .ref a /\ SqT K H a vs /\ RepL K Bk H ds vs
 | .ins C ns ds, v => ∃ a dx vs, v = .ref a /\ ¬ Bk a /\ H a = some (.ins (He.ga K C) dx (ns.zip vs)) /\ RepL K Bk H ds vs
 | .dct, v => ∃ a, v = .ref a /\ ¬ Bk a /\ H a = some (.dK [])
 | .opq none, v => ∃ a, v = .ref a
 | .opq (some k), v => ∃ a, v = .ref a /\ ¬ Bk a /\ H a = some (.tup [.int k.1, .int k.2])
def RepL (K : aD) (Bk : Addr -> Prop) (H : Hp) : List D -> List V -> Prop
 | [], vs => vs = []
 | d :: ds, vs => ∃ v ws, vs = v :: ws /\ Rep K Bk H d v /\ RepL K Bk H ds ws
end
structure Kp (Bk : Addr -> Prop) (H : Hp) (Bk' : Addr -> Prop) (H' : Hp) : Prop where
 old : ∀ b o, H b = some o -> ¬ Bk b -> H' b = some o /\ ¬ Bk' b
 tup : ∀ b u, Rd H b (.tup u) -> Rd H' b (.tup u)
theorem SqT.kp {K : aD} {H H' : Hp} {a : Addr} {vs : List V} (t : ∀ b u, Rd H b (.tup u) -> Rd H' b (.tup u)) (h : SqT K H a vs) : SqT K H' a vs := by
 rcases h with h | h
 ·exact .inl (t _ _ h)
 ·exact .inr h
mutual
theorem Rep.kp {K : aD} {Bk Bk' : Addr -> Prop} {H H' : Hp} (k' : Kp Bk H Bk' H') : ∀ (d : D) (v : V), Rep K Bk H d v -> Rep K Bk' H' d v
 | .non, v, h => h
 | .bl b, v, h => h
 | .int i, v, h => h
 | .str x, v, h => h
 | .lst ds, v, ⟨a, vs, e, nb, h, r⟩ => ⟨a, vs, e, (k'.old _ _ h nb).2, (k'.old _ _ h nb).1, RepL.kp k' ds vs r⟩
 | .tup ds, v, ⟨a, vs, e, h, r⟩ => ⟨a, vs, e, SqT.kp k'.tup h, RepL.kp k' ds vs r⟩
 | .ins C ns ds, v, ⟨a, dx, vs, e, nb, h, r⟩ => ⟨a, dx, vs, e, (k'.old _ _ h nb).2, (k'.old _ _ h nb).1, RepL.kp k' ds vs r⟩
 | .dct, v, ⟨a, e, nb, h⟩ => ⟨a, e, (k'.old _ _ h nb).2, (k'.old _ _ h nb).1⟩
 | .opq none, v, h => h
 | .opq (some k), v, ⟨a, e, nb, h⟩ => ⟨a, e, (k'.old _ _ h nb).2, (k'.old _ _ h nb).1⟩
theorem RepL.kp {K : aD} {Bk Bk' : Addr -> Prop} {H H' : Hp} (k : Kp Bk H Bk' H') : ∀ (ds : List D) (vs : List V), RepL K Bk H ds vs -> RepL K Bk' H' ds vs
 | [], vs, h => h
 | d :: ds, vs, ⟨v, ws, e, h1, h2⟩ => ⟨v, ws, e, Rep.kp k d v h1, RepL.kp k ds ws h2⟩
end
def ScrAt (K : aD) (H : Hp) (a : Addr) (vs : List V) : Prop := (∃ o, H a = some (.frz o (.lst vs))) \/ SqL K (fun _ => none) a vs
theorem ScrAt.sq {K : aD} {H : Hp} {a : Addr} {vs : List V} (h : ScrAt K H a vs) : SqL K H a vs := by
 rcases h with ⟨o, h⟩ | (h | ⟨o, h⟩) | h
 ·exact .inl (.inr ⟨o, h⟩)
 ·cases h
 ·cases h
 ·exact .inr h
theorem ScrAt.keep {K : aD} {H H' : Hp} {a : Addr} {vs : List V} (h : ScrAt K H a vs) (k : ∀ o u, H a = some (.frz o u) -> H' a = some (.frz o u)) : ScrAt K H' a vs := by
 rcases h with ⟨o, h⟩ | h
 ·exact .inl ⟨o, k _ _ h⟩
 ·exact .inr h
def RepI (K : aD) (Bk : Addr -> Prop) (φ : List Addr) (H : Hp) : D ⊕ Nat -> V -> Prop
 | .inl d, v => Rep K Bk H d v
 | .inr n, v => ∃ a, v = .ref a /\ φ[n]? = some a
def RepIs (K : aD) (Bk : Addr -> Prop) (φ : List Addr) (H : Hp) : List (D ⊕ Nat) -> List V -> Prop
 | [], vs => vs = []
 | x :: xs, vs => ∃ v ws, vs = v :: ws /\ RepI K Bk φ H x v /\ RepIs K Bk φ H xs ws
theorem RepI.kp {K : aD} {Bk Bk' : Addr -> Prop} {φ φ' : List Addr} {H H' : Hp} (k : Kp Bk H Bk' H') (hφ : ∀ (n : Nat) (a : Addr), φ[n]? = some a -> φ'[n]? = some a) : ∀ {x : D ⊕ Nat} {v : V}, RepI K Bk φ H x v -> RepI K Bk' φ' H' x v
 | .inl d, v, h => Rep.kp k d v h
 | .inr n, v, ⟨a, h1, h2⟩ => ⟨a, h1, hφ _ _ h2⟩
theorem RepIs.kp {K : aD} {Bk Bk' : Addr -> Prop} {φ φ' : List Addr} {H H' : Hp} (k : Kp Bk H Bk' H') (hφ : ∀ (n : Nat) (a : Addr), φ[n]? = some a -> φ'[n]? = some a) : ∀ {xs : List (D ⊕ Nat)} {vs : List V}, RepIs K Bk φ H xs vs -> RepIs K Bk' φ' H' xs vs
 | [], vs, h => h
 | x :: xs, vs, ⟨v, ws, e, h1, h2⟩ => ⟨v, ws, e, h1.kp k hφ, RepIs.kp k hφ h2⟩
def RepV (K : aD) (B : Addr -> Prop) (φ : List Addr) (S : aO) (H : Hp) : Vl -> V -> Prop
 | .dat d, v => Rep K (lZ B φ S) H d v
 | .cel n, v => ∃ a, v = .ref a /\ φ[n]? = some a
 | .cels ns, v => ∃ (a : Addr) (as : List Addr), v = .ref a /\ ¬ lZ B φ S a /\ H a = some (.lst (as.map V.ref)) /\ ns.map (fun n => φ[n]?) = as.map some
 | .scr ns, v => ∃ a, v = .ref a /\ ScrAt K H a (ns.map V.int)
 | .tc xs, v => ∃ a vs, v = .ref a /\ SqT K H a vs /\ RepIs K (lZ B φ S) φ H xs vs
def RepVs (K : aD) (B : Addr -> Prop) (φ : List Addr) (S : aO) (H : Hp) : List Vl -> List V -> Prop
 | [], vs => vs = []
 | d :: ds, vs => ∃ v ws, vs = v :: ws /\ RepV K B φ S H d v /\ RepVs K B φ S H ds ws
def RepF (K : aD) (B : Addr -> Prop) (φ : List Addr) (S : aO) (H : Hp) : List (Str × Vl) -> List (Str × V) -> Prop
 | [], vs => vs = []
 | d :: ds, vs => ∃ v ws, vs = (d.1, v) :: ws /\ RepV K B φ S H d.2 v /\ RepF K B φ S H ds ws
def iH (fs : List (Str × V)) : List (Key × V) := fs.map fun p => (Sum.inr p.1, p.2)
def kvI (ks : List Int) (vs : List V) : List (Key × V) := (ks.map Sum.inl).zip vs
def kvT (ks : List (Int × Int)) (vs : List V) : List (List Key × V) := (ks.map fun p => [Sum.inl p.1, Sum.inl p.2]).zip vs
def FL (K : aD) (B : Addr -> Prop) (φ : List Addr) (S : aO) (H : Hp) : Cell -> Addr -> Prop
 | .dead, _ => True
 | .lst ds, a => ∃ vs, H a = some (.lst vs) /\ RepL K (lZ B φ S) H ds vs
 | .ins C fs, a => ∃ dx vfs, H a = some (.ins (He.ga K C) dx vfs) /\ RepF K B φ S H fs vfs
 | .dct fs, a => ∃ vfs, H a = some (.dK (iH vfs)) /\ RepF K B φ S H fs vfs
 | .lv xs, a => ∃ vs, H a = some (.lst vs) /\ RepVs K B φ S H xs vs
 | .dki ks xs, a => ∃ vs, H a = some (.dK (kvI ks vs)) /\ RepVs K B φ S H xs vs
 | .dkt ks xs, a => ∃ vs, H a = some (.dT (kvT ks vs)) /\ RepVs K B φ S H xs vs
structure GInv (K : aD) (B : Addr -> Prop) (φ : List Addr) (S : aO) (H : Hp) : Prop where
 len : φ.length = S.length
 ok : ∀ (n : Nat) (c : Cell) (a : Addr), S[n]? = some c -> φ[n]? = some a -> FL K B φ S H c a
 inj : ∀ (n m : Nat) (c c' : Cell) (a : Addr), S[n]? = some c -> c ≠ .dead -> S[m]? = some c' -> c' ≠ .dead -> φ[n]? = some a -> φ[m]? = some a -> n = m
 blk : ∀ a, mE φ S a -> ¬ B a
 btr : ∀ a, B a -> ∃ o, H a = some o
structure Ext (φ : List Addr) (S : aO) (H : Hp) (φ' : List Addr) (S' : aO) (H' : Hp) : Prop where
 old : ∀ b o, H b = some o -> ¬ mE φ S b -> H' b = some o /\ ¬ mE φ' S' b
 ids : ∀ (n : Nat) (a : Addr), φ[n]? = some a -> φ'[n]? = some a
section
variable {K : aD} {B : Addr -> Prop} {φ φ' φ₂ : List Addr} {S S' S₂ : aO} {H H' H₂ : Hp}
theorem Ext.refl : Ext φ S H φ S H := ⟨fun _ _ h n => ⟨h, n⟩, fun _ _ h => h⟩
theorem Ext.trans (a : Ext φ S H φ' S' H') (b : Ext φ' S' H' φ₂ S₂ H₂) : Ext φ S H φ₂ S₂ H₂ :=
 ⟨fun c o h n => b.old c o (a.old c o h n).1 (a.old c o h n).2, fun n x h => b.ids n x (a.ids n x h)⟩
theorem GInv.at_ (I : GInv K B φ S H) {a : Addr} (h : mE φ S a) : (∃ vs, H a = some (.lst vs)) \/ (∃ C dx fs, H a = some (.ins C dx fs)) \/ (∃ kvs, H a = some (.dK kvs)) \/ ∃ kvs, H a = some (.dT kvs) := by
 obtain ⟨n, c, h1, h2, h3⟩ := h;have q := I.ok n c a h1 h3;cases c with
 | dead => exact absurd rfl h2
 | lst ds => obtain ⟨vs, e, _⟩ := q; exact .inl ⟨vs, e⟩
 | ins C fs => obtain ⟨dx, vs, e, _⟩ := q; exact .inr (.inl ⟨_, dx, vs, e⟩)
 | dct fs => obtain ⟨vs, e, _⟩ := q; exact .inr (.inr (.inl ⟨_, e⟩))
 | lv xs => obtain ⟨vs, e, _⟩ := q; exact .inl ⟨vs, e⟩
 | dki ks xs => obtain ⟨vs, e, _⟩ := q; exact .inr (.inr (.inl ⟨_, e⟩))
 | dkt ks xs => obtain ⟨vs, e, _⟩ := q; exact .inr (.inr (.inr ⟨_, e⟩))
theorem GInv.some_ (I : GInv K B φ S H) {a : Addr} (h : mE φ S a) : H a ≠ none := by
 rcases I.at_ h with ⟨_, e⟩ | ⟨_, _, _, e⟩ | ⟨_, e⟩ | ⟨_, e⟩ <;> rw [e] <;> simp
theorem GInv.fresh (I : GInv K B φ S H) {a : Addr} (h : H a = none) : ¬ mE φ S a := fun q => I.some_ q h
theorem GInv.nblk (I : GInv K B φ S H) {a : Addr} (h : H a = none) : ¬ lZ B φ S a := fun q => by
 rcases q with q | q
 ·obtain ⟨u, e⟩ := I.btr a q; rw [h] at e; cases e
 ·exact I.fresh h q
theorem GInv.ntup (I : GInv K B φ S H) {a : Addr} {xs : List V} (h : H a = some (.tup xs)) : ¬ mE φ S a := fun q => by
 rcases I.at_ q with ⟨_, e⟩ | ⟨_, _, _, e⟩ | ⟨_, e⟩ | ⟨_, e⟩ <;> rw [h] at e <;> cases e
theorem GInv.nfrz (I : GInv K B φ S H) {a : Addr} {o : Obj} {u : HO} (h : H a = some (.frz o u)) : ¬ mE φ S a := fun q => by
 rcases I.at_ q with ⟨_, e⟩ | ⟨_, _, _, e⟩ | ⟨_, e⟩ | ⟨_, e⟩ <;> rw [h] at e <;> cases e
theorem Ext.kp (e : Ext φ S H φ' S' H') (I : GInv K B φ S H) : Kp (lZ B φ S) H (lZ B φ' S') H' where
 old := fun b o h n => by
  obtain ⟨h1, h2⟩ := e.old b o h (fun q => n (.inr q))
  exact ⟨h1, fun q => by
   rcases q with q | q
   ·exact n (.inl q)
   ·exact h2 q⟩
 tup := fun b u h => by
  rcases h with h | ⟨o, h⟩
  ·exact .inl (e.old _ _ h (I.ntup h)).1
  ·exact .inr ⟨o, (e.old _ _ h (I.nfrz h)).1⟩
theorem yS (e : ∀ (n : Nat) (a : Addr), φ[n]? = some a -> φ'[n]? = some a) : ∀ (ns : List Nat) (as : List Addr), ns.map (fun n => φ[n]?) = as.map some -> ns.map (fun n => φ'[n]?) = as.map some
 | [], as, h => h
 | n :: ns, [], h => by simp at h
 | n :: ns, a :: as, h => by
  simp only [aM, List.cons.injEq] at h ⊢;exact ⟨e _ _ h.1, yS e ns as h.2⟩
theorem RepV.ext (e : Ext φ S H φ' S' H') (I : GInv K B φ S H) : ∀ {d : Vl} {v : V}, RepV K B φ S H d v -> RepV K B φ' S' H' d v
 | .dat d, v, h => Rep.kp (e.kp I) d v h
 | .cel n, v, ⟨a, h1, h2⟩ => ⟨a, h1, e.ids _ _ h2⟩
 | .cels ns, v, ⟨a, as, h1, h2, h3, h4⟩ => ⟨a, as, h1, ((e.kp I).old _ _ h3 h2).2, ((e.kp I).old _ _ h3 h2).1, yS e.ids ns as h4⟩
 | .scr ns, v, ⟨a, h1, h2⟩ => ⟨a, h1, h2.keep fun o u h => (e.old _ _ h (I.nfrz h)).1⟩
 | .tc xs, v, ⟨a, vs, h1, h2, h3⟩ => ⟨a, vs, h1, SqT.kp (e.kp I).tup h2, h3.kp (e.kp I) e.ids⟩
theorem RepVs.ext (e : Ext φ S H φ' S' H') (I : GInv K B φ S H) : ∀ {ds : List Vl} {vs : List V}, RepVs K B φ S H ds vs -> RepVs K B φ' S' H' ds vs
 | [], vs, h => h
 | d :: ds, vs, ⟨v, ws, e1, h1, h2⟩ => ⟨v, ws, e1, h1.ext e I, RepVs.ext e I h2⟩
theorem RepF.ext (e : Ext φ S H φ' S' H') (I : GInv K B φ S H) : ∀ {ds : List (Str × Vl)} {vs : List (Str × V)}, RepF K B φ S H ds vs -> RepF K B φ' S' H' ds vs
 | [], vs, h => h
 | d :: ds, vs, ⟨v, ws, e1, h1, h2⟩ => ⟨v, ws, e1, h1.ext e I, RepF.ext e I h2⟩
theorem Ext.repL (e : Ext φ S H φ' S' H') (I : GInv K B φ S H) {ds : List D} {vs : List V} (h : RepL K (lZ B φ S) H ds vs) : RepL K (lZ B φ' S') H' ds vs := RepL.kp (e.kp I) ds vs h
theorem dM {B' : Addr -> Prop} (hV : ∀ {d : Vl} {v : V}, RepV K B φ S H d v -> RepV K B' φ' S' H' d v) : ∀ {ds : List Vl} {vs : List V}, RepVs K B φ S H ds vs -> RepVs K B' φ' S' H' ds vs
 | [], vs, h => h
 | d :: ds, vs, ⟨v, ws, e1, h1, h2⟩ => ⟨v, ws, e1, hV h1, dM hV h2⟩
def RepE (K : aD) (B : Addr -> Prop) (φ : List Addr) (S : aO) (H : Hp) (ρ : Ev) (σ : L2.St) : Prop :=
 ρ.length = σ.length /\ ∀ (i : Nat) (d : Vl), ρ[i]? = some (some d) -> ∃ v, σ[i]? = some (some v) /\ RepV K B φ S H d v
theorem RepE.ext {ρ : Ev} {σ : L2.St} (e : Ext φ S H φ' S' H') (I : GInv K B φ S H) (h : RepE K B φ S H ρ σ) : RepE K B φ' S' H' ρ σ :=
 ⟨h.1, fun i d q => by
  obtain ⟨v, h1, h2⟩ := h.2 i d q;exact ⟨v, h1, h2.ext e I⟩⟩
theorem RepE.set {ρ : Ev} {σ : L2.St} {d : Vl} {v : V} (h : RepE K B φ S H ρ σ) (r : RepV K B φ S H d v) (i : Nat) : RepE K B φ S H (ρ.set i (some d)) (σ.set i (some v)) := by
 refine ⟨by simp [h.1], fun j d' q => ?_⟩
 rw [aX] at q ⊢
 by_cases e : i = j
 ·subst e
  rw [if_pos rfl] at q ⊢
  by_cases hl : i < ρ.length
  ·rw [if_pos hl] at q
   cases q;rw [if_pos (by rw [<- h.1]; exact hl)]
   exact ⟨v, rfl, r⟩
  ·rw [if_neg hl] at q; cases q
 ·rw [if_neg e] at q ⊢
  exact h.2 j d' q
theorem RepE.forget {ρ : Ev} {σ : L2.St} (h : RepE K B φ S H ρ σ) (i : Nat) : RepE K B φ S H (ρ.set i none) σ := by
 refine ⟨by simp [h.1], fun j d' q => ?_⟩
 rw [aX] at q
 by_cases e : i = j
 ·subst e
  rw [if_pos rfl] at q
  by_cases hl : i < ρ.length
  ·rw [if_pos hl] at q; cases q
  ·rw [if_neg hl] at q; cases q
 ·rw [if_neg e] at q
  exact h.2 j d' q
theorem kU {x : Cell} {p a : Addr} (hl : φ.length = S.length) : mE (φ ++ [p]) (S ++ [x]) a ↔ mE φ S a \/ (x ≠ .dead /\ a = p) := by
 constructor
 ·rintro ⟨n, c, h1, h2, h3⟩
  by_cases hn : n < S.length
  ·rw [aL hn] at h1
   rw [aL (by omega)] at h3
   exact .inl ⟨n, c, h1, h2, h3⟩
  ·have e : n = S.length := by
    have := (aH.mp h1).1;simp at this;omega
   subst e;rw [bB (bV _)] at h1;rw [<- hl, bB (bV _)] at h3;simp at h1 h3;subst h1;exact .inr ⟨h2, h3.symm⟩
 ·rintro (⟨n, c, h1, h2, h3⟩ | ⟨h, rfl⟩)
  ·exact ⟨n, c, by rw [aL (aH.mp h1).1]; exact h1, h2, by rw [aL (aH.mp h3).1]; exact h3⟩
  ·exact ⟨S.length, x, by simp, h, by rw [<- hl]; simp⟩
theorem Ext.new {p : Addr} {o : HO} (I : GInv K B φ S H) (hp : H p = none) : Ext φ S H φ S (upd H p o) :=
 ⟨fun b u h n => ⟨by rw [upd_ne (ne_of_none h hp)]; exact h, n⟩, fun _ _ h => h⟩
theorem GInv.mono {o : Ext φ S H φ S H'} (I : GInv K B φ S H) (h : ∀ (n : Nat) (c : Cell) (a : Addr), S[n]? = some c -> c ≠ .dead -> φ[n]? = some a -> H' a = H a) : GInv K B φ S H' where
 len := I.len
 ok := fun n c a h1 h2 => by
  have q := I.ok n c a h1 h2;cases c with
  | dead => trivial
  | lst ds => obtain ⟨vs, e, r⟩ := q; exact ⟨vs, by rw [h n _ a h1 (by simp) h2]; exact e, o.repL I r⟩
  | ins C fs => obtain ⟨dx, vs, e, r⟩ := q; exact ⟨dx, vs, by rw [h n _ a h1 (by simp) h2]; exact e, r.ext o I⟩
  | dct fs => obtain ⟨vs, e, r⟩ := q; exact ⟨vs, by rw [h n _ a h1 (by simp) h2]; exact e, r.ext o I⟩
  | lv xs => obtain ⟨vs, e, r⟩ := q; exact ⟨vs, by rw [h n _ a h1 (by simp) h2]; exact e, r.ext o I⟩
  | dki ks xs => obtain ⟨vs, e, r⟩ := q; exact ⟨vs, by rw [h n _ a h1 (by simp) h2]; exact e, r.ext o I⟩
  | dkt ks xs => obtain ⟨vs, e, r⟩ := q; exact ⟨vs, by rw [h n _ a h1 (by simp) h2]; exact e, r.ext o I⟩
 inj := I.inj
 blk := I.blk
 btr := fun a h => by
  obtain ⟨u, e⟩ := I.btr a h;exact ⟨u, (o.old a u e fun q => I.blk a q h).1⟩
theorem GInv.new {p : Addr} {o : HO} (I : GInv K B φ S H) (hp : H p = none) : GInv K B φ S (upd H p o) :=
 GInv.mono (o := Ext.new I hp) I fun n c a h1 h2 h3 => by
  rw [upd_ne];intro e;subst e;exact I.fresh hp ⟨n, c, h1, h2, h3⟩
theorem Ext.newC {p : Addr} {o : HO} {x : Cell} (I : GInv K B φ S H) (hp : H p = none) : Ext φ S H (φ ++ [p]) (S ++ [x]) (upd H p o) where
 old := fun b u h n => by
  have hb : b ≠ p := ne_of_none h hp;exact ⟨by rw [upd_ne hb]; exact h, fun q => by
   rcases (kU I.len).mp q with q | ⟨_, q⟩
   ·exact n q
   ·exact hb q⟩
 ids := fun n a h => by rw [aL (aH.mp h).1]; exact h
theorem GInv.newC {p : Addr} {o : HO} {x : Cell} (I : GInv K B φ S H) (hp : H p = none) (hx : x ≠ .dead -> FL K B (φ ++ [p]) (S ++ [x]) (upd H p o) x p) : GInv K B (φ ++ [p]) (S ++ [x]) (upd H p o) where
 len := by simp [I.len]
 ok := fun n c a h1 h2 => by
  by_cases hn : n < S.length
  ·rw [aL hn] at h1
   rw [aL (by rw [I.len]; exact hn)] at h2
   have q := I.ok n c a h1 h2;have ex := Ext.newC (o := o) (x := x) I hp;have ha : c ≠ .dead -> upd H p o a = H a := fun hc => by
    rw [upd_ne];intro e;subst e;exact I.fresh hp ⟨n, c, h1, hc, h2⟩
   cases c with
   | dead => trivial
   | lst ds => obtain ⟨vs, e, r⟩ := q; exact ⟨vs, by rw [ha (by simp)]; exact e, ex.repL I r⟩
   | ins C fs => obtain ⟨dx, vs, e, r⟩ := q; exact ⟨dx, vs, by rw [ha (by simp)]; exact e, r.ext ex I⟩
   | dct fs => obtain ⟨vs, e, r⟩ := q; exact ⟨vs, by rw [ha (by simp)]; exact e, r.ext ex I⟩
   | lv xs => obtain ⟨vs, e, r⟩ := q; exact ⟨vs, by rw [ha (by simp)]; exact e, r.ext ex I⟩
   | dki ks xs => obtain ⟨vs, e, r⟩ := q; exact ⟨vs, by rw [ha (by simp)]; exact e, r.ext ex I⟩
   | dkt ks xs => obtain ⟨vs, e, r⟩ := q; exact ⟨vs, by rw [ha (by simp)]; exact e, r.ext ex I⟩
  ·have e : n = S.length := by
    have := (aH.mp h1).1;simp at this;omega
   subst e;rw [bB (bV _)] at h1;rw [<- I.len, bB (bV _)] at h2;simp at h1 h2;subst h1 h2;cases x with
   | dead => trivial
   | _ => exact hx (by simp)
 inj := fun n m c c' a h1 h2 h3 h4 h5 h6 => by
  have key : ∀ (n : Nat) (c : Cell), (S ++ [x])[n]? = some c -> (n < S.length /\ S[n]? = some c) \/ n = S.length := fun n c h => by
   by_cases hn : n < S.length
   ·rw [aL hn] at h; exact .inl ⟨hn, h⟩
   ·have := (aH.mp h).1
    simp at this;exact .inr (by omega)
  have kφ : ∀ n : Nat, n < S.length -> (φ ++ [p])[n]? = φ[n]? := fun n hn => aL (by rw [I.len]; exact hn)
  have kp : (φ ++ [p])[S.length]? = some p := by rw [<- I.len]; simp
  rcases key n c h1 with ⟨hn, e1⟩ | e1 <;> rcases key m c' h3 with ⟨hm, e2⟩ | e2
  ·rw [kφ n hn] at h5
   rw [kφ m hm] at h6;exact I.inj n m c c' a e1 h2 e2 h4 h5 h6
  ·subst e2
   rw [kp] at h6;cases h6;rw [kφ n hn] at h5;exact absurd ⟨n, c, e1, h2, h5⟩ (I.fresh hp)
  ·subst e1
   rw [kp] at h5;cases h5;rw [kφ m hm] at h6;exact absurd ⟨m, c', e2, h4, h6⟩ (I.fresh hp)
  ·omega
 blk := fun a h => by
  rcases (kU I.len).mp h with h | ⟨_, h⟩
  ·exact I.blk a h
  ·rw [h]; intro q; obtain ⟨u, e⟩ := I.btr p q; rw [hp] at e; cases e
 btr := fun a h => by
  obtain ⟨u, e⟩ := I.btr a h;exact ⟨u, by rw [upd_ne (ne_of_none e hp)]; exact e⟩
theorem ES {n : Nat} {c x : Cell} {a : Addr} (h : S[n]? = some c) (hc : c ≠ .dead) (hx : x ≠ .dead) : mE φ (S.set n x) a ↔ mE φ S a := by
 constructor
 ·rintro ⟨m, c', h1, h2, h3⟩
  rw [aX] at h1
  by_cases e : n = m
  ·subst e
   exact ⟨n, c, h, hc, h3⟩
  ·rw [if_neg e] at h1
   exact ⟨m, c', h1, h2, h3⟩
 ·rintro ⟨m, c', h1, h2, h3⟩
  by_cases e : n = m
  ·subst e
   exact ⟨n, x, by rw [aX, if_pos rfl, if_pos (aH.mp h).1], hx, h3⟩
  ·exact ⟨m, c', by rw [aX, if_neg e]; exact h1, h2, h3⟩
theorem Cg {n : Nat} {a : Addr} (h : mE φ (S.set n .dead) a) : mE φ S a := by
 obtain ⟨m, c', h1, h2, h3⟩ := h;rw [aX] at h1
 by_cases e : n = m
 ·rw [if_pos e] at h1
  by_cases hl : n < S.length
  ·rw [if_pos hl] at h1; cases h1; exact absurd rfl h2
  ·rw [if_neg hl] at h1; cases h1
 ·rw [if_neg e] at h1
  exact ⟨m, c', h1, h2, h3⟩
theorem Ext.put {n : Nat} {c x : Cell} {a : Addr} {o : HO} (hn : S[n]? = some c) (hc : c ≠ .dead) (ha : φ[n]? = some a) (hx : x ≠ .dead) : Ext φ S H φ (S.set n x) (upd H a o) where
 old := fun b u h nb => by
  have hb : b ≠ a := fun e => by subst e; exact nb ⟨n, c, hn, hc, ha⟩
  exact ⟨by rw [upd_ne hb]; exact h, fun q => nb ((ES hn hc hx).mp q)⟩
 ids := fun _ _ h => h
theorem GInv.put {n : Nat} {c x : Cell} {a : Addr} {o : HO} (I : GInv K B φ S H) (hn : S[n]? = some c) (hc : c ≠ .dead) (ha : φ[n]? = some a) (hx : x ≠ .dead) (ok : FL K B φ (S.set n x) (upd H a o) x a) : GInv K B φ (S.set n x) (upd H a o) where
 len := by simp [I.len]
 ok := fun m c' b h1 h2 => by
  by_cases e : n = m
  ·subst e
   rw [aX, if_pos rfl, if_pos (aH.mp hn).1] at h1;cases h1;rw [ha] at h2;cases h2;exact ok
  ·rw [aX, if_neg e] at h1
   have q := I.ok m c' b h1 h2;have ex := Ext.put (H := H) (o := o) hn hc ha hx;have hb : c' ≠ .dead -> upd H a o b = H b := fun hc' => upd_ne fun e2 => by
    subst e2;exact e (I.inj n m c c' b hn hc h1 hc' ha h2)
   cases c' with
   | dead => trivial
   | lst ds => obtain ⟨vs, e, r⟩ := q; exact ⟨vs, by rw [hb (by simp)]; exact e, ex.repL I r⟩
   | ins C fs => obtain ⟨dx, vs, e, r⟩ := q; exact ⟨dx, vs, by rw [hb (by simp)]; exact e, r.ext ex I⟩
   | dct fs => obtain ⟨vs, e, r⟩ := q; exact ⟨vs, by rw [hb (by simp)]; exact e, r.ext ex I⟩
   | lv xs => obtain ⟨vs, e, r⟩ := q; exact ⟨vs, by rw [hb (by simp)]; exact e, r.ext ex I⟩
   | dki ks xs => obtain ⟨vs, e, r⟩ := q; exact ⟨vs, by rw [hb (by simp)]; exact e, r.ext ex I⟩
   | dkt ks xs => obtain ⟨vs, e, r⟩ := q; exact ⟨vs, by rw [hb (by simp)]; exact e, r.ext ex I⟩
 inj := fun i j d d' b h1 h2 h3 h4 h5 h6 => by
  have key : ∀ (i : Nat) (d : Cell), (S.set n x)[i]? = some d -> d ≠ .dead -> ∃ d0, S[i]? = some d0 /\ d0 ≠ .dead := fun i d h hd => by
   by_cases e : n = i
   ·subst e; exact ⟨c, hn, hc⟩
   ·rw [aX, if_neg e] at h; exact ⟨d, h, hd⟩
  obtain ⟨d0, e1, e2⟩ := key i d h1 h2;obtain ⟨d1, e3, e4⟩ := key j d' h3 h4;exact I.inj i j d0 d1 b e1 e2 e3 e4 h5 h6
 blk := fun b h => I.blk b ((ES hn hc hx).mp h)
 btr := fun b h => by
  obtain ⟨u, e⟩ := I.btr b h;exact ⟨u, by rw [upd_ne]; exact e; intro q; subst q; exact I.blk b ⟨n, c, hn, hc, ha⟩ h⟩
theorem Ext.kill {n : Nat} : Ext φ S H φ (S.set n .dead) H := ⟨fun b o h nb => ⟨h, fun q => nb (Cg q)⟩, fun _ _ h => h⟩
theorem GInv.kill {n : Nat} (I : GInv K B φ S H) : GInv K B φ (S.set n .dead) H where
 len := by simp [I.len]
 ok := fun m c' b h1 h2 => by
  by_cases e : n = m
  ·rw [aX, if_pos e] at h1
   by_cases hl : n < S.length
   ·rw [if_pos hl] at h1; cases h1; trivial
   ·rw [if_neg hl] at h1; cases h1
  ·rw [aX, if_neg e] at h1
   have q := I.ok m c' b h1 h2;have ex := Ext.kill (φ := φ) (S := S) (H := H) (n := n);cases c' with
   | dead => trivial
   | lst ds => obtain ⟨vs, e, r⟩ := q; exact ⟨vs, e, ex.repL I r⟩
   | ins C fs => obtain ⟨dx, vs, e, r⟩ := q; exact ⟨dx, vs, e, r.ext ex I⟩
   | dct fs => obtain ⟨vs, e, r⟩ := q; exact ⟨vs, e, r.ext ex I⟩
   | lv xs => obtain ⟨vs, e, r⟩ := q; exact ⟨vs, e, r.ext ex I⟩
   | dki ks xs => obtain ⟨vs, e, r⟩ := q; exact ⟨vs, e, r.ext ex I⟩
   | dkt ks xs => obtain ⟨vs, e, r⟩ := q; exact ⟨vs, e, r.ext ex I⟩
 inj := fun i j d d' b h1 h2 h3 h4 h5 h6 => by
  have key : ∀ (i : Nat) (d : Cell), (S.set n .dead)[i]? = some d -> d ≠ .dead -> S[i]? = some d := fun i d h hd => by
   rw [aX] at h
   by_cases e : n = i
   ·rw [if_pos e] at h
    by_cases hl : n < S.length
    ·rw [if_pos hl] at h; cases h; exact absurd rfl hd
    ·rw [if_neg hl] at h; cases h
   ·rw [if_neg e] at h; exact h
  exact I.inj i j d d' b (key i d h1 h2) h2 (key j d' h3 h4) h4 h5 h6
 blk := fun b h => I.blk b (Cg h)
 btr := I.btr
theorem GInv.killed {n : Nat} {c : Cell} {a : Addr} (I : GInv K B φ S H) (hn : S[n]? = some c) (hc : c ≠ .dead) (ha : φ[n]? = some a) : ¬ lZ B φ (S.set n .dead) a := fun q => by
 rcases q with q | ⟨m, c', h1, h2, h3⟩
 ·exact I.blk a ⟨n, c, hn, hc, ha⟩ q
 ·rw [aX] at h1
  by_cases e : n = m
  ·rw [if_pos e] at h1
   by_cases hl : n < S.length
   ·rw [if_pos hl] at h1; cases h1; exact h2 rfl
   ·rw [if_neg hl] at h1; cases h1
  ·rw [if_neg e] at h1
   exact e (I.inj n m c c' a hn hc h1 h2 ha h3)
end
abbrev FE := Ev -> aO -> Res Vl
abbrev FT := Ev -> aO -> Res Bool
abbrev FA := Ev -> aO -> Res (List Vl)
abbrev FO := Ev -> aO -> Res (Option Int)
abbrev Rl (α β : Type) := (Addr -> Prop) -> List Addr -> aO -> Hp -> α -> β -> Prop
def UW (K : aD) (B : Addr -> Prop) (φ : List Addr) (S : aO) (H : Hp) (e : Er) (c : Value) (x : Option Addr) : Prop :=
 c = .ref (He.ga K e.cls) /\ ((e.ns = [] /\ x = none) \/ ∃ d vs, x = some d /\ H d = some (.xd (e.ns.zip vs)) /\ RepL K (lZ B φ S) H e.xs vs)
section
variable {α β α' β' : Type}
def Fin (K : aD) (W : WX) (σ : L2.St) (R : Rl α β) (B : Addr -> Prop) (φ : List Addr) (S : aO) (H : Hp) (r : Res α) (Q : β -> Hp -> Prop) : Prop := match r with
 | .ok d S' => ∀ φ' v H', GInv K B φ' S' H' -> Ext φ S H φ' S' H' -> R B φ' S' H' d v -> Q v H'
 | .err e S' => ∀ φ' c x H', GInv K B φ' S' H' -> Ext φ S H φ' S' H' -> UW K B φ' S' H' e c x -> W c x σ H'
 | .stuck => False
def rd (K : aD) (W : WX) (R : Rl α β) (m : Ev -> aO -> Res α) : L2.St -> Hp -> (β -> Hp -> Prop) -> Prop := fun σ H Q =>
 ∃ B φ S ρ, GInv K B φ S H /\ RepE K B φ S H ρ σ /\ Fin K W σ R B φ S H (m ρ S) Q
end
def RB : Rl Bool Bool := fun _ _ _ _ b c => c = b
def RO : Rl (Option Int) (Option Int) := fun _ _ _ _ b c => c = b
abbrev cW (K : aD) (W : WX) (m : FE) : TE := rd K W (RepV K) m
abbrev xW (K : aD) (W : WX) (m : FT) : TT := rd K W RB m
abbrev Ef (K : aD) (W : WX) (m : FA) : TA := rd K W (RepVs K) m
abbrev rdO (K : aD) (W : WX) (m : FO) : TO := rd K W RO m
section
variable {α β α' β' : Type} {K : aD} {W : WX} {σ : L2.St} {R : Rl α β} {R' : Rl α' β'} {B : Addr -> Prop} {φ φ' : List Addr} {S S' : aO} {H H' : Hp}
theorem Fin.ext {r : Res α} {Q : β -> Hp -> Prop} (f : Fin K W σ R B φ S H r Q) (e : Ext φ S H φ' S' H') : Fin K W σ R B φ' S' H' r Q := by
 cases r with
 | ok d S1 => exact fun φ1 v H1 I1 X r => f φ1 v H1 I1 (e.trans X) r
 | err x S1 => exact fun φ1 c x H1 I1 X r => f φ1 c x H1 I1 (e.trans X) r
 | stuck => exact f
theorem cU {m : Ev -> aO -> Res α} {k : α -> Ev -> aO -> Res α'} {Q : β' -> Hp -> Prop} {Q1 : β -> Hp -> Prop} (h : rd K W R' (fun ρ S => (m ρ S).bind fun a S' => k a ρ S') σ H Q)
  (hk : ∀ B φ S ρ d v H1, GInv K B φ S H1 -> RepE K B φ S H1 ρ σ -> R B φ S H1 d v -> Fin K W σ R' B φ S H1 (k d ρ S) Q -> Q1 v H1) : rd K W R m σ H Q1 := by
 obtain ⟨B, φ, S, ρ, I, E, f⟩ := h;refine ⟨B, φ, S, ρ, I, E, ?_⟩
 dsimp only at f;cases e : m ρ S with
 | stuck => rw [e] at f; exact f
 | err x S' => rw [e] at f; exact f
 | ok d S' =>
  rw [e] at f;exact fun φ' v H' I' X r => hk B φ' S' ρ d v H' I' (E.ext X I) r (Fin.ext f X)
theorem jB {ρ : Ev} {m : Ev -> aO -> Res α} {k : α -> aO -> Res α'} {Q : β' -> Hp -> Prop} {Q1 : β -> Hp -> Prop} (I : GInv K B φ S H) (E : RepE K B φ S H ρ σ) (f : Fin K W σ R' B φ S H ((m ρ S).bind k) Q)
  (hk : ∀ φ' S' d v H1, GInv K B φ' S' H1 -> Ext φ S H φ' S' H1 -> RepE K B φ' S' H1 ρ σ -> R B φ' S' H1 d v -> Fin K W σ R' B φ' S' H1 (k d S') Q -> Q1 v H1) : rd K W R m σ H Q1 := by
 refine ⟨B, φ, S, ρ, I, E, ?_⟩
 cases e : m ρ S with
 | stuck => rw [e] at f; exact f
 | err x S' => rw [e] at f; exact f
 | ok d S' =>
  rw [e] at f;exact fun φ' v H' I' X r => hk φ' S' d v H' I' X (E.ext X I) r (Fin.ext f X)
theorem Fin.now {d : α} {v : β} {Q : β -> Hp -> Prop} (f : Fin K W σ R B φ S H (.ok d S) Q) (I : GInv K B φ S H) (r : R B φ S H d v) : Q v H := f φ v H I Ext.refl r
end
def newL (c : Bool) (ds : List D) (S : aO) : Res Vl := if c then .ok (.cel S.length) (S ++ [.lst ds]) else .ok (.dat (.lst ds)) S
section
variable {K : aD} {W : WX} {σ : L2.St} {B : Addr -> Prop} {φ φ' : List Addr} {S S' : aO} {H H' : Hp} {Q : VK}
theorem nP {l : List Addr} {p : Addr} : (l ++ [p])[l.length]? = some p := by simp
theorem Fin.newT {ds : List D} {vs : List V} {p : Addr} (f : Fin K W σ (RepV K) B φ S H (.ok (.dat (.tup ds)) S) Q) (I : GInv K B φ S H) (r : RepL K (lZ B φ S) H ds vs) (hp : H p = none) : Q (.ref p) (upd H p (.tup vs)) :=
 f φ _ _ (I.new hp) (Ext.new I hp) ⟨p, vs, rfl, .inl (.inl upd_same), (Ext.new I hp).repL I r⟩
theorem Fin.newL {c : Bool} {ds : List D} {vs : List V} {p : Addr} (f : Fin K W σ (RepV K) B φ S H (newL c ds S) Q) (I : GInv K B φ S H) (r : RepL K (lZ B φ S) H ds vs) (hp : H p = none) : Q (.ref p) (upd H p (.lst vs)) := by
 unfold PH.newL at f;cases c with
 | false =>
  refine f φ _ _ (I.new hp) (Ext.new I hp) ⟨p, vs, rfl, I.nblk hp, upd_same, (Ext.new I hp).repL I r⟩
 | true =>
  have X := Ext.newC (o := .lst vs) (x := .lst ds) I hp;refine f (φ ++ [p]) _ _ (I.newC hp fun _ => ⟨vs, upd_same, X.repL I r⟩) X ⟨p, rfl, ?_⟩
  rw [<- I.len];exact nP
end
instance instIntMulOk (a b : Int) : Decidable (IntMulOk a b) := by unfold IntMulOk; infer_instance
instance instCDiv (a b : Int) : Decidable (CDiv a b) := by unfold CDiv; infer_instance
instance instCPow (a b : Int) : Decidable (CPow a b) := by unfold CPow; infer_instance
def lk : Ev -> Nat -> Option Vl
 | [], _ => none
 | x :: _, 0 => x
 | _ :: r, n + 1 => lk r n
theorem N3 : ∀ {ρ : Ev} {i : Nat} {d : Vl}, lk ρ i = some d -> ρ[i]? = some (some d)
 | [], _, _, h => by cases h
 | x :: _, 0, d, h => by
  have e : x = some d := h;rw [e]; rfl
 | _ :: r, n + 1, d, h => by
  have e := N3 (ρ := r) (i := n) (d := d) h
  simpa using e
def aC (i : Nat) : FE := fun ρ S => match lk ρ i with
 | some d => .ok d S
 | none => .stuck
def mC (d : D) : FE := fun _ S => .ok (.dat d) S
def aP (f : Vl -> Vl -> aO -> Res Vl) (a b : FE) : FE := fun ρ S => (a ρ S).bind fun x S1 => (b ρ S1).bind fun y S2 => f x y S2
def m1 (f : Vl -> aO -> Res Vl) (a : FE) : FE := fun ρ S => (a ρ S).bind fun x S1 => f x S1
def eX (K : aD) (r : R2) (f : Vl -> Vl -> aO -> Res Vl) : Prop := ∀ {W : WX} {σ : L2.St} {B : Addr -> Prop} {φ : List Addr} {S : aO} {H : Hp} {x y : V} {d e : Vl} {Q : VK}, GInv K B φ S H -> RepV K B φ S H d x -> RepV K B φ S H e y -> Fin K W σ (RepV K) B φ S H (f d e S) Q -> r x y H Q
def FH (K : aD) (r : V -> Hp -> VK -> Prop) (f : Vl -> aO -> Res Vl) : Prop := ∀ {W : WX} {σ : L2.St} {B : Addr -> Prop} {φ : List Addr} {S : aO} {H : Hp} {x : V} {d : Vl} {Q : VK}, GInv K B φ S H -> RepV K B φ S H d x -> Fin K W σ (RepV K) B φ S H (f d S) Q -> r x H Q
section
variable {X : Cx} {W : WX} {e a b c : Expr} {pos p : Pos} {x : Str}
theorem fv (i : Nat) (hN : X.N[i]? = some x := by rfl) (hv : Vis X.env.scope x := by first | exact D0 rfl | exact BF (D0 rfl) | exact BF (BF rfl)) (hd : (x == ("__debug__" : Str)) = false := by decide)
  (hcd : (x == ("__classdict__" : Str)) = false := by decide) : PE X (.Name x pos) (cW X.K W (aC i)) := dD (pe_var hN hv hd hcd) fun σ H Q h => by
 obtain ⟨B, φ, S, ρ, I, E, f⟩ := h;unfold aC at f;cases q : lk ρ i with
 | none => rw [q] at f; exact f.elim
 | some d =>
  rw [q] at f;obtain ⟨v, h1, h2⟩ := E.2 i d (N3 q);exact ⟨v, h1, f.now I h2⟩
theorem O7 {v : V} {d : D} (h : PE X e (tC v)) (r : ∀ Bk H, Rep X.K Bk H d v) : PE X e (cW X.K W (mC d)) := dD h fun σ H Q h => by
 obtain ⟨B, φ, S, ρ, I, E, f⟩ := h;exact Fin.now (v := v) f I (r _ _)
theorem Bp {K : aD} {r : R2} {f : Vl -> Vl -> aO -> Res Vl} {ma mb : FE} {σ : L2.St} {H : Hp} {Q : VK} (s : eX K r f) (h : cW K W (aP f ma mb) σ H Q) : tOp r (cW K W ma) (cW K W mb) σ H Q :=
 cU (k := fun x ρ S => (mb ρ S).bind fun y S2 => f x y S2) h fun B φ S ρ d v H1 I E r1 f' => jB I E f' fun φ' S' e w H2 I2 X2 E2 r2 f2 => s I2 (r1.ext X2 I) r2 f2
theorem cS {op : Operator} {r : R2} {f : Vl -> Vl -> aO -> Res Vl} {ma mb : FE} (o : OpR X (binaryOp op) r) (s : eX X.K r f) (ha : PE X a (cW X.K W ma)) (hb : PE X b (cW X.K W mb)) : PE X (.BinOp a op b pos) (cW X.K W (aP f ma mb)) :=
 dD (pe_op o ha hb) fun σ H Q h => Bp s h
theorem wU {op : CmpOp} {r : R2} {f : Vl -> Vl -> aO -> Res Vl} {ma mb : FE} (o : OpR X (compareOp op) r) (s : eX X.K r f) (ha : PE X a (cW X.K W ma)) (hb : PE X b (cW X.K W mb)) (hm : behindInMarks op b = false := by rfl) : PE X (.Compare a [op] [b] pos) (cW X.K W (aP f ma mb)) :=
 dD (e_cmp o ha hb hm) fun σ H Q h => Bp s h
theorem MM {K : aD} {r : V -> Hp -> VK -> Prop} {f : Vl -> aO -> Res Vl} {ma : FE} {σ : L2.St} {H : Hp} {Q : VK} (s : FH K r f) (h : cW K W (m1 f ma) σ H Q) : cW K W ma σ H fun x H1 => r x H1 Q :=
 cU (k := fun x ρ S => f x S) h fun B φ S ρ d v H1 I E r1 f' => s I r1 f'
def rB : Vl -> Vl -> aO -> Res Vl
 | .dat (.int i), .dat (.int j), S => .ok (.dat (.int (i - j))) S
 | _, _, _ => .stuck
def rW : Vl -> Vl -> aO -> Res Vl
 | .dat (.int i), .dat (.int j), S => if IntMulOk i j then .ok (.dat (.int (i * j))) S else .stuck
 | _, _, _ => .stuck
def wO : Vl -> Vl -> aO -> Res Vl
 | .dat (.int i), .dat (.int j), S => if 0 < j then .ok (.dat (.int (i % j))) S else .stuck
 | _, _, _ => .stuck
def tZ : Vl -> Vl -> aO -> Res Vl
 | .dat (.int i), .dat (.int j), S => if CDiv i j then .ok (.dat (.int (i / j))) S else .stuck
 | _, _, _ => .stuck
def LD : Vl -> Vl -> aO -> Res Vl
 | .dat (.int i), .dat (.int j), S => if CPow i j then .ok (.dat (.int (i ^ j.toNat))) S else .stuck
 | _, _, _ => .stuck
def Gw : Vl -> Vl -> aO -> Res Vl
 | .dat (.int i), .dat (.int j), S => .ok (.dat (.bl (decide (i < j)))) S
 | _, _, _ => .stuck
def Lh : Vl -> Vl -> aO -> Res Vl
 | .dat (.int i), .dat (.int j), S => .ok (.dat (.bl (decide (i <= j)))) S
 | _, _, _ => .stuck
def E6 : Vl -> Vl -> aO -> Res Vl
 | .dat (.int i), .dat (.int j), S => .ok (.dat (.bl (decide (j < i)))) S
 | _, _, _ => .stuck
def fGe : Vl -> Vl -> aO -> Res Vl
 | .dat (.int i), .dat (.int j), S => .ok (.dat (.bl (decide (j <= i)))) S
 | _, _, _ => .stuck
variable {K : aD}
theorem nI : eX K Ma rB := fun {W σ B φ S H x y d e Q} I r1 r2 f => by
 unfold rB at f;split at f
 ·cases r1; cases r2; exact Fin.now f I rfl
 ·exact f.elim
theorem wQ : eX K RZ rW := fun {W σ B φ S H x y d e Q} I r1 r2 f => by
 unfold rW at f;split at f
 ·cases r1; cases r2
  split at f
  ·rename_i h; exact ⟨h, Fin.now f I rfl⟩
  ·exact f.elim
 ·exact f.elim
theorem uN : eX K Ra wO := fun {W σ B φ S H x y d e Q} I r1 r2 f => by
 unfold wO at f;split at f
 ·cases r1; cases r2
  split at f
  ·rename_i h; exact ⟨h, Fin.now f I rfl⟩
  ·exact f.elim
 ·exact f.elim
theorem Bx : eX K Md tZ := fun {W σ B φ S H x y d e Q} I r1 r2 f => by
 unfold tZ at f;split at f
 ·cases r1; cases r2
  split at f
  ·rename_i h; exact ⟨h, Fin.now f I rfl⟩
  ·exact f.elim
 ·exact f.elim
theorem RV : eX K RY LD := fun {W σ B φ S H x y d e Q} I r1 r2 f => by
 unfold LD at f;split at f
 ·cases r1; cases r2
  split at f
  ·rename_i h; exact ⟨h, Fin.now f I rfl⟩
  ·exact f.elim
 ·exact f.elim
theorem AI : eX K rLtC Gw := fun {W σ B φ S H x y d e Q} I r1 r2 f => by
 unfold Gw at f;split at f
 ·cases r1; cases r2; exact Fin.now f I rfl
 ·exact f.elim
theorem Fp : eX K rLeC Lh := fun {W σ B φ S H x y d e Q} I r1 r2 f => by
 unfold Lh at f;split at f
 ·cases r1; cases r2; exact Fin.now f I rfl
 ·exact f.elim
theorem yI : eX K rGtC E6 := fun {W σ B φ S H x y d e Q} I r1 r2 f => by
 unfold E6 at f;split at f
 ·cases r1; cases r2; exact Fin.now f I rfl
 ·exact f.elim
theorem s_ge : eX K rGeC fGe := fun {W σ B φ S H x y d e Q} I r1 r2 f => by
 unfold fGe at f;split at f
 ·cases r1; cases r2; exact Fin.now f I rfl
 ·exact f.elim
def xI : Vl -> aO -> Res Vl
 | .dat (.int i), S => .ok (.dat (.int (-i))) S
 | _, _ => .stuck
theorem tW {ma : FE} (ha : PE X a (cW X.K W ma)) : PE X (.UnaryOp .USub a pos) (cW X.K W (m1 xI ma)) :=
 dD (pe_un Ou ha) fun σ H Q h => MM (r := cNeg) (fun {W σ B φ S H x d Q} I r f => by
  unfold xI at f;split at f
  ·cases r; exact Fin.now f I rfl
  ·exact f.elim) h
theorem RepL.len {Bk : Addr -> Prop} {H : Hp} : ∀ {ds : List D} {vs : List V}, RepL K Bk H ds vs -> vs.length = ds.length
 | [], vs, h => by cases h; rfl
 | d :: ds, vs, ⟨v, ws, e, _, h2⟩ => by subst e; simp [RepL.len h2]
theorem RepL.get {Bk : Addr -> Prop} {H : Hp} : ∀ {ds : List D} {vs : List V} {i : Nat} {d : D}, RepL K Bk H ds vs -> ds[i]? = some d -> ∃ v, vs[i]? = some v /\ Rep K Bk H d v
 | [], vs, i, d, h, q => by simp at q
 | d :: ds, vs, 0, d', ⟨v, ws, e, h1, h2⟩, q => by simp at q; subst q e; exact ⟨v, rfl, h1⟩
 | d :: ds, vs, i + 1, d', ⟨v, ws, e, h1, h2⟩, q => by
  subst e;obtain ⟨v', h3, h4⟩ := RepL.get (i := i) (d := d') h2 (by simpa using q)
  exact ⟨v', by simpa using h3, h4⟩
theorem RepL.append {Bk : Addr -> Prop} {H : Hp} : ∀ {ds es : List D} {vs ws : List V}, RepL K Bk H ds vs -> RepL K Bk H es ws -> RepL K Bk H (ds ++ es) (vs ++ ws)
 | [], es, vs, ws, h, h' => by cases h; exact h'
 | d :: ds, es, vs, ws, ⟨v, us, e, h1, h2⟩, h' => by subst e; exact ⟨v, us ++ ws, rfl, h1, RepL.append h2 h'⟩
theorem RepL.take {Bk : Addr -> Prop} {H : Hp} : ∀ {ds : List D} {vs : List V} (n : Nat), RepL K Bk H ds vs -> RepL K Bk H (ds.take n) (vs.take n)
 | ds, vs, 0, h => by simp [RepL]
 | [], vs, n + 1, h => by cases h; rfl
 | d :: ds, vs, n + 1, ⟨v, us, e, h1, h2⟩ => by subst e; exact ⟨v, us.take n, rfl, h1, RepL.take n h2⟩
theorem RepL.drop {Bk : Addr -> Prop} {H : Hp} : ∀ {ds : List D} {vs : List V} (n : Nat), RepL K Bk H ds vs -> RepL K Bk H (ds.drop n) (vs.drop n)
 | ds, vs, 0, h => h
 | [], vs, n + 1, h => by cases h; rfl
 | d :: ds, vs, n + 1, ⟨v, us, e, h1, h2⟩ => by subst e; exact RepL.drop n h2
theorem RepL.set {Bk : Addr -> Prop} {H : Hp} {d : D} {v : V} (r : Rep K Bk H d v) : ∀ {ds : List D} {vs : List V} (n : Nat), RepL K Bk H ds vs -> RepL K Bk H (ds.set n d) (vs.set n v)
 | [], vs, n, h => by cases h; rfl
 | _ :: ds, vs, 0, ⟨_, us, e, h1, h2⟩ => by subst e; exact ⟨v, us, rfl, r, h2⟩
 | d' :: ds, vs, n + 1, ⟨v', us, e, h1, h2⟩ => by subst e; exact ⟨v', us.set n v, rfl, h1, RepL.set r n h2⟩
theorem RepL.snoc {Bk : Addr -> Prop} {H : Hp} {ds : List D} {vs : List V} {d : D} {v : V} (h : RepL K Bk H ds vs) (r : Rep K Bk H d v) : RepL K Bk H (ds ++ [d]) (vs ++ [v]) := h.append ⟨v, [], rfl, r, rfl⟩
theorem RepL.atI {Bk : Addr -> Prop} {H : Hp} {ds : List D} {vs : List V} {i : Int} {d : D} (h : RepL K Bk H ds vs) (q : L2.atI ds i = some d) : ∃ v, L2.atI vs i = some v /\ Rep K Bk H d v := by
 unfold L2.atI at q ⊢;rw [h.len];cases e : ixN ds.length i with
 | none => rw [e] at q; cases q
 | some j =>
  rw [e] at q;exact h.get (i := j) q
theorem RepVs.len {B : Addr -> Prop} {φ : List Addr} {S : aO} {H : Hp} : ∀ {ds : List Vl} {vs : List V}, RepVs K B φ S H ds vs -> vs.length = ds.length
 | [], vs, h => by cases h; rfl
 | d :: ds, vs, ⟨v, ws, e, _, h2⟩ => by subst e; simp [RepVs.len h2]
def xR : List Vl -> Option (List D)
 | [] => some []
 | .dat d :: r => match xR r with
  | some ds => some (d :: ds)
  | none => none
 | _ :: _ => none
theorem A6 {B : Addr -> Prop} {φ : List Addr} {S : aO} {H : Hp} : ∀ {xs : List Vl} {vs : List V} {ds : List D}, xR xs = some ds -> RepVs K B φ S H xs vs -> RepL K (lZ B φ S) H ds vs
 | [], vs, ds, h, r => by cases h; exact r
 | .dat d :: xs, vs, ds, h, ⟨v, ws, e, h1, h2⟩ => by
  unfold xR at h;cases q : xR xs with
  | none => rw [q] at h; cases h
  | some es => rw [q] at h; cases h; exact ⟨v, ws, e, h1, A6 q h2⟩
 | .cel _ :: xs, vs, ds, h, _ => by cases h
 | .cels _ :: xs, vs, ds, h, _ => by cases h
 | .scr _ :: xs, vs, ds, h, _ => by cases h
 | .tc _ :: xs, vs, ds, h, _ => by cases h
def nU (S : aO) : Vl -> Option (List D)
 | .dat (.lst xs) => some xs
 | .cel n => match S[n]? with
  | some (.lst xs) => some xs
  | _ => none
 | _ => none
theorem lA {B : Addr -> Prop} {φ : List Addr} {S : aO} {H : Hp} {d : Vl} {v : V} {xs : List D} (I : GInv K B φ S H) (h : nU S d = some xs) (r : RepV K B φ S H d v) : ∃ a vs, v = .ref a /\ H a = some (.lst vs) /\ RepL K (lZ B φ S) H xs vs := by
 unfold nU at h;split at h
 ·cases h
  obtain ⟨a, vs, e, _, h1, h2⟩ := r;exact ⟨a, vs, e, h1, h2⟩
 ·rename_i n
  obtain ⟨a, e, h1⟩ := r;split at h
  ·rename_i ys q
   cases h;obtain ⟨vs, h2, h3⟩ := I.ok n _ a q h1;exact ⟨a, vs, e, h2, h3⟩
  ·cases h
 ·cases h
end
section
variable {X : Cx} {W : WX} {e a b c : Expr} {es rest : List Expr} {pos p : Pos} {x : Str} {K : aD} {ma mb mc : FE} {mt mu : FT} {mas : FA} {B : Addr -> Prop} {φ : List Addr} {S : aO} {H : Hp} {σ : L2.St} {Q : VK}
def dA (cl : Bool) (x y : Vl) (S : aO) : Res Vl := match x, y with
 | .dat (.int i), .dat (.int j) => .ok (.dat (.int (i + j))) S
 | .dat (.str a), .dat (.str b) => if a.length + b.length <= sizeLine then .ok (.dat (.str (a ++ b))) S else .stuck
 | .dat (.tup xs), .dat (.tup ys) => if xs.length + ys.length <= sizeLine then .ok (.dat (.tup (xs ++ ys))) S else .stuck
 | x, y => match nU S x, nU S y with
  | some xs, some ys => if xs.length + ys.length <= sizeLine then newL cl (xs ++ ys) S else .stuck
  | _, _ => .stuck
theorem dF {cl : Bool} : eX K (cAdd K) (dA cl) := fun {W σ B φ S H x y d e Q} I r1 r2 f => by
 unfold dA at f;split at f
 ·cases r1; cases r2; exact Fin.now f I rfl
 ·cases r1; cases r2
  split at f
  ·rename_i h; exact ⟨h, Fin.now f I rfl⟩
  ·exact f.elim
 ·rename_i xs ys
  obtain ⟨a, vs, rfl, h1, l1⟩ := r1;obtain ⟨b, ws, rfl, h2, l2⟩ := r2;split at f
  ·rename_i h
   refine BF ⟨a, b, vs, ws, rfl, rfl, h1, h2, by rw [l1.len, l2.len]; exact h, fun e => ?_, fun e1 e2 => ?_, fun _ _ p hp => Fin.newT f I (l1.append l2) hp⟩
   ·have l := l1.append l2
    rw [e, dR] at l;exact Fin.now f I ⟨b, ws, rfl, h2, l⟩
   ·have l := l1.append l2
    rw [e2, cP] at l;exact Fin.now f I ⟨a, vs, rfl, h1, l⟩
  ·exact f.elim
 ·split at f
  ·rename_i xs ys q1 q2
   obtain ⟨a, vs, rfl, h1, l1⟩ := lA I q1 r1;obtain ⟨b, ws, rfl, h2, l2⟩ := lA I q2 r2;split at f
   ·rename_i h
    exact D0 ⟨a, b, vs, ws, rfl, rfl, h1, h2, by rw [l1.len, l2.len]; exact h, fun p hp => Fin.newL f I (l1.append l2) hp⟩
   ·exact f.elim
  ·exact f.elim
def bO (x y : Vl) (S : aO) : Res Vl := match x, y with
 | .dat (.tup xs), .dat (.int i) => match atI xs i with
  | some d => .ok (.dat d) S
  | none => .stuck
 | .dat (.str z), .dat (.int i) => if z.length <= sizeLine then (match atI z.cps.toList i with
  | some c => .ok (.dat (.str ⟨#[c]⟩)) S
  | none => .stuck) else .stuck
 | .cels ns, .dat (.int i) => match atI ns i with
  | some n => .ok (.cel n) S
  | none => .stuck
 | x, .dat (.int i) => match nU S x with
  | some xs => (match atI xs i with
   | some d => .ok (.dat d) S
   | none => .stuck)
  | none => .stuck
 | _, _ => .stuck
theorem FF {α β : Type} {f : α -> β} {xs : List α} {i : Int} : atI (xs.map f) i = (atI xs i).map f := by
 unfold atI;rw [aN];cases ixN xs.length i with
 | none => rfl
 | some j => simp
theorem s_ix : eX K (cIx K) bO := fun {W σ B φ S H x y d e Q} I r1 r2 f => by
 unfold bO at f;split at f
 ·cases r2
  obtain ⟨a, vs, rfl, h1, l1⟩ := r1;split at f
  ·rename_i q
   obtain ⟨v, h2, h3⟩ := l1.atI q;exact ⟨vs, v, .inr h1, h2, Fin.now f I h3⟩
  ·exact f.elim
 ·cases r1; cases r2
  split at f
  ·rename_i h
   split at f
   ·rename_i c q
    exact ⟨h, c, q, Fin.now f I rfl⟩
   ·exact f.elim
  ·exact f.elim
 ·rename_i ns i
  cases r2;obtain ⟨a, as, rfl, h1, h2, h3⟩ := r1;split at f
  ·rename_i n q
   have q2 : atI (ns.map fun n => φ[n]?) i = some φ[n]? := by rw [FF, q]; rfl
   rw [h3, FF] at q2;cases q3 : atI as i with
   | none => rw [q3] at q2; cases q2
   | some b =>
    rw [q3] at q2;refine ⟨as.map V.ref, .ref b, .inl (SqL.of h2), by rw [FF, q3]; rfl, Fin.now f I ⟨b, rfl, ?_⟩⟩
    simpa using q2.symm
  ·exact f.elim
 ·cases r2
  split at f
  ·rename_i xs q1
   obtain ⟨a, vs, rfl, h1, l1⟩ := lA I q1 r1;split at f
   ·rename_i q
    obtain ⟨v, h2, h3⟩ := l1.atI q;exact ⟨vs, v, .inl (SqL.of h1), h2, Fin.now f I h3⟩
   ·exact f.elim
  ·exact f.elim
 ·exact f.elim
theorem bJ (ha : PE X a (cW X.K W ma)) (hb : PE X b (cW X.K W mb)) (hs : PlainIx b := by intro _ _; rfl) : PE X (.Subscript a b pos) (cW X.K W (aP bO ma mb)) := dD (e_ix ha hb hs) fun σ H Q h => Bp s_ix h
mutual
def D.py : D -> Option PyData
 | .non => some .none
 | .bl b => some (.bool b)
 | .int i => some (.int i)
 | .str x => some (.str x)
 | .lst xs => match D.pys xs with
  | some ys => some (.list ys)
  | none => none
 | .tup xs => match D.pys xs with
  | some ys => some (.tuple ys)
  | none => none
 | .ins _ _ _ => none
 | .dct => none
 | .opq _ => none
def D.pys : List D -> Option (List PyData)
 | [] => some []
 | d :: ds => match D.py d, D.pys ds with
  | some x, some xs => some (x :: xs)
  | _, _ => none
end
mutual
theorem Rep.dp {Bk : Addr -> Prop} {H : Hp} : ∀ (d : D) (v : V) (p : PyData), d.py = some p -> Rep K Bk H d v -> Dp K H v p
 | .non, v, p, h, r => by cases h; cases r; exact .non
 | .bl b, v, p, h, r => by cases h; cases r; exact .bl b
 | .int b, v, p, h, r => by cases h; cases r; exact .int b
 | .str b, v, p, h, r => by cases h; cases r; exact .str b
 | .lst xs, v, p, h, ⟨a, vs, e, _, h1, h2⟩ => by
  subst e;unfold D.py at h;cases q : D.pys xs with
  | none => rw [q] at h; cases h
  | some ys => rw [q] at h; cases h; exact .lst (SqL.of h1) (RepL.dp xs vs ys q h2)
 | .tup xs, v, p, h, ⟨a, vs, e, h1, h2⟩ => by
  subst e;unfold D.py at h;cases q : D.pys xs with
  | none => rw [q] at h; cases h
  | some ys => rw [q] at h; cases h; exact .tup h1 (RepL.dp xs vs ys q h2)
 | .ins _ _ _, v, p, h, r => by cases h
 | .dct, v, p, h, r => by cases h
 | .opq _, v, p, h, r => by cases h
theorem RepL.dp {Bk : Addr -> Prop} {H : Hp} : ∀ (ds : List D) (vs : List V) (ps : List PyData), D.pys ds = some ps -> RepL K Bk H ds vs -> DpAll K H vs ps
 | [], vs, ps, h, r => by cases h; cases r; exact .nil
 | d :: ds, vs, ps, h, ⟨v, ws, e, h1, h2⟩ => by
  subst e;unfold D.pys at h;cases q1 : D.py d with
  | none => rw [q1] at h; cases h
  | some x =>
   cases q2 : D.pys ds with
   | none => rw [q1, q2] at h; cases h
   | some xs => rw [q1, q2] at h; cases h; exact .cons (Rep.dp d v x q1 h1) (RepL.dp ds ws xs q2 h2)
end
def J6 (S : aO) : Vl -> Option PyData
 | .dat d => d.py
 | .cel n => match S[n]? with
  | some (.lst xs) => D.py (.lst xs)
  | _ => none
 | _ => none
def Kb (S : aO) : List Vl -> Option (List PyData)
 | [] => some []
 | x :: r => match J6 S x, Kb S r with
  | some p, some ps => some (p :: ps)
  | _, _ => none
def uD (S : aO) : Vl -> Option PyData
 | .dat d => d.py
 | .cel n => match S[n]? with
  | some (.lst xs) => D.py (.lst xs)
  | some (.lv xs) => (match Kb S xs with
   | some ps => some (.list ps)
   | none => none)
  | _ => none
 | _ => none
theorem Me {d : Vl} {v : V} {p : PyData} (I : GInv K B φ S H) (h : J6 S d = some p) (r : RepV K B φ S H d v) : Dp K H v p := by
 unfold J6 at h;split at h
 ·exact Rep.dp _ _ _ h r
 ·rename_i n
  obtain ⟨a, rfl, h1⟩ := r;split at h
  ·rename_i xs q
   obtain ⟨vs, h2, h3⟩ := I.ok n _ a q h1;unfold D.py at h;cases q : D.pys xs with
   | none => rw [q] at h; cases h
   | some ys => rw [q] at h; cases h; exact .lst (SqL.of h2) (RepL.dp xs vs ys q h3)
  ·cases h
 ·cases h
theorem J5 (I : GInv K B φ S H) : ∀ {xs : List Vl} {vs : List V} {ps : List PyData}, Kb S xs = some ps -> RepVs K B φ S H xs vs -> DpAll K H vs ps
 | [], vs, ps, h, r => by cases h; cases r; exact .nil
 | x :: xs, vs, ps, h, ⟨v, ws, e, h1, h2⟩ => by
  subst e;unfold Kb at h;cases q1 : J6 S x with
  | none => rw [q1] at h; cases h
  | some p =>
   cases q2 : Kb S xs with
   | none => rw [q1, q2] at h; cases h
   | some qs => rw [q1, q2] at h; cases h; exact .cons (Me I q1 h1) (J5 I q2 h2)
theorem oJ {d : Vl} {v : V} {p : PyData} (I : GInv K B φ S H) (h : uD S d = some p) (r : RepV K B φ S H d v) : Dp K H v p := by
 unfold uD at h;split at h
 ·exact Rep.dp _ _ _ h r
 ·rename_i n
  obtain ⟨a, rfl, h1⟩ := r;split at h
  ·rename_i xs q
   obtain ⟨vs, h2, h3⟩ := I.ok n _ a q h1;unfold D.py at h;cases q : D.pys xs with
   | none => rw [q] at h; cases h
   | some ys => rw [q] at h; cases h; exact .lst (SqL.of h2) (RepL.dp xs vs ys q h3)
  ·rename_i xs q
   obtain ⟨vs, h2, h3⟩ := I.ok n _ a q h1;cases q : Kb S xs with
   | none => rw [q] at h; cases h
   | some ys => rw [q] at h; cases h; exact .lst (SqL.of h2) (J5 I q h3)
  ·cases h
 ·cases h
def RU (p q : PyData) : Bool := SeqAt.shaped p && SeqAt.shaped q
def fF (x y : Vl) (S : aO) : Res Vl := match x, y with
 | .dat (.int i), .dat (.int j) => .ok (.dat (.bl (decide (i = j)))) S
 | .dat (.str i), .dat (.str j) => .ok (.dat (.bl (decide (i = j)))) S
 | x, y => match uD S x, uD S y with
  | some p, some q => if RU p q = true then .ok (.dat (.bl (PyData.eqv p q))) S else .stuck
  | _, _ => .stuck
def FN (x y : Vl) (S : aO) : Res Vl := match x, y with
 | .dat (.int i), .dat (.int j) => .ok (.dat (.bl (!decide (i = j)))) S
 | .dat (.str i), .dat (.str j) => .ok (.dat (.bl (!decide (i = j)))) S
 | x, y => match uD S x, uD S y with
  | some p, some q => if RU p q = true then .ok (.dat (.bl (!PyData.eqv p q))) S else .stuck
  | _, _ => .stuck
theorem R7 {x y : V} (h : rEqD K x y H Q) : cEq K x y H Q := by
 unfold cEq;split
 ·obtain ⟨d, e, h1, h2, _, _, q⟩ := h
  cases h1; cases h2;exact q
 ·obtain ⟨d, e, h1, h2, _, _, q⟩ := h
  cases h1; cases h2;exact q
 ·exact h
theorem R6 {x y : V} (h : rNeD K x y H Q) : cNe K x y H Q := by
 unfold cNe;split
 ·obtain ⟨d, e, h1, h2, _, _, q⟩ := h
  cases h1; cases h2;exact q
 ·obtain ⟨d, e, h1, h2, _, _, q⟩ := h
  cases h1; cases h2;exact q
 ·exact h
theorem s_eq : eX K (cEq K) fF := fun {W σ B φ S H x y d e Q} I r1 r2 f => by
 unfold fF at f;split at f
 ·cases r1; cases r2; exact Fin.now f I rfl
 ·cases r1; cases r2; exact Fin.now f I rfl
 ·split at f
  ·rename_i p q h1 h2
   split at f
   ·rename_i h
    obtain ⟨h3, h4⟩ := He.ba h;exact R7 ⟨p, q, oJ I h1 r1, oJ I h2 r2, h3, h4, Fin.now f I rfl⟩
   ·exact f.elim
  ·exact f.elim
theorem Ec : eX K (cNe K) FN := fun {W σ B φ S H x y d e Q} I r1 r2 f => by
 unfold FN at f;split at f
 ·cases r1; cases r2; exact Fin.now f I rfl
 ·cases r1; cases r2; exact Fin.now f I rfl
 ·split at f
  ·rename_i p q h1 h2
   split at f
   ·rename_i h
    obtain ⟨h3, h4⟩ := He.ba h;exact R6 ⟨p, q, oJ I h1 r1, oJ I h2 r2, h3, h4, Fin.now f I rfl⟩
   ·exact f.elim
  ·exact f.elim
def fIn (neg : Bool) (x y : Vl) (S : aO) : Res Vl := match uD S x, uD S y with
 | some p, some (.list qs) => if RU p (.list qs) = true then .ok (.dat (.bl (if neg then !(qs.any fun z => PyData.eqv z p) else (qs.any fun z => PyData.eqv z p)))) S else .stuck
 | _, _ => .stuck
theorem s_in : eX K (rInD K) (fIn false) := fun {W σ B φ S H x y d e Q} I r1 r2 f => by
 unfold fIn at f;split at f
 ·rename_i p qs h1 h2
  split at f
  ·rename_i h
   obtain ⟨h3, h4⟩ := He.ba h;exact ⟨p, qs, oJ I h1 r1, oJ I h2 r2, h3, h4, Fin.now f I rfl⟩
  ·exact f.elim
 ·exact f.elim
def isNon : Vl -> Bool
 | .dat .non => true
 | _ => false
def Cw (neg : Bool) (x y : Vl) (S : aO) : Res Vl := match y with
 | .dat .non => .ok (.dat (.bl (if neg then !(isNon x) else isNon x))) S
 | _ => .stuck
theorem GZ {d : Vl} {v : V} (r : RepV K B φ S H d v) : decide (v = .non) = isNon d := by
 cases d with
 | dat d =>
  cases d with
  | non => cases r; rfl
  | bl b => cases r; rfl
  | int b => cases r; rfl
  | str b => cases r; rfl
  | lst xs => obtain ⟨a, vs, rfl, _⟩ := r; rfl
  | tup xs => obtain ⟨a, vs, rfl, _⟩ := r; rfl
  | ins C ns xs => obtain ⟨a, dx, vs, rfl, _⟩ := r; rfl
  | dct => obtain ⟨a, rfl, _⟩ := r; rfl
  | opq k => cases k with
   | none => obtain ⟨a, rfl⟩ := r; rfl
   | some k => obtain ⟨a, rfl, _⟩ := r; rfl
 | cel n => obtain ⟨a, rfl, _⟩ := r; rfl
 | cels ns => obtain ⟨a, as, rfl, _⟩ := r; rfl
 | scr ns => obtain ⟨a, rfl, _⟩ := r; rfl
 | tc xs => obtain ⟨a, vs, rfl, _⟩ := r; rfl
theorem MS : eX K Rb (Cw false) := fun {W σ B φ S H x y d e Q} I r1 r2 f => by
 unfold Cw at f;split at f
 ·cases r2
  show Q (.bl (decide (x = .non))) H
  rw [GZ r1];exact Fin.now f I rfl
 ·exact f.elim
theorem MQ : eX K Mb (Cw true) := fun {W σ B φ S H x y d e Q} I r1 r2 f => by
 unfold Cw at f;split at f
 ·cases r2
  show Q (.bl (!decide (x = .non))) H
  rw [GZ r1];exact Fin.now f I rfl
 ·exact f.elim
def unB : Vl -> aO -> Res Bool
 | .dat (.bl b), S => .ok b S
 | _, _ => .stuck
def mB (a : FE) : FT := fun ρ S => (a ρ S).bind unB
theorem ML {Q : Bool -> Hp -> Prop} (h : xW K W (mB ma) σ H Q) : cW K W ma σ H fun x H' => (match x with | .bl k => Q k H' | _ => False) :=
 cU (k := fun x _ S => unB x S) h fun B φ S ρ d v H1 I E r f => by
  unfold unB at f;split at f
  ·cases r; exact Fin.now f I rfl
  ·exact f.elim
theorem aU {op : CmpOp} {r : R2} {f : Vl -> Vl -> aO -> Res Vl} (o : OpR X (compareOp op) r) (s : eX X.K r f) (ha : PE X a (cW X.K W ma)) (hb : PE X b (cW X.K W mb)) (hm : behindInMarks op b = false := by rfl) : PT X (.Compare a [op] [b] pos) (xW X.K W (mB (aP f ma mb))) :=
 Cj (RR o ha hb hm) fun σ H Q h => Bp s (ML h)
def Bj (x : Vl) (S : aO) : Res Bool := match x with
 | .dat .non => .ok false S
 | .dat (.bl b) => .ok b S
 | .dat (.int i) => .ok (i != 0) S
 | .dat (.str y) => if y.length <= sizeLine then .ok ((y.length : Int) != 0) S else .stuck
 | .dat (.tup xs) => .ok (!xs.isEmpty) S
 | x => match nU S x with
  | some xs => .ok (!xs.isEmpty) S
  | none => .stuck
theorem RepL.emp {Bk : Addr -> Prop} {ds : List D} {vs : List V} (h : RepL K Bk H ds vs) : (!ds.isEmpty) = !vs.isEmpty := by
 have := h.len;cases ds <;> cases vs <;> simp at this ⊢
theorem EU {d : Vl} {v : V} {Q : Bool -> Hp -> Prop} (I : GInv K B φ S H) (r : RepV K B φ S H d v) (f : Fin K W σ RB B φ S H (Bj d S) Q) : cT K v H Q := by
 unfold Bj at f;split at f
 ·cases r; exact Fin.now f I rfl
 ·cases r; exact Fin.now f I rfl
 ·cases r; exact Fin.now f I rfl
 ·cases r
  split at f
  ·rename_i h; exact ⟨_, ⟨h, rfl⟩, Fin.now f I rfl⟩
  ·exact f.elim
 ·obtain ⟨a, vs, rfl, h1, l1⟩ := r
  exact ⟨_, .inr (.inl ⟨vs, h1, l1.emp⟩), Fin.now f I rfl⟩
 ·split at f
  ·rename_i xs q1
   obtain ⟨a, vs, rfl, h1, l1⟩ := lA I q1 r;exact ⟨_, .inl ⟨vs, SqL.of h1, l1.emp⟩, Fin.now f I rfl⟩
  ·exact f.elim
def gQ (a : FE) : FT := fun ρ S => (a ρ S).bind Bj
theorem fJ (ha : PE X a (cW X.K W ma)) (he : ∀ whole, isTrue a X.env whole = (do let v <- whole; standAt a.pos; holding [v] (truthy v)) := by intro _; rfl) : PT X a (xW X.K W (gQ ma)) :=
 Cj (t_val ha he) fun σ H Q h => cU (k := fun x _ S => Bj x S) h fun B φ S ρ d v H1 I E r f => EU I r f
def B9 (a b : FT) : FT := fun ρ S => (a ρ S).bind fun c S1 => if c = true then b ρ S1 else .ok false S1
def BS (a b : FT) : FT := fun ρ S => (a ρ S).bind fun c S1 => if c = true then .ok true S1 else b ρ S1
def oK (a : FT) : FT := fun ρ S => (a ρ S).bind fun c S1 => .ok (!c) S1
theorem OX {e : Expr} {t u : TT} (h : PW X e t) (i : ∀ σ H Q, u σ H Q -> t σ H Q) : PW X e u := ⟨fun whole pins s σ H Q I q => h.run whole pins s σ H Q I (i σ H Q q)⟩
theorem PF {Q : Bool -> Hp -> Prop} (h : xW K W (B9 mt mu) σ H Q) : tAnd (xW K W mt) (xW K W mu) σ H Q :=
 cU (k := fun c ρ S => if c = true then mu ρ S else .ok false S) h fun B φ S ρ d v H1 I E r f => by
  have r : v = d := r;subst r;cases v with
  | true => exact ⟨B, φ, S, ρ, I, E, f⟩
  | false => exact Fin.now f I rfl
theorem SQ {Q : Bool -> Hp -> Prop} (h : xW K W (BS mt mu) σ H Q) : tOr (xW K W mt) (xW K W mu) σ H Q :=
 cU (k := fun c ρ S => if c = true then .ok true S else mu ρ S) h fun B φ S ρ d v H1 I E r f => by
  have r : v = d := r;subst r;cases v with
  | false => exact ⟨B, φ, S, ρ, I, E, f⟩
  | true => exact Fin.now f I rfl
theorem tF (ha : PT X a (xW X.K W mt)) (hb : PW X (.BoolOp .And (b :: rest) pos) (xW X.K W mu)) : PW X (.BoolOp .And (a :: b :: rest) pos) (xW X.K W (B9 mt mu)) := OX (pw_and ha hb) fun σ H Q h => PF h
theorem lT (ha : PT X a (xW X.K W mt)) (hb : PW X (.BoolOp .Or (b :: rest) pos) (xW X.K W mu)) : PW X (.BoolOp .Or (a :: b :: rest) pos) (xW X.K W (BS mt mu)) := OX (pw_or ha hb) fun σ H Q h => SQ h
theorem hZ (ha : PT X a (xW X.K W mt)) : PT X (.UnaryOp .Not a pos) (xW X.K W (oK mt)) := Cj (pt_not ha) fun σ H Q h =>
 cU (k := fun c _ S => .ok (!c) S) h fun B φ S ρ d v H1 I E r f => by cases r; exact Fin.now f I rfl
def pH (a b : FE) : FE := fun ρ S => (a ρ S).bind fun x S1 => match x with
 | .dat (.bl c) => if c = true then b ρ S1 else .ok (.dat (.bl false)) S1
 | _ => .stuck
def mOrV (a b : FE) : FE := fun ρ S => (a ρ S).bind fun x S1 => match x with
 | .dat (.bl c) => if c = true then .ok (.dat (.bl true)) S1 else b ρ S1
 | _ => .stuck
def Mx (a : FE) : FE := fun ρ S => (a ρ S).bind fun x S1 => (Bj x S1).bind fun k S2 => .ok (.dat (.bl (!k))) S2
theorem nY (ha : PE X a (cW X.K W ma)) (hb : PE X (.BoolOp .And (b :: rest) pos) (cW X.K W mb)) : PE X (.BoolOp .And (a :: b :: rest) pos) (cW X.K W (pH ma mb)) := dD (e_and ha hb) fun σ H Q h =>
 cU (k := fun x ρ S1 => match x with | .dat (.bl c) => if c = true then mb ρ S1 else .ok (.dat (.bl false)) S1 | _ => .stuck) h fun B φ S ρ d v H1 I E r f => by
  split at f
  ·rename_i c
   cases r;cases c with
   | true => exact ⟨B, φ, S, ρ, I, E, f⟩
   | false => exact Fin.now f I rfl
  ·exact f.elim
def Sr (a b : FE) : FE := fun ρ S => (a ρ S).bind fun x S1 => (Bj x S1).bind fun k S2 => if k = true then .ok x S2 else b ρ S2
theorem Fb {x : Vl} {k : Bool} {S' : aO} (h : Bj x S = .ok k S') : S' = S := by
 unfold Bj at h;split at h
 ·cases h; rfl
 ·cases h; rfl
 ·cases h; rfl
 ·split at h <;> cases h; rfl
 ·cases h; rfl
 ·split at h <;> cases h; rfl
theorem tru_V {d : Vl} {v : V} {k : Bool} (I : GInv K B φ S H) (r : RepV K B φ S H d v) (h : Bj d S = .ok k S) : TruV K v H k := by
 obtain ⟨k', h1, h2⟩ := OL v H (fun b _ => b = k) (EU (W := Bg) (σ := []) I r (by
  rw [h];exact fun φ' v' H' _ _ r => r))
 rw [<- h2]; exact h1
theorem UI (ha : PE X a (cW X.K W ma)) (hb : PE X (.BoolOp .Or (b :: rest) pos) (cW X.K W mb)) : PE X (.BoolOp .Or (a :: b :: rest) pos) (cW X.K W (Sr ma mb)) := dD (pe_orT ha hb) fun σ H Q h =>
 cU (k := fun x ρ S1 => (Bj x S1).bind fun k S2 => if k = true then .ok x S2 else mb ρ S2) h fun B φ S ρ d v H1 I E r f => by
  cases q : Bj d S with
  | stuck => rw [q] at f; exact f.elim
  | err e S' =>
   exfalso
   unfold Bj at q;split at q <;> first | cases q | (split at q <;> cases q)
  | ok k S' =>
   have e := Fb q;subst e;rw [q] at f;refine ⟨k, tru_V I r q, ?_⟩
   cases k with
   | true => exact Fin.now f I r
   | false => exact ⟨B, φ, S', ρ, I, E, f⟩
theorem UJ (ha : PE X a (cW X.K W ma)) : PE X (.UnaryOp .Not a pos) (cW X.K W (Mx ma)) := dD (e_not ha) fun σ H Q h =>
 cU (k := fun x _ S1 => (Bj x S1).bind fun k S2 => Res.ok (Vl.dat (D.bl (!k))) S2) h fun B φ S ρ d v H1 I E r f => by
  cases q : Bj d S with
  | stuck => rw [q] at f; exact f.elim
  | err e S' =>
   exfalso
   unfold Bj at q;split at q <;> first | cases q | (split at q <;> cases q)
  | ok k S' =>
   have e := Fb q;subst e;rw [q] at f;refine EU (W := W) (σ := σ) I r ?_
   rw [q];intro φ' v' H' I' X' r';cases r';exact Fin.now (Fin.ext f X') I' rfl
def rA (f g : Vl -> Vl -> aO -> Res Vl) (a b c : FE) : FE := fun ρ S => (a ρ S).bind fun x S1 => (b ρ S1).bind fun y S2 => (f x y S2).bind fun z S3 => match z with
 | .dat (.bl k) => if k = true then (c ρ S3).bind fun w S4 => g y w S4 else .ok (.dat (.bl false)) S3
 | _ => .stuck
theorem DH {r r' : R2} {f g : Vl -> Vl -> aO -> Res Vl} (s : eX K r f) (s' : eX K r' g) (h : cW K W (rA f g ma mb mc) σ H Q) : FB r r' (cW K W ma) (cW K W mb) (cW K W mc) σ H Q := by
 refine cU (k := fun x ρ S1 => (mb ρ S1).bind fun y S2 => (f x y S2).bind fun z S3 => match z with | .dat (.bl k) => if k = true then (mc ρ S3).bind fun w S4 => g y w S4 else .ok (.dat (.bl false)) S3 | _ => .stuck) h fun B φ S ρ d v H1 I E r1 f' => jB I E f' fun φ' S' e w H2 I2 X2 E2 r2 f2 => ?_
 have r1' := r1.ext X2 I;refine s (W := W) (σ := σ) I2 r1' r2 ?_
 cases q : f d e S' with
 | stuck => rw [q] at f2; exact f2
 | err x S3 => rw [q] at f2; exact f2
 | ok z S3 =>
  rw [q] at f2;intro φ3 v3 H3 I3 X3 r3;have f3 := Fin.ext f2 X3;dsimp only [Res.bind] at f3;split at f3
  ·rename_i k
   cases r3;cases k with
   | false => exact Fin.now f3 I3 rfl
   | true => exact jB I3 (E2.ext X3 I2) f3 fun φ4 S4 d4 v4 H4 I4 X4 E4 r4 f4 => s' I4 ((r2.ext X3 I2).ext X4 I3) r4 f4
  ·exact f3.elim
theorem F3 {op op' : CmpOp} {r r' : R2} {f g : Vl -> Vl -> aO -> Res Vl} (ho : OpR X (compareOp op) r) (s : eX X.K r f) (ho' : OpR X (compareOp op') r') (s' : eX X.K r' g) (ha : PE X a (cW X.K W ma)) (hb : PE X b (cW X.K W mb)) (hc : PE X c (cW X.K W mc))
  (hm : lastMarks [op, op'] [b, c] = false := by with_unfolding_all rfl) : PE X (.Compare a [op, op'] [b, c] pos) (cW X.K W (rA f g ma mb mc)) := dD (Qw ho ho' ha hb hc hm) fun σ H Q h => DH s s' h
theorem Gm {op op' : CmpOp} {r r' : R2} {f g : Vl -> Vl -> aO -> Res Vl} (ho : OpR X (compareOp op) r) (s : eX X.K r f) (ho' : OpR X (compareOp op') r') (s' : eX X.K r' g) (ha : PE X a (cW X.K W ma)) (hb : PE X b (cW X.K W mb)) (hc : PE X c (cW X.K W mc))
  (hm : lastMarks [op, op'] [b, c] = false := by with_unfolding_all rfl) : PT X (.Compare a [op, op'] [b, c] pos) (xW X.K W (mB (rA f g ma mb mc))) := Cj (Oz ho ho' ha hb hc hm) fun σ H Q h => DH s s' (ML h)
def mIf (t : FT) (a b : FE) : FE := fun ρ S => (t ρ S).bind fun c S1 => if c = true then a ρ S1 else b ρ S1
def aK : FA := fun _ S => .ok [] S
def aB (a : FE) (r : FA) : FA := fun ρ S => (a ρ S).bind fun x S1 => (r ρ S1).bind fun xs S2 => .ok (x :: xs) S2
theorem OZ {t u : TA} (h : PA X es t) (i : ∀ σ H Q, u σ H Q -> t σ H Q) : PA X es u := ⟨fun pos pins s σ H Q I q => h.run pos pins s σ H Q I (i σ H Q q)⟩
theorem aG : PA X [] (Ef X.K W aK) := OZ pa_nil fun σ H Q h => by
 obtain ⟨B, φ, S, ρ, I, E, f⟩ := h;exact Fin.now (v := []) f I rfl
theorem aA (ha : PE X a (cW X.K W ma)) (hr : PA X es (Ef X.K W mas)) (hs : starEach (a :: es) X.env = (false, eval a X.env) :: starEach es X.env := by rfl) : PA X (a :: es) (Ef X.K W (aB ma mas)) := OZ (pa_cons ha hr hs) fun σ H Q h =>
 cU (k := fun x ρ S1 => (mas ρ S1).bind fun xs S2 => .ok (x :: xs) S2) h fun B φ S ρ d v H1 I E r f => jB I E f fun φ' S' ds vs H2 I2 X2 E2 r2 f2 => Fin.now f2 I2 ⟨v, vs, rfl, r.ext X2 I, r2⟩
def cN (cl : Bool) (r : FA) : FE := fun ρ S => (r ρ S).bind fun xs S1 => match xR xs with
 | some ds => if ds.length <= sizeLine then newL cl ds S1 else .stuck
 | none => .stuck
def cH (r : FA) : FE := fun ρ S => (r ρ S).bind fun xs S1 => match xR xs with
 | some ds => if ds.length <= sizeLine then .ok (.dat (.tup ds)) S1 else .stuck
 | none => .stuck
theorem cA {cl : Bool} (h : PA X es (Ef X.K W mas)) : PE X (.List es pos) (cW X.K W (cN cl mas)) := dD (pe_lst h) fun σ H Q h =>
 cU (k := fun xs ρ S1 => match xR xs with | some ds => if ds.length <= sizeLine then newL cl ds S1 else .stuck | none => .stuck) h fun B φ S ρ d v H1 I E r f => by
  split at f
  ·rename_i ds q
   have l := A6 q r;split at f
   ·rename_i hl
    exact ⟨by rw [l.len]; exact hl, fun p hp => Fin.newL f I l hp⟩
   ·exact f.elim
  ·exact f.elim
theorem bS (h : PA X es (Ef X.K W mas)) : PE X (.Tuple es x1 pos) (cW X.K W (cH mas)) := dD (pe_tup h) fun σ H Q h =>
 cU (k := fun xs ρ S1 => match xR xs with | some ds => if ds.length <= sizeLine then Res.ok (Vl.dat (D.tup ds)) S1 else .stuck | none => .stuck) h fun B φ S ρ d v H1 I E r f => by
  split at f
  ·rename_i ds q
   have l := A6 q r;split at f
   ·rename_i hl
    exact ⟨by rw [l.len]; exact hl, fun p hp => Fin.newT f I l hp⟩
   ·exact f.elim
  ·exact f.elim
end
section
variable {X : Cx} {W : WX} {e a b c : Expr} {es rest : List Expr} {pos p q p2 : Pos} {x y z : Str} {K : aD} {ma mb mc : FE} {mt mu : FT} {mas : FA} {B : Addr -> Prop} {φ : List Addr} {S : aO} {H : Hp} {σ : L2.St} {Q : VK}
theorem AF {r : V -> Hp -> VK -> Prop} {f : Vl -> aO -> Res Vl} (s : FH K r f) (h : cW K W (m1 f ma) σ H Q) : tCB (c1 r) (tCons (cW K W ma) tNil) σ H Q := MM s h
def eT (x : Vl) (S : aO) : Res Vl := match x with
 | .dat (.tup xs) => .ok (.dat (.int xs.length)) S
 | .dat (.str z) => if z.length <= sizeLine then .ok (.dat (.int z.length)) S else .stuck
 | .cels ns => .ok (.dat (.int ns.length)) S
 | x => match nU S x with
  | some xs => .ok (.dat (.int xs.length)) S
  | none => .stuck
theorem s_len : FH K (cLen K) eT := fun {W σ B φ S H x d Q} I r f => by
 unfold eT at f;split at f
 ·obtain ⟨a, vs, rfl, h1, l1⟩ := r
  refine ⟨vs, .inr h1, ?_⟩
  rw [l1.len];exact Fin.now f I rfl
 ·cases r
  split at f
  ·rename_i h; exact ⟨h, Fin.now f I rfl⟩
  ·exact f.elim
 ·rename_i ns
  obtain ⟨a, as, rfl, h1, h2, h3⟩ := r;refine ⟨as.map V.ref, .inl (SqL.of h2), ?_⟩
  have e : as.length = ns.length := by
   have := congrArg Lg h3
   simpa using this.symm
  rw [aN, e];exact Fin.now f I rfl
 ·split at f
  ·rename_i xs q1
   obtain ⟨a, vs, rfl, h1, l1⟩ := lA I q1 r;refine ⟨vs, .inl (SqL.of h1), ?_⟩
   rw [l1.len];exact Fin.now f I rfl
  ·exact f.elim
theorem eQ (hm : X.mg "len" = none) (ha : PE X a (cW X.K W ma)) (hg : Gl X "len" := by rfl) (hs : starEach [a] X.env = [(false, eval a X.env)] := by rfl) : PE X (.Call (.Name "len" p) [a] [] pos) (cW X.K W (m1 eT ma)) := dD (e_len hm ha hg hs) fun σ H Q h => AF s_len h
def pX (x : Vl) (S : aO) : Res Vl := match x with
 | .dat (.int i) => .ok (.dat (.int i)) S
 | .dat (.bl k) => .ok (.dat (.int (if k then 1 else 0))) S
 | _ => .stuck
theorem s_int : FH K cInt pX := fun {W σ B φ S H x d Q} I r f => by
 unfold pX at f;split at f
 ·cases r; exact Fin.now f I rfl
 ·cases r; exact Fin.now f I rfl
 ·exact f.elim
theorem pQ (hm : X.mg "int" = none) (ha : PE X a (cW X.K W ma)) (hg : Gl X "int" := by rfl) (hs : starEach [a] X.env = [(false, eval a X.env)] := by rfl) : PE X (.Call (.Name "int" p) [a] [] pos) (cW X.K W (m1 pX ma)) := dD (e_int hm ha hg hs) fun σ H Q h => AF s_int h
def HQ : List D -> Option (List Bool)
 | [] => some []
 | .bl b :: r => match HQ r with
  | some bs => some (b :: bs)
  | none => none
 | _ :: _ => none
theorem HP {Bk : Addr -> Prop} : ∀ {ds : List D} {bs : List Bool} {vs : List V}, HQ ds = some bs -> RepL K Bk H ds vs -> vs = bs.map V.bl
 | [], bs, vs, h, r => by cases h; exact r
 | d :: ds, bs, vs, h, ⟨v, ws, e, h1, h2⟩ => by
  subst e;cases d with
  | bl b =>
   unfold HQ at h;cases q : HQ ds with
   | none => rw [q] at h; cases h
   | some es => rw [q] at h; cases h; cases h1; rw [HP q h2]; rfl
  | _ => cases h
def UV : List D -> Option (List Int)
 | [] => some []
 | .int b :: r => match UV r with
  | some bs => some (b :: bs)
  | none => none
 | _ :: _ => none
def Gy (x : Vl) (S : aO) : Res Vl := match nU S x with
 | some xs => (match HQ xs with
  | some bs => .ok (.dat (.bl (bs.all id))) S
  | none => .stuck)
 | none => .stuck
theorem s_all : FH K (cAll K) Gy := fun {W σ B φ S H x d Q} I r f => by
 unfold Gy at f;split at f
 ·rename_i xs q1
  obtain ⟨a, vs, rfl, h1, l1⟩ := lA I q1 r;split at f
  ·rename_i bs q2
   rw [HP q2 l1] at h1;exact ⟨bs, SqL.of h1, Fin.now f I rfl⟩
  ·exact f.elim
 ·exact f.elim
theorem Rx (hm : X.mg "all" = none) (ha : PE X a (cW X.K W ma)) (hc : X.calm = true := by rfl) (hg : Gl X "all" := by rfl) (hs : starEach [a] X.env = [(false, eval a X.env)] := by rfl) : PE X (.Call (.Name "all" p) [a] [] pos) (cW X.K W (m1 Gy ma)) := dD (e_all hm ha hc hg hs) fun σ H Q h => AF s_all h
def tY (cl : Bool) (x : Vl) (S : aO) : Res Vl := match x with
 | .dat (.tup xs) => newL cl xs S
 | x => match nU S x with
  | some xs => newL cl xs S
  | none => .stuck
theorem SV {cl : Bool} : FH K (SC K) (tY cl) := fun {W σ B φ S H x d Q} I r f => by
 unfold tY at f;split at f
 ·obtain ⟨a, vs, rfl, h1, l1⟩ := r
  exact ⟨vs, .inr h1, fun l hl => Fin.newL f I l1 hl⟩
 ·split at f
  ·rename_i xs q1
   obtain ⟨a, vs, rfl, h1, l1⟩ := lA I q1 r;exact ⟨vs, .inl (SqL.of h1), fun l hl => Fin.newL f I l1 hl⟩
  ·exact f.elim
theorem IT {cl : Bool} (hm : X.mg "list" = none) (ha : PE X a (cW X.K W ma)) (hg : Gl X "list" := by rfl) (hs : starEach [a] X.env = [(false, eval a X.env)] := by rfl) : PE X (.Call (.Name "list" p) [a] [] pos) (cW X.K W (m1 (tY cl) ma)) := dD (UO hm ha hg hs) fun σ H Q h => AF SV h
def fTuple (x : Vl) (S : aO) : Res Vl := match nU S x with
 | some xs => .ok (.dat (.tup xs)) S
 | none => .stuck
theorem PN : FH K (OK K) fTuple := fun {W σ B φ S H x d Q} I r f => by
 unfold fTuple at f;split at f
 ·rename_i xs q1
  obtain ⟨a, vs, rfl, h1, l1⟩ := lA I q1 r;exact ⟨vs, SqL.of h1, fun l hl => Fin.newT f I l1 hl⟩
 ·exact f.elim
theorem Qm (hm : X.mg "tuple" = none) (ha : PE X a (cW X.K W ma)) (hg : Gl X "tuple" := by rfl) (hs : starEach [a] X.env = [(false, eval a X.env)] := by rfl) : PE X (.Call (.Name "tuple" p) [a] [] pos) (cW X.K W (m1 fTuple ma)) := dD (Qv hm ha hg hs) fun σ H Q h => AF PN h
def fAbs (x : Vl) (S : aO) : Res Vl := match x with
 | .dat (.int i) => .ok (.dat (.int (if i < 0 then -i else i))) S
 | _ => .stuck
theorem GO {a : Addr} {xs : List V} (h : SqT K H a xs) : Ck K H a "tuple" := by
 refine ⟨by decide, ?_⟩
 rcases h with (h | ⟨o, h⟩) | ⟨o, its, n, h, hc, _⟩
 ·exact .base (.tup h)
 ·exact .fTuple h
 ·exact .kTuple h hc
theorem vE {a : Addr} {xs : List V} (h : SqL K H a xs) : Ck K H a "list" := by
 refine ⟨by decide, ?_⟩
 rcases h with (h | ⟨o, h⟩) | ⟨o, its, n, h, hc, _⟩
 ·exact .base (.lst h)
 ·exact .base (.frz h)
 ·exact .kList h hc
def kindOf (S : aO) : Vl -> Option String
 | .dat .non => some "NoneType"
 | .dat (.bl _) => some "bool"
 | .dat (.int _) => some "int"
 | .dat (.str _) => some "str"
 | .dat (.lst _) => some "list"
 | .dat (.tup _) => some "tuple"
 | .dat .dct => some "dict"
 | .dat (.opq _) => none
 | .dat (.ins _ _ _) => none
 | .cels _ => some "list"
 | .scr _ => some "list"
 | .tc _ => some "tuple"
 | .cel n => match S[n]? with
  | some (.lst _) => some "list"
  | some (.dct _) => some "dict"
  | some (.lv _) => some "list"
  | _ => none
def fIsi (T : String) (x : Vl) (S : aO) : Res Vl := match kindOf S x with
 | some n => .ok (.dat (.bl (isTy T n))) S
 | none => .stuck
theorem Kr {d : Vl} {v : V} {n : String} (I : GInv K B φ S H) (r : RepV K B φ S H d v) (h : kindOf S d = some n) : (v = .non /\ n = "NoneType") \/ (∃ b, v = .bl b /\ n = "bool") \/ (∃ b, v = .int b /\ n = "int") \/ (∃ b, v = .str b /\ n = "str") \/ ∃ a, v = .ref a /\ Ck K H a n := by
 cases d with
 | dat d =>
  cases d with
  | non => cases h; cases r; exact .inl ⟨rfl, rfl⟩
  | bl b => cases h; cases r; exact .inr (.inl ⟨b, rfl, rfl⟩)
  | int b => cases h; cases r; exact .inr (.inr (.inl ⟨b, rfl, rfl⟩))
  | str b => cases h; cases r; exact .inr (.inr (.inr (.inl ⟨b, rfl, rfl⟩)))
  | lst xs => cases h; obtain ⟨a, vs, rfl, _, h1, _⟩ := r; exact .inr (.inr (.inr (.inr ⟨a, rfl, vE (SqL.of h1)⟩)))
  | tup xs => cases h; obtain ⟨a, vs, rfl, h1, _⟩ := r; exact .inr (.inr (.inr (.inr ⟨a, rfl, GO h1⟩)))
  | ins C ns xs => cases h
  | opq _ => cases h
  | dct => cases h; obtain ⟨a, rfl, _, h1⟩ := r; exact .inr (.inr (.inr (.inr ⟨a, rfl, by decide, .base (.dK h1)⟩)))
 | cels ns => cases h; obtain ⟨a, as, rfl, _, h1, _⟩ := r; exact .inr (.inr (.inr (.inr ⟨a, rfl, vE (SqL.of h1)⟩)))
 | scr ns => cases h; obtain ⟨a, rfl, h1⟩ := r; exact .inr (.inr (.inr (.inr ⟨a, rfl, vE h1.sq⟩)))
 | tc xs => cases h; obtain ⟨a, vs, rfl, h1, _⟩ := r; exact .inr (.inr (.inr (.inr ⟨a, rfl, GO h1⟩)))
 | cel n =>
  obtain ⟨a, rfl, h1⟩ := r;have h : (match S[n]? with | some (.lst _) => some "list" | some (.dct _) => some "dict" | some (.lv _) => some "list" | _ => none) = some _ := h
  split at h
  ·rename_i q
   cases h;obtain ⟨vs, h2, _⟩ := I.ok n _ a q h1;exact .inr (.inr (.inr (.inr ⟨a, rfl, vE (SqL.of h2)⟩)))
  ·rename_i q
   cases h;obtain ⟨vs, h2, _⟩ := I.ok n _ a q h1;exact .inr (.inr (.inr (.inr ⟨a, rfl, by decide, .base (.dK h2)⟩)))
  ·rename_i q
   cases h;obtain ⟨vs, h2, _⟩ := I.ok n _ a q h1;exact .inr (.inr (.inr (.inr ⟨a, rfl, vE (SqL.of h2)⟩)))
  ·cases h
theorem s_isi {T : String} (hT : T ∈ targets) : FH K (OM K T) (fIsi T) := fun {W σ B φ S H x d Q} I r f => by
 unfold fIsi at f;have h6 : T = "int" \/ T = "bool" \/ T = "str" \/ T = "list" \/ T = "tuple" \/ T = "dict" := by simpa [targets] using hT
 split at f
 ·rename_i n h
  have q : ∀ b, b = isTy T n -> Q (.bl b) H := fun b e => by rw [e]; exact Fin.now f I rfl
  rcases Kr I r h with ⟨rfl, rfl⟩ | ⟨b, rfl, rfl⟩ | ⟨b, rfl, rfl⟩ | ⟨b, rfl, rfl⟩ | ⟨a, rfl, hk⟩
  ·exact q false (by rcases h6 with e | e | e | e | e | e <;> subst e <;> decide)
  ·exact q _ (by rcases h6 with e | e | e | e | e | e <;> subst e <;> decide)
  ·exact q _ (by rcases h6 with e | e | e | e | e | e <;> subst e <;> decide)
  ·exact q _ (by rcases h6 with e | e | e | e | e | e <;> subst e <;> decide)
  ·have h3 : n = "list" \/ n = "tuple" \/ n = "dict" := by simpa using hk.1
   exact ⟨n, hk, q _ (by rcases h6 with e | e | e | e | e | e <;> rcases h3 with e' | e' | e' <;> subst e <;> subst e' <;> decide)⟩
 ·exact f.elim
theorem mM {T : String} (hm : X.mg "isinstance" = none) (hmT : X.mg y = none) (ha : PE X a (cW X.K W ma)) (hT : T ∈ targets := by decide) (hv : bootBuiltins y = some (.type T) := by decide +kernel)
  (hg : Gl X "isinstance" := by rfl) (hgT : Gl X y := by rfl) (hn : y ≠ "__name__" := by decide) (hd : (y == ("__debug__" : Str)) = false := by decide) (hs : starEach [a, .Name y q] X.env = (false, eval a X.env) :: starEach [.Name y q] X.env := by rfl) :
  PE X (.Call (.Name "isinstance" p) [a, .Name y q] [] pos) (cW X.K W (m1 (fIsi T) ma)) := dD (e_isi hm hmT ha hT hv hg hgT hn hd hs) fun σ H Q h => MM (s_isi hT) h
def fIsi2 (T U : String) (x : Vl) (S : aO) : Res Vl := match kindOf S x with
 | some n => .ok (.dat (.bl (isTy T n || isTy U n))) S
 | none => .stuck
def cutD (xs : List D) (lo hi : Option Int) : List D := (xs.drop (HT.sIx xs.length 0 lo)).take (HT.sIx xs.length xs.length hi - HT.sIx xs.length 0 lo)
theorem RepL.cut {Bk : Addr -> Prop} {ds : List D} {vs : List V} {lo hi : Option Int} (h : RepL K Bk H ds vs) : RepL K Bk H (cutD ds lo hi) (cutV vs lo hi) := by
 unfold cutD cutV;rw [h.len];exact (h.drop _).take _
def Ry (cl : Bool) (x : Vl) (lo hi : Option Int) (S : aO) : Res Vl := match x with
 | .dat (.tup xs) => .ok (.dat (.tup (cutD xs lo hi))) S
 | .dat (.str z) => if z.length <= sizeLine then .ok (.dat (.str (cutS z lo hi))) S else .stuck
 | .scr ns => newL cl (cutD (ns.map D.int) lo hi) S
 | x => match nU S x with
  | some xs => newL cl (cutD xs lo hi) S
  | none => .stuck
def pV : FO := fun _ S => .ok none S
def gG (a : FE) : FO := fun ρ S => (a ρ S).bind fun x S1 => match x with
 | .dat (.int i) => .ok (some i) S1
 | _ => .stuck
theorem OY {e : Option Expr} {t u : TO} (h : PO X e t) (i : ∀ σ H Q, u σ H Q -> t σ H Q) : PO X e u := ⟨fun pins s σ H Q I q => h.run pins s σ H Q I (i σ H Q q)⟩
theorem iQ : PO X none (rdO X.K W pV) := OY po_none fun σ H Q h => by
 obtain ⟨B, φ, S, ρ, I, E, f⟩ := h;exact Fin.now (v := none) f I rfl
theorem iP (ha : PE X a (cW X.K W ma)) : PO X (some a) (rdO X.K W (gG ma)) := OY (Mg ha) fun σ H Q h =>
 cU (k := fun x _ S1 => match x with | .dat (.int i) => .ok (some i) S1 | _ => .stuck) h fun B φ S ρ d v H1 I E r f => by
  split at f
  ·cases r; exact Fin.now f I rfl
  ·exact f.elim
theorem DU {Bk : Addr -> Prop} : ∀ ns : List Int, RepL K Bk H (ns.map D.int) (ns.map V.int)
 | [] => rfl
 | n :: ns => ⟨_, _, rfl, rfl, DU ns⟩
theorem LL {xs : List D} {lo hi : Option Int} (h : HT.sIx xs.length 0 lo = 0 /\ HT.sIx xs.length xs.length hi = xs.length) : cutD xs lo hi = xs := by
 unfold cutD;rw [h.1, h.2];simp
def B7 (cl : Bool) (a : FE) (l h : FO) : FE := fun ρ S => (a ρ S).bind fun x S1 => (l ρ S1).bind fun lo S2 => (h ρ S2).bind fun hi S3 => Ry cl x lo hi S3
theorem zI {cl : Bool} {lo hi : Option Expr} {ml mh : FO} (ha : PE X a (cW X.K W ma)) (hl : PO X lo (rdO X.K W ml)) (hh : PO X hi (rdO X.K W mh)) : PE X (.Subscript a (.Slice lo hi none p2) pos) (cW X.K W (B7 cl ma ml mh)) := dD (pe_slice sl_C ha hl hh) fun σ H Q h =>
 cU (k := fun x ρ S1 => (ml ρ S1).bind fun lo S2 => (mh ρ S2).bind fun hi S3 => Ry cl x lo hi S3) h fun B φ S ρ d v H1 I E r f => jB I E f fun φ1 S1 d1 v1 H2 I1 X1 E1 r1 f1 => jB I1 E1 f1 fun φ2 S2 d2 v2 H3 I2 X2 E2 r2 f2 => by
  cases r1;cases r2
  replace r := (r.ext X1 I).ext X2 I1
  unfold Ry at f2;split at f2
  ·rename_i xs
   obtain ⟨a, vs, rfl, h1, l1⟩ := r;refine BF ⟨vs, h1, fun hw => ?_, fun hw p hp => Fin.newT f2 I2 l1.cut hp⟩
   rw [l1.len] at hw;have e := LL (xs := xs) hw;rw [e] at f2;exact Fin.now f2 I2 ⟨a, vs, rfl, h1, l1⟩
  ·cases r
   split at f2
   ·rename_i hz; exact ⟨hz, Fin.now f2 I2 rfl⟩
   ·exact f2.elim
  ·obtain ⟨a, rfl, h1⟩ := r
   exact D0 ⟨_, h1.sq, fun p hp => Fin.newL f2 I2 (DU _).cut hp⟩
  ·split at f2
   ·rename_i xs q1
    obtain ⟨a, vs, rfl, h1, l1⟩ := lA I2 q1 r;exact D0 ⟨vs, SqL.of h1, fun p hp => Fin.newL f2 I2 l1.cut hp⟩
   ·exact f2.elim
def yW (a : FE) : FE := fun ρ S => (a ρ S).bind fun x S1 => match x with
 | .cel n => (match S1[n]? with
  | some (.lst ds) => .ok (.dat (.lst ds)) (S1.set n .dead)
  | _ => .stuck)
 | _ => .stuck
theorem tX (ha : PE X a (cW X.K W ma)) : PE X a (cW X.K W (yW ma)) := dD ha fun σ H Q h =>
 cU (k := fun x _ S1 => match x with | .cel n => (match S1[n]? with | some (Cell.lst ds) => Res.ok (Vl.dat (D.lst ds)) (S1.set n Cell.dead) | _ => Res.stuck) | _ => Res.stuck) h fun B φ S ρ d v H1 I E r f => by
  split at f
  ·rename_i n
   obtain ⟨a, rfl, h1⟩ := r;split at f
   ·rename_i ds q
    obtain ⟨vs, h2, l⟩ := I.ok n _ a q h1;have X1 := Ext.kill (φ := φ) (S := S) (H := H1) (n := n);exact f φ _ H1 I.kill X1 ⟨a, vs, rfl, I.killed q (by simp) h1, h2, X1.repL I l⟩
   ·exact f.elim
  ·exact f.elim
def Rg (a : FE) (r : FA) : FA := fun ρ S => (a ρ S).bind fun x S1 => match (match x with | .dat (.tup xs) => some xs | x => nU S1 x) with
 | some xs => (r ρ S1).bind fun ys S2 => .ok (xs.map Vl.dat ++ ys) S2
 | none => .stuck
end
inductive Out where
 | next (ρ : Ev) (S : aO) | ret (d : Vl) (S : aO) | brk (ρ : Ev) (S : aO) | cnt (ρ : Ev) (S : aO) | err (e : Er) (ρ : Ev) (S : aO) | stuck
abbrev FS := Ev -> aO -> Out
def Res.toS {α : Type} (r : Res α) (ρ : Ev) (k : α -> aO -> Out) : Out := match r with
 | .ok a S => k a S
 | .err e S => .err e ρ S
 | .stuck => .stuck
def FinS (K : aD) (W : WX) (D : Ends) (B : Addr -> Prop) (φ : List Addr) (S : aO) (H : Hp) (o : Out) : Prop := match o with
 | .next ρ' S' => ∀ φ' σ' H', GInv K B φ' S' H' -> Ext φ S H φ' S' H' -> RepE K B φ' S' H' ρ' σ' -> D.nx σ' H'
 | .ret d S' => ∀ φ' v H', GInv K B φ' S' H' -> Ext φ S H φ' S' H' -> RepV K B φ' S' H' d v -> D.rt v H'
 | .brk ρ' S' => ∀ φ' σ' H', GInv K B φ' S' H' -> Ext φ S H φ' S' H' -> RepE K B φ' S' H' ρ' σ' -> D.bk σ' H'
 | .cnt ρ' S' => ∀ φ' σ' H', GInv K B φ' S' H' -> Ext φ S H φ' S' H' -> RepE K B φ' S' H' ρ' σ' -> D.ct σ' H'
 | .err e ρ' S' => ∀ φ' σ' c x H', GInv K B φ' S' H' -> Ext φ S H φ' S' H' -> RepE K B φ' S' H' ρ' σ' -> UW K B φ' S' H' e c x -> W c x σ' H'
 | .stuck => False
def lD (K : aD) (W : WX) (m : FS) : TS := fun D σ H => ∃ B φ S ρ, GInv K B φ S H /\ RepE K B φ S H ρ σ /\ FinS K W D B φ S H (m ρ S)
section
variable {X : Cx} {W : WX} {e a b c : Expr} {es rest : List Expr} {pos p q p2 : Pos} {x y z : Str} {K : aD} {ma mb mc : FE} {mt mu : FT} {mas : FA} {B : Addr -> Prop} {φ φ' : List Addr} {S S' : aO} {H H' : Hp} {σ : L2.St} {Q : VK} {m n : FS} {st : Stmt} {gM : List Stmt} {D : Ends}
theorem fM {t u : TS} (h : PS X st t) (i : ∀ D σ H, u D σ H -> t D σ H) : PS X st u := ⟨fun pins s σ H D I q => h.run pins s σ H D I (i D σ H q)⟩
theorem FJ {t u : TS} (h : PSs X gM t) (i : ∀ D σ H, u D σ H -> t D σ H) : PSs X gM u := ⟨fun pins s σ H D I q => h.run pins s σ H D I (i D σ H q)⟩
theorem FinS.ext {o : Out} (f : FinS K W D B φ S H o) (e : Ext φ S H φ' S' H') : FinS K W D B φ' S' H' o := by
 cases o with
 | next ρ S1 => exact fun φ1 v H1 I1 X r => f φ1 v H1 I1 (e.trans X) r
 | ret d S1 => exact fun φ1 v H1 I1 X r => f φ1 v H1 I1 (e.trans X) r
 | brk ρ S1 => exact fun φ1 v H1 I1 X r => f φ1 v H1 I1 (e.trans X) r
 | cnt ρ S1 => exact fun φ1 v H1 I1 X r => f φ1 v H1 I1 (e.trans X) r
 | err x ρ S1 => exact fun φ1 σ1 c x H1 I1 X r => f φ1 σ1 c x H1 I1 (e.trans X) r
 | stuck => exact f
theorem cG {α β : Type} {R : Rl α β} {ρ : Ev} {m : Ev -> aO -> Res α} {k : α -> aO -> Out} {Q1 : β -> Hp -> Prop} (I : GInv K B φ S H) (E : RepE K B φ S H ρ σ) (f : FinS K W D B φ S H ((m ρ S).toS ρ k))
  (hk : ∀ φ' S' d v H1, GInv K B φ' S' H1 -> Ext φ S H φ' S' H1 -> RepE K B φ' S' H1 ρ σ -> R B φ' S' H1 d v -> FinS K W D B φ' S' H1 (k d S') -> Q1 v H1) : rd K W R m σ H Q1 := by
 refine ⟨B, φ, S, ρ, I, E, ?_⟩
 cases e : m ρ S with
 | stuck => rw [e] at f; exact f
 | err x S' =>
  rw [e] at f;exact fun φ' c d H' I' X r => f φ' σ c d H' I' X (E.ext X I) r
 | ok d S' =>
  rw [e] at f;exact fun φ' v H' I' X r => hk φ' S' d v H' I' X (E.ext X I) r (FinS.ext f X)
def aQ (m n : FS) : FS := fun ρ S => match m ρ S with
 | .next ρ' S' => n ρ' S'
 | o => o
def bK : FS := fun ρ S => .next ρ S
def bX (a : FE) : FS := fun ρ S => (a ρ S).toS ρ fun d S1 => .ret d S1
def dQ (a : FE) : FS := fun ρ S => (a ρ S).toS ρ fun _ S1 => .next ρ S1
def bU (t : FT) (m n : FS) : FS := fun ρ S => (t ρ S).toS ρ fun c S1 => if c = true then m ρ S1 else n ρ S1
theorem P6 (h : lD K W (aQ m n) D σ H) : tSeq (lD K W m) (lD K W n) D σ H := by
 obtain ⟨B, φ, S, ρ, I, E, f⟩ := h;refine ⟨B, φ, S, ρ, I, E, ?_⟩
 unfold aQ at f;cases e : m ρ S with
 | next ρ' S' =>
  rw [e] at f;exact fun φ' σ' H' I' X r => ⟨B, φ', S', ρ', I', r, FinS.ext f X⟩
 | ret d S' => rw [e] at f; exact f
 | brk d S' => rw [e] at f; exact f
 | cnt d S' => rw [e] at f; exact f
 | err x d S' => rw [e] at f; exact f
 | stuck => rw [e] at f; exact f
theorem aS : PSs X [] (lD X.K W bK) := FJ pss_nil fun D σ H h => by
 obtain ⟨B, φ, S, ρ, I, E, f⟩ := h;exact f φ σ H I Ext.refl E
theorem aI (h : PS X st (lD X.K W m)) : PSs X [st] (lD X.K W m) := pss_one h
theorem aE (h : PS X st (lD X.K W m)) (hr : PSs X gM (lD X.K W n)) : PSs X (st :: gM) (lD X.K W (aQ m n)) := FJ (pss_cons h hr) fun D σ H h => P6 h
theorem aW (ha : PE X a (cW X.K W ma)) : PS X (.Return (some a) pos) (lD X.K W (bX ma)) := fM (ps_ret ha) fun D σ H h => by
 obtain ⟨B, φ, S, ρ, I, E, f⟩ := h;exact cG I E f fun φ' S' d v H1 I1 X1 E1 r f1 => f1 φ' v H1 I1 Ext.refl r
theorem Qj : PS X (.Return none pos) (lD X.K W (bX (mC .non))) := fM ps_retN fun D σ H h => by
 obtain ⟨B, φ, S, ρ, I, E, f⟩ := h;exact f φ _ H I Ext.refl rfl
theorem cR (ha : PE X a (cW X.K W ma)) (hs : swapsWith a none pos.line X.env = pure false := by rfl) : PS X (.Expr a pos) (lD X.K W (dQ ma)) := fM (ps_expr ha hs) fun D σ H h => by
 obtain ⟨B, φ, S, ρ, I, E, f⟩ := h;exact cG I E f fun φ' S' d v H1 I1 X1 E1 r f1 => f1 φ' σ H1 I1 Ext.refl E1
theorem bH {s1 s2 : List Stmt} (ht : PT X c (xW X.K W mt)) (ha : PSs X s1 (lD X.K W m)) (hb : PSs X s2 (lD X.K W n)) : PS X (.If c s1 s2 pos) (lD X.K W (bU mt m n)) := fM (ps_if ht ha hb) fun D σ H h => by
 obtain ⟨B, φ, S, ρ, I, E, f⟩ := h;refine cG I E f fun φ' S' d v H1 I1 X1 E1 r f1 => ?_
 have r : v = d := r;subst r;cases v with
 | true => exact ⟨B, φ', S', ρ, I1, E1, f1⟩
 | false => exact ⟨B, φ', S', ρ, I1, E1, f1⟩
inductive Tg where
 | nm (i : Nat) | tp (is : List Nat) | tn (i : Nat) (is : List Nat)
def Ey : List Nat -> TGs
 | [] => gNil
 | i :: r => gCons (gName i) (Ey r)
def Oi (K : aD) : Tg -> TG
 | .nm i => gName i
 | .tp is => gTup K is.length (Ey is)
 | .tn i is => gTup K 2 (gCons (gName i) (gCons (gTup K is.length (Ey is)) gNil))
def putAll : List Nat -> List L2.V -> L2.St -> L2.St
 | i :: r, v :: vs, σ => putAll r vs (σ.set i (some v))
 | _, _, σ => σ
def jW : List Nat -> List PH.D -> Ev -> Ev
 | i :: r, v :: vs, σ => jW r vs (σ.set i (some (.dat v)))
 | _, _, σ => σ
def oG : Tg -> Vl -> Ev -> Option Ev
 | .nm i, d, ρ => some (ρ.set i (some d))
 | .tp is, .dat (.tup ds), ρ => if ds.length = is.length then some (jW is ds ρ) else none
 | .tp _, _, _ => none
 | .tn i is, .dat (.tup [d, .tup ds]), ρ => if ds.length = is.length then some (jW is ds (ρ.set i (some (.dat d)))) else none
 | .tn _ _, _, _ => none
def SJ : Tg -> List Nat
 | .nm i => [i]
 | .tp is => is
 | .tn i is => i :: is
theorem AX {Q : L2.St -> Hp -> Prop} : ∀ {is : List Nat} {vs : List L2.V} {σ : L2.St} {H : Hp}, vs.length = is.length -> Q (putAll is vs σ) H -> Ey is vs σ H Q
 | [], [], σ, H, _, q => ⟨rfl, q⟩
 | i :: is, v :: vs, σ, H, h, q => ⟨v, vs, rfl, AX (is := is) (by simpa using h) q⟩
 | [], _ :: _, _, _, h, _ => by simp at h
 | _ :: _, [], _, _, h, _ => by simp at h
theorem C5 : ∀ {is : List Nat} {ds : List PH.D} {vs : List L2.V} {ρ : Ev} {σ : L2.St}, RepL K (lZ B φ S) H ds vs -> RepE K B φ S H ρ σ -> RepE K B φ S H (jW is ds ρ) (putAll is vs σ)
 | [], ds, vs, ρ, σ, h, E => by cases ds <;> cases vs <;> exact E
 | i :: is, [], vs, ρ, σ, h, E => by cases h; exact E
 | i :: is, d :: ds, vs, ρ, σ, ⟨v, ws, e, h1, h2⟩, E => by subst e; exact C5 (is := is) h2 (E.set (d := .dat d) h1 i)
def SM : Tg -> L2.V -> List L2.V -> L2.St -> L2.St
 | .nm i, v, _, σ => σ.set i (some v)
 | .tp is, _, vs, σ => putAll is vs σ
 | .tn i is, _, v :: vs, σ => putAll is vs (σ.set i (some v))
 | .tn _ _, _, [], σ => σ
theorem EV {t : Tg} {d : Vl} {v : L2.V} {ρ ρ' : Ev} {Q : L2.St -> Hp -> Prop} (E : RepE K B φ S H ρ σ) (r : RepV K B φ S H d v) (h : oG t d ρ = some ρ') (q : ∀ vs, RepE K B φ S H ρ' (SM t v vs σ) -> Q (SM t v vs σ) H) : Oi K t v σ H Q := by
 cases t with
 | nm i => cases h; exact q [] (E.set r i)
 | tp is =>
  cases d with
  | dat d =>
   cases d with
   | tup ds =>
    have h : (if ds.length = is.length then some (jW is ds ρ) else none) = some ρ' := h
    split at h
    ·rename_i hl
     cases h;obtain ⟨a, vs, rfl, h1, l⟩ := r;exact ⟨a, vs, rfl, h1, by rw [l.len, hl], AX (by rw [l.len, hl]) (q vs (C5 l E))⟩
    ·cases h
   | _ => cases h
  | _ => cases h
 | tn i is =>
  cases d with
  | dat d =>
   cases d with
   | tup xs =>
    cases xs with
    | nil => cases h
    | cons d0 xs =>
     cases xs with
     | nil => cases h
     | cons d1 xs =>
      cases xs with
      | cons _ _ => cases d1 <;> cases h
      | nil =>
       cases d1 with
       | tup ds =>
        have h : (if ds.length = is.length then some (jW is ds (ρ.set i (some (.dat d0)))) else none) = some ρ' := h
        split at h
        ·rename_i hl
         cases h;obtain ⟨a, vs, rfl, h1, v0, ws, rfl, r0, v1, us, rfl, ⟨b, zs, rfl, h2, l⟩, rfl⟩ := r;refine ⟨a, [v0, .ref b], rfl, h1, rfl, v0, _, rfl, .ref b, _, rfl, b, zs, rfl, h2, by rw [l.len, hl], ?_⟩
         refine AX (Q := fun σ' H' => gNil [] σ' H' Q) (by rw [l.len, hl]) ⟨rfl, ?_⟩
         exact q (v0 :: zs) (C5 l (E.set (d := .dat d0) r0 i))
        ·cases h
       | _ => cases h
   | _ => cases h
  | _ => cases h
def bR (a : FE) (t : Tg) : FS := fun ρ S => (a ρ S).toS ρ fun d S1 => match oG t d ρ with
 | some ρ' => .next ρ' S1
 | none => .stuck
theorem Iy {t : Tg} (h : lD K W (bR ma t) D σ H) : tAsg (cW K W ma) (Oi K t) D σ H := by
 obtain ⟨B, φ, S, ρ, I, E, f⟩ := h;refine cG I E f fun φ' S' d v H1 I1 X1 E1 r f1 => ?_
 split at f1
 ·rename_i ρ' q
  exact EV E1 r q fun vs E2 => f1 φ' _ H1 I1 Ext.refl E2
 ·exact f1.elim
theorem vJ {tg e : Expr} {t : Tg} (he : PE X e (cW X.K W ma)) (hg : PG X tg (Oi X.K t)) (hs : swapsWithSole [tg] e pos.line X.env = pure false := by rfl) (hw : swappedStores [tg] e X.env = pure none := by rfl)
  (h1 : (assignEach [tg] X.env).map (·.2) = [assign tg X.env] := by rfl) : PS X (.Assign [tg] e pos) (lD X.K W (bR ma t)) := fM (ps_asg he hg hs hw h1) fun D σ H h => Iy h
theorem bA {i : Nat} {x : Str} {e : Expr} {pos' : Pos} (hN : X.N.Nodup) (hi : X.N[i]? = some x) (hx : Loc X.env.scope x) (he : PE X e (cW X.K W ma)) (hs : swapsWith e (some (.Name x pos')) pos.line X.env = pure false := by rfl) (hf : X.fn x = true \/ X.env.scope.names.lookup x = some .local := by first | exact .inl rfl | exact .inr rfl | assumption) :
  PS X (.Assign [.Name x pos'] e pos) (lD X.K W (bR ma (.nm i))) := fM (ps_set hN hi hx he hs hf) fun D σ H h => Iy (t := .nm i) h
def wipeE (ρ : Ev) : List Nat -> Ev
 | [] => ρ
 | v :: vs => (wipeE ρ vs).set v none
theorem RepE.wipeE {ρ : Ev} (E : RepE K B φ S H ρ σ) : ∀ is : List Nat, RepE K B φ S H (wipeE ρ is) σ
 | [] => E
 | i :: is => (RepE.wipeE E is).forget i
def iX (is : List Nat) (m : FS) : FS := fun ρ S => match m ρ S with
 | .next ρ' S' => .next (wipeE ρ' is) S'
 | .cnt ρ' S' => .cnt (wipeE ρ' is) S'
 | .brk ρ' S' => .brk (wipeE ρ' is) S'
 | o => o
theorem MG {is : List Nat} (h : lD K W (iX is m) D σ H) : lD K W m D σ H := by
 obtain ⟨B, φ, S, ρ, I, E, f⟩ := h;refine ⟨B, φ, S, ρ, I, E, ?_⟩
 unfold iX at f;cases e : m ρ S with
 | next ρ' S' => rw [e] at f; exact fun φ' σ' H' I' X r => f φ' σ' H' I' X (r.wipeE is)
 | ret d S' => rw [e] at f; exact f
 | brk ρ' S' => rw [e] at f; exact fun φ' σ' H' I' X r => f φ' σ' H' I' X (r.wipeE is)
 | cnt ρ' S' => rw [e] at f; exact fun φ' σ' H' I' X r => f φ' σ' H' I' X (r.wipeE is)
 | err x d S' => rw [e] at f; exact f
 | stuck => rw [e] at f; exact f
theorem gR (is : List Nat) (h : PSs X gM (lD X.K W m)) : PSs X gM (lD X.K W (iX is m)) := FJ h fun D σ H h => MG h
abbrev FI := Ev -> aO -> Res (List PH.D)
def Od (K : aD) (B : Addr -> Prop) (φ : List Addr) (S : aO) (H : Hp) (J : It) (ds : List PH.D) : Prop := ∀ φ1 S1 H1 B1, GInv K B1 φ1 S1 H1 -> Kp (lZ B φ S) H (lZ B1 φ1 S1) H1 ->
 (∀ i, i < ds.length -> J.go i H1) /\ J.stop ds.length H1 /\ ∀ i x H2 d, ds[i]? = some d -> J.yld i H1 x H2 -> GInv K B1 φ1 S1 H2 /\ Ext φ1 S1 H1 φ1 S1 H2 /\ Rep K (lZ B1 φ1 S1) H2 d x
def RI (K : aD) : Rl (List PH.D) It := fun B φ S H ds J => Od K B φ S H J ds
abbrev Oj (K : aD) (W : WX) (m : FI) : TI := rd K W (RI K) m
theorem Ia {tg iter : Expr} {t u : TI} (h : PI X tg iter t) (i : ∀ σ H R, u σ H R -> t σ H R) : PI X tg iter u := ⟨fun pins s σ H R I q => h.run pins s σ H R I (i σ H R q)⟩
theorem Ext.kpB {B1 : Addr -> Prop} {φ1 : List Addr} {S1 : aO} {H1 : Hp} (h1 : ∀ a, B a -> B1 a) (h2 : ∀ a, H a ≠ none -> B1 a -> B a) (I : GInv K B φ S H) (x : Ext φ S H φ1 S1 H1) : Kp (lZ B φ S) H (lZ B1 φ1 S1) H1 where
 old := fun b o h n => by
  obtain ⟨h3, h4⟩ := x.old b o h (fun q => n (.inr q))
  exact ⟨h3, fun q => by
   rcases q with q | q
   ·exact n (.inl (h2 b (by rw [h]; simp) q))
   ·exact h4 q⟩
 tup := (x.kp I).tup
theorem Q2 {v : L2.V} {ds : List PH.D} (I : GInv K B φ S H) (r : Rep K (lZ B φ S) H (.lst ds) v) : ∃ a, v = .ref a /\ (∃ xs, SqL K H a xs) /\ Od K B φ S H (Itl K a) ds := by
 obtain ⟨a, vs, rfl, nb, h1, l⟩ := r;refine ⟨a, rfl, ⟨vs, SqL.of h1⟩, fun φ1 S1 H1 B1 I1 X1 => ?_⟩
 have h2 := (X1.old a _ h1 nb).1;have l2 := RepL.kp X1 ds vs l;have hl := l.len;refine ⟨fun i hi => ⟨vs, vs[i], SqL.of h2, by simp [hl, hi]⟩, ⟨vs, SqL.of h2, by omega⟩, fun i x H2 d hd y => ?_⟩
 obtain ⟨rfl, y⟩ := y;obtain ⟨v', h3, h4⟩ := l2.get hd;rw [y vs (SqL.of h2)] at h3;cases h3;exact ⟨I1, Ext.refl, h4⟩
theorem TR {v : L2.V} {ds : List PH.D} (I : GInv K B φ S H) (r : Rep K (lZ B φ S) H (.tup ds) v) : ∃ a, v = .ref a /\ (∃ xs, SqT K H a xs) /\ Od K B φ S H (Itt K a) ds := by
 obtain ⟨a, vs, rfl, h1, l⟩ := r;refine ⟨a, rfl, ⟨vs, h1⟩, fun φ1 S1 H1 B1 I1 X1 => ?_⟩
 have h2 : SqT K H1 a vs := SqT.kp X1.tup h1;have l2 := RepL.kp X1 ds vs l;have hl := l.len;refine ⟨fun i hi => ⟨vs, vs[i], h2, by simp [hl, hi]⟩, ⟨vs, h2, by omega⟩, fun i x H2 d hd y => ?_⟩
 obtain ⟨rfl, y⟩ := y;obtain ⟨v', h3, h4⟩ := l2.get hd;rw [y vs h2] at h3;cases h3;exact ⟨I1, Ext.refl, h4⟩
def itemsOf : Vl -> aO -> Res (List PH.D)
 | .dat (.lst ds), S => .ok ds S
 | .dat (.tup ds), S => .ok ds S
 | _, _ => .stuck
def jQ (a : FE) : FI := fun ρ S => (a ρ S).bind itemsOf
theorem iK {tg : Expr} (ha : PE X a (cW X.K W ma)) : PI X tg a (Oj X.K W (jQ ma)) := Ia (Sd ha) fun σ H R h =>
 cU (k := fun x _ S => itemsOf x S) h fun B φ S ρ d v H1 I E r f => by
  unfold itemsOf at f;split at f
  ·obtain ⟨a, rfl, h1, h2⟩ := Q2 I r
   exact D0 ⟨h1, Fin.now f I h2⟩
  ·obtain ⟨a, rfl, h1, h2⟩ := TR I r
   exact BF ⟨h1, Fin.now f I h2⟩
  ·exact f.elim
def gH (lo : Int) (n : Nat) : List PH.D := (aV n).map fun (k : Nat) => PH.D.int (lo + (k : Int))
theorem TU {lo : Int} {n : Nat} : Od K B φ S H (Itr lo n) (gH lo n) := fun φ1 S1 H1 B1 I1 X1 => by
 refine ⟨fun i hi => by show i < n; simpa [gH] using hi, by show n <= _; simp [gH], fun i x H2 d hd y => ?_⟩
 obtain ⟨rfl, rfl⟩ := y;have : d = .int (lo + (i : Int)) := by
  unfold gH at hd;rw [bN] at hd;cases q : (aV n)[i]? with
  | none => rw [q] at hd; cases hd
  | some k =>
   rw [q] at hd;have := aH.mp q;obtain ⟨_, e⟩ := this;simp at e;subst e;cases hd;rfl
 subst this;exact ⟨I1, Ext.refl, rfl⟩
def iY (a : FE) : FI := fun ρ S => (a ρ S).bind fun x S1 => match x with
 | .dat (.int j) => if -(2 ^ 62) <= j /\ j < 2 ^ 62 then .ok (gH 0 j.toNat) S1 else .stuck
 | _ => .stuck
theorem oR {tg : Expr} (hg : Gl X "range") (hm : X.mg "range" = none) (ha : PE X a (cW X.K W ma)) (hs : starEach [a] X.env = [(false, eval a X.env)] := by rfl) : PI X tg (.Call (.Name "range" p) [a] [] pos) (Oj X.K W (iY ma)) := Ia (pi_range1 hg hm (pa_cons ha pa_nil hs) hs) fun σ H R h =>
 cU (k := fun x _ S1 => match x with | Vl.dat (PH.D.int j) => if -(2 ^ 62) <= j /\ j < 2 ^ 62 then Res.ok (gH 0 j.toNat) S1 else .stuck | _ => .stuck) h fun B φ S ρ d v H1 I E r f => by
  split at f
  ·rename_i j
   cases r;split at f
   ·rename_i hj
    exact ⟨j, rfl, hj.1, hj.2, Fin.now f I TU⟩
   ·exact f.elim
  ·exact f.elim
def eA : Nat -> List PH.D -> List PH.D
 | _, [] => []
 | n, d :: r => .tup [.int (n : Nat), d] :: eA (n + 1) r
theorem E7 : ∀ (n : Nat) (ds : List PH.D), (eA n ds).length = ds.length
 | _, [] => rfl
 | n, d :: r => by simp [eA, E7 (n + 1) r]
theorem E8 : ∀ (n : Nat) (ds : List PH.D) (i : Nat), (eA n ds)[i]? = (ds[i]?).map fun d => PH.D.tup [.int ((n + i : Nat) : Int), d]
 | n, [], i => by simp [eA]
 | n, d :: r, 0 => by simp [eA]
 | n, d :: r, i + 1 => by
  simp only [eA, mI];rw [E8 (n + 1) r i, show n + 1 + i = n + (i + 1) by omega]
def De (a : FE) : FI := fun ρ S => (a ρ S).bind fun x S1 => match x with
 | .dat (.lst ds) => .ok (eA 0 ds) S1
 | _ => .stuck
theorem Q3 {a : Addr} {vs : List L2.V} {ds : List PH.D} (I : GInv K B φ S H) (nb : ¬ lZ B φ S a) (h1 : H a = some (.lst vs)) (l : RepL K (lZ B φ S) H ds vs) : Od K B φ S H (Ite K a) (eA 0 ds) := fun φ1 S1 H1 B1 I1 X1 => by
 have h2 := (X1.old a _ h1 nb).1;have l2 := RepL.kp X1 ds vs l;have hl := l.len;rw [E7];refine ⟨fun i hi => ⟨vs, vs[i], SqL.of h2, by simp [hl, hi]⟩, ⟨vs, SqL.of h2, by omega⟩, fun i x H2 d hd y => ?_⟩
 obtain ⟨T, x', rfl, nT, rfl, y⟩ := y;rw [E8, qS] at hd;cases q : ds[i]? with
 | none => rw [q] at hd; cases hd
 | some d' =>
  rw [q] at hd;cases hd;obtain ⟨v', h3, h4⟩ := l2.get q;rw [y vs (SqL.of h2)] at h3;cases h3;have X2 := Ext.new (o := .tup [.int (i : Nat), x']) I1 nT;exact ⟨I1.new nT, X2, T, _, rfl, .inl (.inl upd_same), _, _, rfl, rfl, _, _, rfl, Rep.kp (X2.kp I1) _ _ h4, rfl⟩
theorem BX {elts : List Expr} {kk : Nat} {tpos : Pos} (hg : Gl X "enumerate") (hm : X.mg "enumerate" = none) (ha : PE X a (cW X.K W ma)) (hs : starEach [a] X.env = [(false, eval a X.env)] := by rfl) : PI X (.Tuple elts kk tpos) (.Call (.Name "enumerate" p) [a] [] pos) (Oj X.K W (De ma)) := Ia (pi_enum hg hm (pa_cons ha pa_nil hs) hs) fun σ H R h =>
 cU (k := fun x _ S1 => match x with | Vl.dat (PH.D.lst ds) => Res.ok (eA 0 ds) S1 | _ => .stuck) h fun B φ S ρ d v H1 I E r f => by
  split at f
  ·obtain ⟨a, vs, rfl, nb, h1, l⟩ := r
   exact ⟨a, vs, rfl, SqL.of h1, Fin.now f I (Q3 I nb h1 l)⟩
  ·exact f.elim
def Lk : List PH.D -> List PH.D -> List PH.D
 | a :: r, b :: s => .tup [a, b] :: Lk r s
 | _, _ => []
def Pr (a b : FE) : FI := fun ρ S => (a ρ S).bind fun x S1 => (b ρ S1).bind fun y S2 => match x, y with
 | .dat (.lst ds), .dat (.lst es) => .ok (Lk ds es) S2
 | _, _ => .stuck
end
section
variable {X : Cx} {W : WX} {e a b c : Expr} {es rest : List Expr} {pos p q p2 : Pos} {x y z : Str} {K : aD} {ma mb mc : FE} {mt mu : FT} {mas : FA} {mi : FI} {B : Addr -> Prop} {φ φ' : List Addr} {S S' : aO} {H H' : Hp} {σ : L2.St} {Q : VK} {m n : FS} {st : Stmt} {gM : List Stmt} {D : Ends} {t : Tg}
def loop (t : Tg) (mb : FS) : List PH.D -> Ev -> aO -> Out
 | [], ρ, S => .next ρ S
 | d :: r, ρ, S => match oG t (.dat d) ρ with
  | none => .stuck
  | some ρ1 => match mb ρ1 S with
   | .next ρ2 S2 => loop t mb r ρ2 S2
   | .cnt ρ2 S2 => loop t mb r ρ2 S2
   | .brk ρ2 S2 => .next ρ2 S2
   | .ret d S2 => .ret d S2
   | .err e ρ2 S2 => .err e ρ2 S2
   | .stuck => .stuck
def rR (mi : FI) (t : Tg) (mb : FS) : FS := fun ρ S => (mi ρ S).toS ρ fun ds S1 => loop t mb ds ρ S1
theorem P9 (h : lD K W (rR mi t m) D σ H) : tFor (Oj K W mi) (Oi K t) (lD K W m) D σ H := by
 obtain ⟨B, φ, S, ρ, I, E, f⟩ := h;refine cG I E f fun φ0 S0 ds J H0 I0 X0 E0 r f0 => ?_
 refine ⟨fun i k σ' H' => i <= ds.length /\ k = ds.length - i /\ ∃ φ1 S1 ρ1, GInv K B φ1 S1 H' /\ Ext φ0 S0 H0 φ1 S1 H' /\ RepE K B φ1 S1 H' ρ1 σ' /\ FinS K W D B φ1 S1 H' (loop t m (ds.drop i) ρ1 S1), ⟨_, iL _, rfl, φ0, S0, ρ, I0, Ext.refl, E0, f0⟩, ?_⟩
 rintro i k σ' H' ⟨hi, rfl, φ1, S1, ρ1, I1, X1, E1, f1⟩
 obtain ⟨hgo, hstop, hyld⟩ := r φ1 S1 H' B I1 (X1.kp I0)
 by_cases hlt : i < ds.length
 ·refine .inr ⟨hgo i hlt, fun σ2 H2 => i + 1 <= ds.length /\ ∃ φ2 S2 ρ2, GInv K B φ2 S2 H2 /\ Ext φ0 S0 H0 φ2 S2 H2 /\ RepE K B φ2 S2 H2 ρ2 σ2 /\ FinS K W D B φ2 S2 H2 (loop t m (ds.drop (i + 1)) ρ2 S2), fun σ2 H2 ⟨h1, h2⟩ => ⟨ds.length - (i + 1), by omega, h1, rfl, h2⟩, fun x H2 y => ?_⟩
  have hd : ds[i]? = some ds[i] := by simp [hlt]
  obtain ⟨I2, X2, r2⟩ := hyld i x H2 ds[i] hd y;rw [sE hlt] at f1;unfold loop at f1;have E2 := E1.ext X2 I1;have f2 := FinS.ext f1 X2;split at f2
  ·exact f2.elim
  ·rename_i ρ2 q2
   refine EV E2 (d := .dat ds[i]) r2 q2 fun vs E3 => ⟨B, φ1, S1, ρ2, I2, E3, ?_⟩
   cases q3 : m ρ2 S1 with
   | next ρ3 S3 =>
    rw [q3] at f2;exact fun φ3 σ3 H3 I3 X3 E4 => ⟨hlt, φ3, S3, ρ3, I3, X1.trans (X2.trans X3), E4, FinS.ext f2 X3⟩
   | cnt ρ3 S3 =>
    rw [q3] at f2;exact fun φ3 σ3 H3 I3 X3 E4 => ⟨hlt, φ3, S3, ρ3, I3, X1.trans (X2.trans X3), E4, FinS.ext f2 X3⟩
   | brk ρ3 S3 => rw [q3] at f2; exact f2
   | ret d S3 => rw [q3] at f2; exact f2
   | err e ρ3 S3 => rw [q3] at f2; exact f2
   | stuck => rw [q3] at f2; exact f2
 ·have e : i = ds.length := by omega
  subst e;rw [Cn] at f1;exact .inl ⟨hstop, f1 φ1 σ' H' I1 Ext.refl E1⟩
theorem mT {tg iter : Expr} (hp : PassesOwn (model X.prog X.w) X.A X.env X.xe) (hc : X.calm = true) (hi : PI X tg iter (Oj X.K W mi)) (hg : PG X tg (Oi X.K t)) (hb : PSs X gM (lD X.K W m))
  (hs : ∀ x, foldedSetIterable iter X.env x = pure x := by intro _; rfl) : PS X (.For tg iter gM [] pos) (lD X.K W (rR mi t m)) := fM (ps_for hp hc hi hg hb hs) fun D σ H h => P9 h
def pY (mt : FT) (mb : FS) : Nat -> Ev -> aO -> Out
 | 0, _, _ => .stuck
 | n + 1, ρ, S => (mt ρ S).toS ρ fun c S1 => if c = true then (match mb ρ S1 with
   | .next ρ2 S2 => pY mt mb n ρ2 S2
   | .cnt ρ2 S2 => pY mt mb n ρ2 S2
   | .brk ρ2 S2 => .next ρ2 S2
   | .ret d S2 => .ret d S2
   | .err e ρ2 S2 => .err e ρ2 S2
   | .stuck => .stuck) else .next ρ S1
def AO (k : Nat) (mt : FT) (mb : FS) : FS := fun ρ S => pY mt mb k ρ S
theorem KJ {k : Nat} (h : lD K W (AO k mt m) D σ H) : tWhile (xW K W mt) (lD K W m) D σ H := by
 obtain ⟨B, φ, S, ρ, I, E, f⟩ := h;refine ⟨fun k σ' H' => ∃ φ1 S1 ρ1, GInv K B φ1 S1 H' /\ RepE K B φ1 S1 H' ρ1 σ' /\ FinS K W D B φ1 S1 H' (pY mt m k ρ1 S1), ⟨k, φ, S, ρ, I, E, f⟩, ?_⟩
 rintro k σ' H' ⟨φ1, S1, ρ1, I1, E1, f1⟩
 cases k with
 | zero => exact f1.elim
 | succ k =>
  refine cG I1 E1 f1 fun φ2 S2 d v H2 I2 X2 E2 r f2 => ?_
  have r : v = d := r;subst r;cases v with
  | false => exact f2 φ2 σ' H2 I2 Ext.refl E2
  | true =>
   refine ⟨fun σ3 H3 => ∃ φ1 S1 ρ1, GInv K B φ1 S1 H3 /\ RepE K B φ1 S1 H3 ρ1 σ3 /\ FinS K W D B φ1 S1 H3 (pY mt m k ρ1 S1), fun σ3 H3 h3 => ⟨k, Co _, h3⟩, ⟨B, φ2, S2, ρ1, I2, E2, ?_⟩⟩
   rw [if_pos rfl] at f2;cases q3 : m ρ1 S2 with
   | next ρ3 S3 =>
    rw [q3] at f2;exact fun φ3 σ3 H3 I3 X3 E4 => ⟨φ3, S3, ρ3, I3, E4, FinS.ext f2 X3⟩
   | cnt ρ3 S3 =>
    rw [q3] at f2;exact fun φ3 σ3 H3 I3 X3 E4 => ⟨φ3, S3, ρ3, I3, E4, FinS.ext f2 X3⟩
   | brk ρ3 S3 => rw [q3] at f2; exact f2
   | ret d S3 => rw [q3] at f2; exact f2
   | err e ρ3 S3 => rw [q3] at f2; exact f2
   | stuck => rw [q3] at f2; exact f2
theorem Gn {k : Nat} (hp : PassesOwn (model X.prog X.w) X.A X.env X.xe) (hc : PT X c (xW X.K W mt)) (hb : PSs X gM (lD X.K W m)) : PS X (.While c gM [] pos) (lD X.K W (AO k mt m)) := fM (ps_while hp hc hb) fun D σ H h => KJ h
theorem vU : ∀ (vs : List Nat) (σ : L2.St) (j : Nat), (wipe σ vs)[j]? = if j ∈ vs then (σ[j]?).map (fun _ => none) else σ[j]?
 | [], σ, j => by simp [wipe]
 | v :: vs, σ, j => by
  unfold wipe;rw [aX, vU vs σ j, wipe_length]
  by_cases e : v = j
  ·subst e
   rw [if_pos rfl, if_pos (aT ..)]
   by_cases hl : v < σ.length
   ·rw [if_pos hl]; simp [hl]
   ·rw [if_neg hl]; simp [uF hl]
  ·rw [if_neg e]
   by_cases hm : j ∈ vs
   ·rw [if_pos hm, if_pos (aJ _ hm)]
   ·rw [if_neg hm, if_neg]
    intro h;rcases bM.mp h with h | h
    ·exact e h.symm
    ·exact hm h
theorem Bf {vs : List Nat} {σ : L2.St} {i : Nat} {v : Option L2.V} (hi : i ∈ vs) : wipe (σ.set i v) vs = wipe σ vs := by
 apply gI
 intro j;rw [vU, vU]
 by_cases hj : j ∈ vs
 ·rw [if_pos hj, if_pos hj, aX]
  by_cases e : i = j
  ·subst e
   rw [if_pos rfl]
   by_cases hl : i < σ.length
   ·rw [if_pos hl]; simp [hl]
   ·rw [if_neg hl]; simp [uF hl]
  ·rw [if_neg e]
 ·rw [if_neg hj, if_neg hj, aX, if_neg]
  intro e;subst e;exact hj hi
theorem DD {vs : List Nat} {σ : L2.St} : wipe (wipe σ vs) vs = wipe σ vs := by
 apply gI
 intro j;rw [vU]
 by_cases hj : j ∈ vs
 ·rw [if_pos hj, vU, if_pos hj]
  cases σ[j]? <;> rfl
 ·rw [if_neg hj]
theorem uG {vs : List Nat} : ∀ {is : List Nat} {ws : List L2.V} {σ : L2.St}, (∀ i ∈ is, i ∈ vs) -> wipe (putAll is ws σ) vs = wipe σ vs
 | [], ws, σ, _ => by cases ws <;> rfl
 | i :: is, [], σ, _ => rfl
 | i :: is, w :: ws, σ, h => by
  unfold putAll;rw [uG (is := is) fun j hj => h j (aJ _ hj), Bf (h i (aT ..))]
theorem DE {vs : List Nat} {v : L2.V} {ws : List L2.V} (h : ∀ i ∈ SJ t, i ∈ vs) : wipe (SM t v ws σ) vs = wipe σ vs := by
 cases t with
 | nm i => exact Bf (h i (by simp [SJ]))
 | tp is => exact uG h
 | tn i is =>
  cases ws with
  | nil => rfl
  | cons w ws =>
   show wipe (putAll is ws (σ.set i (some w))) vs = _
   rw [uG fun j hj => h j (aJ _ hj), Bf (h i (aT ..))]
theorem RepE.wipes {ρ : Ev} (E : RepE K B φ S H ρ σ) (vs : List Nat) : RepE K B φ S H (PH.wipeE ρ vs) (wipe σ vs) := by
 have hl : ∀ vs : List Nat, (PH.wipeE ρ vs).length = ρ.length := fun vs => by
  induction vs with
  | nil => rfl
  | cons v vs ih => simp [PH.wipeE, ih]
 have hg : ∀ (vs : List Nat) (i : Nat) (d : Vl), (PH.wipeE ρ vs)[i]? = some (some d) -> i ∉ vs /\ ρ[i]? = some (some d) := fun vs => by
  induction vs with
  | nil => intro i d h; exact ⟨by simp, h⟩
  | cons v vs ih =>
   intro i d h;unfold PH.wipeE at h;rw [aX] at h
   by_cases e : v = i
   ·rw [if_pos e] at h
    by_cases hv : v < (PH.wipeE ρ vs).length
    ·rw [if_pos hv] at h; cases h
    ·rw [if_neg hv] at h; cases h
   ·rw [if_neg e] at h
    obtain ⟨h1, h2⟩ := ih i d h;exact ⟨fun q => by
     rcases bM.mp q with q | q
     ·exact e q.symm
     ·exact h1 q, h2⟩
 refine ⟨by rw [hl, wipe_length]; exact E.1, fun i d h => ?_⟩
 obtain ⟨h1, h2⟩ := hg vs i d h;obtain ⟨v, h3, h4⟩ := E.2 i d h2;exact ⟨v, by rw [vU, if_neg h1]; exact h3, h4⟩
def jP (B : Addr -> Prop) (a : Addr) : Addr -> Prop := fun b => B b \/ b = a
theorem GInv.plus {a : Addr} {o : HO} (I : GInv K B φ S H) (ha : H a = none) : GInv K (jP B a) φ S (upd H a o) where
 len := I.len
 ok := fun n c b h1 h2 => by
  have q := I.ok n c b h1 h2;have k : Kp (lZ B φ S) H (lZ (jP B a) φ S) (upd H a o) := Ext.kpB (B1 := jP B a) (fun _ h => .inl h) (fun b hb h => by
   rcases h with h | h
   ·exact h
   ·exact absurd (by rw [h]; exact ha) hb) I (Ext.new I ha)
  have hb : c ≠ .dead -> upd H a o b = H b := fun hc => upd_ne fun e => by
   subst e;exact I.fresh ha ⟨n, c, h1, hc, h2⟩
  have hV : ∀ {d : Vl} {v : L2.V}, RepV K B φ S H d v -> RepV K (jP B a) φ S (upd H a o) d v := fun {d v} r => by
   cases d with
   | dat d => exact Rep.kp k d v r
   | cel n => exact r
   | cels ns => obtain ⟨a', as, e1, e2, e3, e4⟩ := r; exact ⟨a', as, e1, (k.old _ _ e3 e2).2, (k.old _ _ e3 e2).1, e4⟩
   | scr ns => obtain ⟨a', e1, e2⟩ := r; exact ⟨a', e1, e2.keep fun o u h => by rw [upd_ne (ne_of_none h ha)]; exact h⟩
   | tc xs => obtain ⟨a', vs, e1, e2, e3⟩ := r; exact ⟨a', vs, e1, SqT.kp k.tup e2, e3.kp k (fun _ _ h => h)⟩
  have hF : ∀ {fs : List (Str × Vl)} {vs : List (Str × L2.V)}, RepF K B φ S H fs vs -> RepF K (jP B a) φ S (upd H a o) fs vs := fun {fs} => by
   induction fs with
   | nil => intro vs r; exact r
   | cons f fs ih => rintro vs ⟨v, ws, e, h1, h2⟩; exact ⟨v, ws, e, hV h1, ih h2⟩
  cases c with
  | dead => trivial
  | lst ds => obtain ⟨vs, e, r⟩ := q; exact ⟨vs, by rw [hb (by simp)]; exact e, RepL.kp k ds vs r⟩
  | ins C fs => obtain ⟨dx, vs, e, r⟩ := q; exact ⟨dx, vs, by rw [hb (by simp)]; exact e, hF r⟩
  | dct fs => obtain ⟨vs, e, r⟩ := q; exact ⟨vs, by rw [hb (by simp)]; exact e, hF r⟩
  | lv xs => obtain ⟨vs, e, r⟩ := q; exact ⟨vs, by rw [hb (by simp)]; exact e, dM hV r⟩
  | dki ks xs => obtain ⟨vs, e, r⟩ := q; exact ⟨vs, by rw [hb (by simp)]; exact e, dM hV r⟩
  | dkt ks xs => obtain ⟨vs, e, r⟩ := q; exact ⟨vs, by rw [hb (by simp)]; exact e, dM hV r⟩
 inj := I.inj
 blk := fun b h q => by
  rcases q with q | q
  ·exact I.blk b h q
  ·subst q; exact I.fresh ha h
 btr := fun b h => by
  rcases h with h | h
  ·obtain ⟨u, e⟩ := I.btr b h
   exact ⟨u, by rw [upd_ne (ne_of_none e ha)]; exact e⟩
  ·subst h; exact ⟨o, upd_same⟩
theorem RepV.less {a : Addr} {d : Vl} {v : L2.V} (r : RepV K (jP B a) φ S H d v) : RepV K B φ S H d v := by
 have k : Kp (lZ (jP B a) φ S) H (lZ B φ S) H := ⟨fun b o h n => ⟨h, fun q => n (by
  rcases q with q | q
  ·exact .inl (.inl q)
  ·exact .inr q)⟩, fun _ _ h => h⟩
 cases d with
 | dat d => exact Rep.kp k d v r
 | cel n => exact r
 | cels ns => obtain ⟨a', as, e1, e2, e3, e4⟩ := r; exact ⟨a', as, e1, (k.old _ _ e3 e2).2, e3, e4⟩
 | scr ns => exact r
 | tc xs => obtain ⟨a', vs, e1, e2, e3⟩ := r; exact ⟨a', vs, e1, SqT.kp k.tup e2, e3.kp k (fun _ _ h => h)⟩
theorem RepL.less {a : Addr} {ds : List PH.D} {vs : List L2.V} (r : RepL K (lZ (jP B a) φ S) H ds vs) : RepL K (lZ B φ S) H ds vs :=
 RepL.kp ⟨fun b o h n => ⟨h, fun q => n (by
  rcases q with q | q
  ·exact .inl (.inl q)
  ·exact .inr q)⟩, fun _ _ h => h⟩ ds vs r
theorem RepF.less {a : Addr} : ∀ {fs : List (Str × Vl)} {vs : List (Str × L2.V)}, RepF K (jP B a) φ S H fs vs -> RepF K B φ S H fs vs
 | [], vs, r => r
 | f :: fs, vs, ⟨v, ws, e, h1, h2⟩ => ⟨v, ws, e, h1.less, RepF.less h2⟩
theorem GInv.less {a : Addr} (I : GInv K (jP B a) φ S H) : GInv K B φ S H where
 len := I.len
 ok := fun n c b h1 h2 => by
  have q := I.ok n c b h1 h2;cases c with
  | dead => trivial
  | lst ds => obtain ⟨vs, e, r⟩ := q; exact ⟨vs, e, r.less⟩
  | ins C fs => obtain ⟨dx, vs, e, r⟩ := q; exact ⟨dx, vs, e, r.less⟩
  | dct fs => obtain ⟨vs, e, r⟩ := q; exact ⟨vs, e, r.less⟩
  | lv xs => obtain ⟨vs, e, r⟩ := q; exact ⟨vs, e, dM RepV.less r⟩
  | dki ks xs => obtain ⟨vs, e, r⟩ := q; exact ⟨vs, e, dM RepV.less r⟩
  | dkt ks xs => obtain ⟨vs, e, r⟩ := q; exact ⟨vs, e, dM RepV.less r⟩
 inj := I.inj
 blk := fun b h q => I.blk b h (.inl q)
 btr := fun b h => I.btr b (.inl h)
theorem Kp.plusPut {a : Addr} {acc : List L2.V} {o : HO} (ha : H a = some (.lst acc)) : Kp (lZ (jP B a) φ S) H (lZ (jP B a) φ S) (upd H a o) :=
 ⟨fun b o' h n => ⟨by
  rw [upd_ne]
  ·exact h
  ·intro e; subst e; exact n (.inl (.inr rfl)), n⟩, fun b w h => by
  have ne : b ≠ a := fun e => by
   subst e;rcases h with h | ⟨o', h⟩
   ·rw [ha] at h; cases h
   ·rw [ha] at h; cases h
  rcases h with h | ⟨o', h⟩
  ·exact .inl (by rw [upd_ne ne]; exact h)
  ·exact .inr ⟨o', by rw [upd_ne ne]; exact h⟩⟩
theorem RepV.plusPut {a : Addr} {acc : List L2.V} {o : HO} (ha : H a = some (.lst acc)) {d : Vl} {v : L2.V} (r : RepV K (jP B a) φ S H d v) : RepV K (jP B a) φ S (upd H a o) d v := by
 have k := Kp.plusPut (B := B) (φ := φ) (S := S) (o := o) ha;cases d with
 | dat d => exact Rep.kp k d v r
 | cel n => exact r
 | cels ns => obtain ⟨a', as, e1, e2, e3, e4⟩ := r; exact ⟨a', as, e1, (k.old _ _ e3 e2).2, (k.old _ _ e3 e2).1, e4⟩
 | scr ns =>
  obtain ⟨a', e1, e2⟩ := r;refine ⟨a', e1, e2.keep fun o u h => ?_⟩
  rw [upd_ne]
  ·exact h
  ·intro e; subst e; rw [ha] at h; cases h
 | tc xs => obtain ⟨a', vs, e1, e2, e3⟩ := r; exact ⟨a', vs, e1, SqT.kp k.tup e2, e3.kp k (fun _ _ h => h)⟩
theorem RepF.plusPut {a : Addr} {acc : List L2.V} {o : HO} (ha : H a = some (.lst acc)) : ∀ {fs : List (Str × Vl)} {vs : List (Str × L2.V)}, RepF K (jP B a) φ S H fs vs -> RepF K (jP B a) φ S (upd H a o) fs vs
 | [], vs, r => r
 | f :: fs, vs, ⟨v, ws, e, h1, h2⟩ => ⟨v, ws, e, h1.plusPut ha, RepF.plusPut ha h2⟩
theorem GInv.plusPut {a : Addr} {acc : List L2.V} {o : HO} (I : GInv K (jP B a) φ S H) (ha : H a = some (.lst acc)) : GInv K (jP B a) φ S (upd H a o) where
 len := I.len
 ok := fun n c b h1 h2 => by
  have q := I.ok n c b h1 h2;have k := Kp.plusPut (B := B) (φ := φ) (S := S) (o := o) ha;have hb : c ≠ .dead -> upd H a o b = H b := fun hc => upd_ne fun e => by
   subst e;exact I.blk b ⟨n, c, h1, hc, h2⟩ (.inr rfl)
  cases c with
  | dead => trivial
  | lst ds => obtain ⟨vs, e, r⟩ := q; exact ⟨vs, by rw [hb (by simp)]; exact e, RepL.kp k ds vs r⟩
  | ins C fs => obtain ⟨dx, vs, e, r⟩ := q; exact ⟨dx, vs, by rw [hb (by simp)]; exact e, r.plusPut ha⟩
  | dct fs => obtain ⟨vs, e, r⟩ := q; exact ⟨vs, by rw [hb (by simp)]; exact e, r.plusPut ha⟩
  | lv xs => obtain ⟨vs, e, r⟩ := q; exact ⟨vs, by rw [hb (by simp)]; exact e, dM (RepV.plusPut ha) r⟩
  | dki ks xs => obtain ⟨vs, e, r⟩ := q; exact ⟨vs, by rw [hb (by simp)]; exact e, dM (RepV.plusPut ha) r⟩
  | dkt ks xs => obtain ⟨vs, e, r⟩ := q; exact ⟨vs, by rw [hb (by simp)]; exact e, dM (RepV.plusPut ha) r⟩
 inj := I.inj
 blk := I.blk
 btr := fun b h => by
  by_cases e : b = a
  ·subst e; exact ⟨o, upd_same⟩
  ·obtain ⟨u, h1⟩ := I.btr b h
   exact ⟨u, by rw [upd_ne e]; exact h1⟩
theorem RepV.plus {a : Addr} {o : HO} (I : GInv K B φ S H) (ha : H a = none) {d : Vl} {v : L2.V} (r : RepV K B φ S H d v) : RepV K (jP B a) φ S (upd H a o) d v := by
 have k : Kp (lZ B φ S) H (lZ (jP B a) φ S) (upd H a o) := Ext.kpB (B1 := jP B a) (fun _ h => .inl h) (fun b hb h => by
  rcases h with h | h
  ·exact h
  ·exact absurd (by rw [h]; exact ha) hb) I (Ext.new I ha)
 cases d with
 | dat d => exact Rep.kp k d v r
 | cel n => exact r
 | cels ns => obtain ⟨a', as, e1, e2, e3, e4⟩ := r; exact ⟨a', as, e1, (k.old _ _ e3 e2).2, (k.old _ _ e3 e2).1, e4⟩
 | scr ns => obtain ⟨a', e1, e2⟩ := r; exact ⟨a', e1, e2.keep fun o u h => by rw [upd_ne (ne_of_none h ha)]; exact h⟩
 | tc xs => obtain ⟨a', vs, e1, e2, e3⟩ := r; exact ⟨a', vs, e1, SqT.kp k.tup e2, e3.kp k (fun _ _ h => h)⟩
theorem RepE.plus {a : Addr} {o : HO} {ρ : Ev} (I : GInv K B φ S H) (ha : H a = none) (E : RepE K B φ S H ρ σ) : RepE K (jP B a) φ S (upd H a o) ρ σ :=
 ⟨E.1, fun i d h => by
  obtain ⟨v, h1, h2⟩ := E.2 i d h;exact ⟨v, h1, h2.plus I ha⟩⟩
theorem RepE.plusPut {a : Addr} {acc : List L2.V} {o : HO} {ρ : Ev} (ha : H a = some (.lst acc)) (E : RepE K (jP B a) φ S H ρ σ) : RepE K (jP B a) φ S (upd H a o) ρ σ :=
 ⟨E.1, fun i d h => by
  obtain ⟨v, h1, h2⟩ := E.2 i d h;exact ⟨v, h1, h2.plusPut ha⟩⟩
theorem Fin.done {cl : Bool} {a : Addr} {ds : List PH.D} {vs : List L2.V} {H0 : Hp} {φ0 : List Addr} {S0 : aO} (f : Fin K W σ (RepV K) B φ0 S0 H0 (PH.newL cl ds S) Q) (I : GInv K (jP B a) φ S H) (X0 : Ext φ0 S0 H0 φ S H) (h0 : H0 a = none) (nB : ¬ B a) (ha : H a = some (.lst vs)) (l : RepL K (lZ (jP B a) φ S) H ds vs) : Q (.ref a) H := by
 have na : ¬ mE φ S a := fun q => I.blk a q (.inr rfl)
 unfold PH.newL at f;cases cl with
 | false =>
  refine f φ _ H I.less X0 ⟨a, vs, rfl, fun q => ?_, ha, l.less⟩
  rcases q with q | q
  ·exact nB q
  ·exact na q
 | true =>
  have X1 : Ext φ0 S0 H0 (φ ++ [a]) (S ++ [.lst ds]) H := {
   old := fun b o h n => by
    obtain ⟨h1, h2⟩ := X0.old b o h n;refine ⟨h1, fun q => ?_⟩
    rcases (kU I.len).mp q with q | ⟨_, q⟩
    ·exact h2 q
    ·subst q; rw [h0] at h; cases h
   ids := fun n b h => by
    have := X0.ids n b h;rw [aL (aH.mp this).1]; exact this }
  have hS : ∀ b, lZ B (φ ++ [a]) (S ++ [.lst ds]) b -> lZ (jP B a) φ S b := fun b q => by
   rcases q with q | q
   ·exact .inl (.inl q)
   ·rcases (kU I.len).mp q with q | ⟨_, q⟩
    ·exact .inr q
    ·exact .inl (.inr q)
  have k : Kp (lZ (jP B a) φ S) H (lZ B (φ ++ [a]) (S ++ [.lst ds])) H := ⟨fun b o h n => ⟨h, fun q => n (hS b q)⟩, fun _ _ h => h⟩
  have hφ : ∀ (n : Nat) (b : Addr), φ[n]? = some b -> (φ ++ [a])[n]? = some b := fun n b h => by rw [aL (aH.mp h).1]; exact h
  have hV : ∀ {d : Vl} {v : L2.V}, RepV K (jP B a) φ S H d v -> RepV K B (φ ++ [a]) (S ++ [.lst ds]) H d v := fun {d v} r => by
   cases d with
   | dat d => exact Rep.kp k d v r
   | cel n => obtain ⟨b, e1, e2⟩ := r; exact ⟨b, e1, hφ _ _ e2⟩
   | cels ns => obtain ⟨a', as, e1, e2, e3, e4⟩ := r; exact ⟨a', as, e1, (k.old _ _ e3 e2).2, e3, yS hφ ns as e4⟩
   | scr ns => exact r
   | tc xs => obtain ⟨a', vs, e1, e2, e3⟩ := r; exact ⟨a', vs, e1, SqT.kp k.tup e2, e3.kp k hφ⟩
  have hF : ∀ {fs : List (Str × Vl)} {vs : List (Str × L2.V)}, RepF K (jP B a) φ S H fs vs -> RepF K B (φ ++ [a]) (S ++ [.lst ds]) H fs vs := fun {fs} => by
   induction fs with
   | nil => intro vs r; exact r
   | cons f fs ih => rintro vs ⟨v, ws, e, h1, h2⟩; exact ⟨v, ws, e, hV h1, ih h2⟩
  refine f (φ ++ [a]) _ H ?_ X1 ⟨a, rfl, by rw [<- I.len]; exact nP⟩
  exact {
   len := by simp [I.len]
   ok := fun n c b h1 h2 => by
    by_cases hn : n < S.length
    ·rw [aL hn] at h1
     rw [aL (by rw [I.len]; exact hn)] at h2
     have q := I.ok n c b h1 h2;cases c with
     | dead => trivial
     | lst es => obtain ⟨us, e, r⟩ := q; exact ⟨us, e, RepL.kp k es us r⟩
     | ins C fs => obtain ⟨dx, us, e, r⟩ := q; exact ⟨dx, us, e, hF r⟩
     | dct fs => obtain ⟨us, e, r⟩ := q; exact ⟨us, e, hF r⟩
     | lv xs => obtain ⟨us, e, r⟩ := q; exact ⟨us, e, dM hV r⟩
     | dki ks xs => obtain ⟨us, e, r⟩ := q; exact ⟨us, e, dM hV r⟩
     | dkt ks xs => obtain ⟨us, e, r⟩ := q; exact ⟨us, e, dM hV r⟩
    ·have e : n = S.length := by
      have := (aH.mp h1).1;simp at this;omega
     subst e;rw [bB (bV _)] at h1;rw [<- I.len, bB (bV _)] at h2;simp at h1 h2;subst h1 h2;exact ⟨vs, ha, RepL.kp k ds vs l⟩
   inj := fun n m c c' b h1 h2 h3 h4 h5 h6 => by
    have key : ∀ (n : Nat) (c : Cell), (S ++ [.lst ds])[n]? = some c -> (n < S.length /\ S[n]? = some c) \/ n = S.length := fun n c h => by
     by_cases hn : n < S.length
     ·rw [aL hn] at h; exact .inl ⟨hn, h⟩
     ·have := (aH.mp h).1
      simp at this;exact .inr (by omega)
    have kφ : ∀ n : Nat, n < S.length -> (φ ++ [a])[n]? = φ[n]? := fun n hn => aL (by rw [I.len]; exact hn)
    have kp : (φ ++ [a])[S.length]? = some a := by rw [<- I.len]; simp
    rcases key n c h1 with ⟨hn, e1⟩ | e1 <;> rcases key m c' h3 with ⟨hm, e2⟩ | e2
    ·rw [kφ n hn] at h5
     rw [kφ m hm] at h6;exact I.inj n m c c' b e1 h2 e2 h4 h5 h6
    ·subst e2
     rw [kp] at h6;cases h6;rw [kφ n hn] at h5;exact absurd ⟨n, c, e1, h2, h5⟩ na
    ·subst e1
     rw [kp] at h5;cases h5;rw [kφ m hm] at h6;exact absurd ⟨m, c', e2, h4, h6⟩ na
    ·omega
   blk := fun b h => by
    rcases (kU I.len).mp h with h | ⟨_, h⟩
    ·exact fun q => I.blk b h (.inl q)
    ·subst h; exact nB
   btr := fun b h => I.btr b (.inl h) }
end
section
variable {X : Cx} {W : WX} {e a b c : Expr} {es rest : List Expr} {pos p q p2 : Pos} {x y z : Str} {K : aD} {ma mb mc : FE} {mt mu : FT} {mas : FA} {mi mj : FI} {B : Addr -> Prop} {φ φ' : List Addr} {S S' : aO} {H H' : Hp} {σ : L2.St} {Q : VK} {m n : FS} {st : Stmt} {gM : List Stmt} {D : Ends} {t t1 : Tg}
def fX : FT := fun _ S => .ok true S
theorem P5 {Q : Bool -> Hp -> Prop} (h : xW K W fX σ H Q) : tYes σ H Q := by
 obtain ⟨B, φ, S, ρ, I, E, f⟩ := h;exact Fin.now (v := true) f I rfl
theorem RH {es : List Expr} {t u : TT} (h : PTs X es t) (i : ∀ σ H Q, u σ H Q -> t σ H Q) : PTs X es u := ⟨fun pins s σ H Q I q => h.run pins s σ H Q I (i σ H Q q)⟩
theorem gK : PTs X [] (xW X.K W fX) := RH pts_nil fun σ H Q h => P5 h
theorem Je {c : Expr} (h : PT X c (xW X.K W mt)) : PTs X [c] (xW X.K W mt) := pts_one h
def iZ (t : Tg) (mt : FT) (me : FE) (ρ : Ev) : List PH.D -> aO -> Res (List PH.D)
 | [], S => .ok [] S
 | d :: r, S => match oG t (.dat d) ρ with
  | none => .stuck
  | some ρ1 => match mt ρ1 S with
   | .ok b S1 => if b = true then (match me ρ1 S1 with
     | .ok (.dat e) S2 => (match iZ t mt me ρ r S2 with
      | .ok es S3 => .ok (e :: es) S3
      | _ => .stuck)
     | _ => .stuck) else iZ t mt me ρ r S1
   | _ => .stuck
def AB (cl : Bool) (mi : FI) (t : Tg) (mt : FT) (me : FE) (vs : List Nat) : FE := fun ρ S => (mi ρ S).bind fun ds S1 => if ds.length <= sizeLine then (match iZ t mt me (wipeE ρ vs) ds S1 with
 | .ok es S2 => newL cl es S2
 | _ => .stuck) else .stuck
theorem MH {cl : Bool} {me : FE} {vs : List Nat} (ht : ∀ i ∈ SJ t, i ∈ vs) (h : cW K W (AB cl mi t mt me vs) σ H Q) : tLc (Oj K W mi) (Oi K t) (xW K Bg mt) (cW K Bg me) vs σ H Q := by
 refine cU (k := fun ds ρ S1 => if ds.length <= sizeLine then (match iZ t mt me (wipeE ρ vs) ds S1 with | .ok es S2 => newL cl es S2 | _ => .stuck) else .stuck) h fun B φ0 S0 ρ ds J H0 I0 E0 r f0 => ?_
 intro A hA;split at f0
 case isFalse => exact f0.elim
 rename_i hsz;cases q0 : iZ t mt me (wipeE ρ vs) ds S0 with
 | stuck => rw [q0] at f0; exact f0.elim
 | err e S' => rw [q0] at f0; exact f0.elim
 | ok es0 Sz =>
 rw [q0] at f0;have nB : ¬ B A := fun q => by obtain ⟨u, e⟩ := I0.btr A q; rw [hA] at e; cases e
 have IA : GInv K (jP B A) φ0 S0 (upd H0 A (.lst [])) := I0.plus hA;have b2 : ∀ a, H0 a ≠ none -> jP B A a -> B a := fun b hb h => by
  rcases h with h | h
  ·exact h
  ·exact absurd (by rw [h]; exact hA) hb
 -- what is known at a turn
 refine ⟨fun i k H' => i <= ds.length /\ k = ds.length - i /\ ∃ φ1 S1 us acc rest, GInv K (jP B A) φ1 S1 H' /\ Ext φ0 S0 H0 φ1 S1 H' /\ RepE K (jP B A) φ1 S1 H' (wipeE ρ vs) (wipe σ vs) /\ H' A = some (.lst us) /\ us.length <= i /\ RepL K (lZ (jP B A) φ1 S1) H' acc us /\ iZ t mt me (wipeE ρ vs) (ds.drop i) S1 = .ok rest Sz /\ acc ++ rest = es0,
  ⟨_, iL _, rfl, φ0, S0, [], [], es0, IA, Ext.new I0 hA, (E0.wipes vs).plus I0 hA, upd_same, bV _, rfl, q0, rfl⟩, ?_⟩
 rintro i k H' ⟨hi, rfl, φ1, S1, us, acc, rs, I1, X1, E1, hA1, hul, l1, g1, ea⟩
 obtain ⟨hgo, hstop, hyld⟩ := r φ1 S1 H' (jP B A) I1 (X1.kpB (fun _ h => .inl h) b2 I0)
 by_cases hlt : i < ds.length
 ·refine .inr ⟨hgo i hlt, fun H2 => i + 1 <= ds.length /\ ∃ φ1 S1 us acc rest, GInv K (jP B A) φ1 S1 H2 /\ Ext φ0 S0 H0 φ1 S1 H2 /\ RepE K (jP B A) φ1 S1 H2 (wipeE ρ vs) (wipe σ vs) /\ H2 A = some (.lst us) /\ us.length <= i + 1 /\ RepL K (lZ (jP B A) φ1 S1) H2 acc us /\ iZ t mt me (wipeE ρ vs) (ds.drop (i + 1)) S1 = .ok rest Sz /\ acc ++ rest = es0, fun H2 ⟨h1, h2⟩ => ⟨ds.length - (i + 1), by omega, h1, rfl, h2⟩, fun x H2 y => ?_⟩
  have hd : ds[i]? = some ds[i] := by simp [hlt]
  obtain ⟨I2, X2, r2⟩ := hyld i x H2 ds[i] hd y;rw [sE hlt] at g1;unfold iZ at g1;split at g1
  case h_1 => cases g1
  rename_i ρ2 q2;have hA2 := (X2.old A _ hA1 fun q => I1.blk A q (.inr rfl)).1
  refine EV (E1.ext X2 I1) (d := .dat ds[i]) r2 q2 fun ws E3 => ⟨by rw [DE ht, DD], jP B A, φ1, S1, ρ2, I2, E3, ?_⟩
  split at g1
  case h_2 => cases g1
  rename_i b S3 q3;rw [q3];intro φ3 b' H3 I3 X3 rb;have rb : b' = b := rb;subst rb;have hA3 := (X3.old A _ hA2 fun q => I2.blk A q (.inr rfl)).1
  have Xa := X1.trans (X2.trans X3);cases b' with
  | false =>
   exact ⟨hlt, φ3, S3, us, acc, rs, I3, Xa, (E1.ext X2 I1).ext X3 I2, hA3, Nat.le_succ_of_le hul, X3.repL I2 (X2.repL I1 l1), g1, ea⟩
  | true =>
   rw [if_pos rfl];rw [if_pos rfl] at g1;refine ⟨jP B A, φ3, S3, ρ2, I3, E3.ext X3 I2, ?_⟩
   split at g1
   case h_2 => cases g1
   rename_i e S4 q4;rw [q4];intro φ4 v4 H4 I4 X4 r4;have hA4 := (X4.old A _ hA3 fun q => I3.blk A q (.inr rfl)).1
   split at g1
   case h_2 => cases g1
   rename_i es S5 q5;cases g1;have l4 : RepL K (lZ (jP B A) φ4 S4) H4 (acc ++ [e]) (us ++ [v4]) := (X4.repL I3 (X3.repL I2 (X2.repL I1 l1))).snoc r4;refine ⟨us, hA4, by omega, hlt, φ4, S4, us ++ [v4], acc ++ [e], es, I4.plusPut hA4, ?_, (((E1.ext X2 I1).ext X3 I2).ext X4 I3).plusPut hA4, upd_same, by simp; omega, RepL.kp (Kp.plusPut hA4) _ _ l4, q5, by rw [<- ea]; simp⟩
   exact ⟨fun b o h nb => by
    obtain ⟨h1, h2⟩ := (Xa.trans X4).old b o h nb;exact ⟨by rw [upd_ne (fun e => by subst e; rw [hA] at h; cases h)]; exact h1, h2⟩, (Xa.trans X4).ids⟩
 ·have e : i = ds.length := by omega
  subst e;rw [Cn] at g1;cases g1;rw [cP] at ea;subst ea;exact .inl ⟨hstop, Fin.done f0 I1 X1 hA nB hA1 l1⟩
theorem zJ {cl : Bool} {me : FE} {elt tg iter : Expr} {ifs : List Expr} {scope : Scope} {own : List (Str × Nat)} (hc : X.calm = true) (hN : X.N.Nodup) (hi : PI X tg iter (Oj X.K W mi)) (ok : BlkOk X.N X.env.scope scope own)
  (hg : ∀ (s : Shared) (H : Hp) (C : Addr) (cl : List (Str × Addr)) (fp : List Addr), PG (X.blk s H scope (compEnvC scope cl C X.env) fp) tg (Oi X.K t)) (ht : ∀ (s : Shared) (H : Hp) (C : Addr) (cl : List (Str × Addr)) (fp : List Addr), PTs (X.blk s H scope (compEnvC scope cl C X.env) fp) ifs (xW X.K Bg mt))
  (he : ∀ (s : Shared) (H : Hp) (C : Addr) (cl : List (Str × Addr)) (fp : List Addr), PE (X.blk s H scope (compEnvC scope cl C X.env) fp) elt (cW X.K Bg me)) (hs : ∀ x, foldedSetIterable iter X.env x = pure x := by intro _; rfl) (hv : ∀ i ∈ SJ t, i ∈ own.map (·.2) := by decide) :
  PE X (.ListComp elt [⟨tg, iter, ifs, 0⟩] scope pos) (cW X.K W (AB cl mi t mt me (own.map (·.2)))) := dD (pe_lc hc hN hi ok hg ht he hs) fun σ H Q h => MH hv h
theorem CS {i : Nat} {y : Str} {py : Pos} {cl : Bool} {me : FE} {elt tg iter : Expr} {ifs : List Expr} {scope : Scope} {own : List (Str × Nat)} {spos : Pos} (hc : X.calm = true) (hN : X.N.Nodup) (hy : X.N[i]? = some y) (hyl : X.env.scope.names.lookup y = some .local)
  (hsw : swapsWith (.ListComp elt [⟨tg, iter, ifs, 0⟩] scope pos) (some (.Name y py)) spos.line X.env = pure true) (hi : PI X tg iter (Oj X.K W mi)) (ok : BlkOk X.N X.env.scope scope own)
  (hg : ∀ (s : Shared) (H : Hp) (C : Addr) (cl : List (Str × Addr)) (fp : List Addr), PG (X.blk s H scope (compEnvC scope cl C X.env) fp) tg (Oi X.K t)) (ht : ∀ (s : Shared) (H : Hp) (C : Addr) (cl : List (Str × Addr)) (fp : List Addr), PTs (X.blk s H scope (compEnvC scope cl C X.env) fp) ifs (xW X.K Bg mt))
  (he : ∀ (s : Shared) (H : Hp) (C : Addr) (cl : List (Str × Addr)) (fp : List Addr), PE (X.blk s H scope (compEnvC scope cl C X.env) fp) elt (cW X.K Bg me)) (hs : ∀ x, foldedSetIterable iter X.env x = pure x := by intro _; rfl) (hv : ∀ i ∈ SJ t, i ∈ own.map (·.2) := by decide) :
  PS X (.Assign [.Name y py] (.ListComp elt [⟨tg, iter, ifs, 0⟩] scope pos) spos) (lD X.K W (bR (AB cl mi t mt me (own.map (·.2))) (.nm i))) := fM (ps_setLc hc hN hy hyl hsw hi ok hg ht he hs) fun D σ H h => by
 obtain ⟨B, φ, S, ρ, I, E, f⟩ := h;refine MH hv (cG I E f fun φ' S' d v H1 I1 X1 E1 r f1 => ?_)
 exact f1 φ' _ H1 I1 Ext.refl (E1.set r i)
end
section
variable {X : Cx} {W : WX} {e a b c o i : Expr} {es rest : List Expr} {pos p q p2 tpos apos cpos : Pos} {x y z : Str} {K : aD} {ma mb mc mo mx : FE} {mt mt1 mu : FT} {mas : FA} {mi mj : FI} {B : Addr -> Prop} {φ φ' : List Addr} {S S' : aO} {H H' : Hp} {σ : L2.St} {Q : VK} {m n : FS} {st : Stmt} {gM : List Stmt} {D : Ends} {t t1 : Tg}
def GJ (t : Tg) (mt : FT) (mj : FI) (t1 : Tg) (mt1 : FT) (me : FE) (vs1 : List Nat) (ρ : Ev) : List PH.D -> aO -> Res (List PH.D)
 | [], S => .ok [] S
 | d :: r, S => match oG t (.dat d) ρ with
  | none => .stuck
  | some ρ1 => match mt ρ1 S with
   | .ok b S1 => if b = true then (match mj ρ1 S1 with
     | .ok ds1 S2 => (match iZ t1 mt1 me (wipeE ρ1 vs1) ds1 S2 with
      | .ok xs S3 => (match GJ t mt mj t1 mt1 me vs1 ρ r S3 with
       | .ok ys S4 => .ok (xs ++ ys) S4
       | _ => .stuck)
      | _ => .stuck)
     | _ => .stuck) else GJ t mt mj t1 mt1 me vs1 ρ r S1
   | _ => .stuck
def Ss (cl : Bool) (mi : FI) (t : Tg) (mt : FT) (mj : FI) (t1 : Tg) (mt1 : FT) (me : FE) (vs vs1 : List Nat) : FE := fun ρ S => (mi ρ S).bind fun ds S1 => match GJ t mt mj t1 mt1 me vs1 (wipeE ρ vs) ds S1 with
 | .ok es S2 => if es.length <= sizeLine then newL cl es S2 else .stuck
 | _ => .stuck
def Gx (x y : Vl) (S : aO) : Res Vl := match x, y with
 | .cel n, .dat d => (match S[n]? with
  | some (.lst ds) => if ds.length < sizeLine then .ok (.dat .non) (S.set n (.lst (ds ++ [d]))) else .stuck
  | _ => .stuck)
 | _, _ => .stuck
theorem Cf {n : Nat} {ds ds' : List PH.D} {v v' : L2.V} {d' : Vl} {vs vs' : List L2.V} {a : Addr} (I : GInv K B φ S H) (hn : S[n]? = some (.lst ds)) (ha : φ[n]? = some a) (l : RepL K (lZ B φ S) H ds' vs') (r : RepV K B φ S H d' v')
  (f : Fin K W σ (RepV K) B φ S H (.ok d' (S.set n (.lst ds'))) Q) : Q v' (upd H a (.lst vs')) := by
 have X1 := Ext.put (H := H) (o := .lst vs') (x := .lst ds') hn (by simp) ha (by simp)
 have I1 : GInv K B φ (S.set n (.lst ds')) (upd H a (.lst vs')) := I.put hn (by simp) ha (by simp) ⟨vs', upd_same, X1.repL I l⟩
 exact f φ v' _ I1 X1 (r.ext X1 I)
theorem So : ∀ {x : L2.V} {y : L2.V} {d e : Vl}, GInv K B φ S H -> RepV K B φ S H d x -> RepV K B φ S H e y -> Fin K W σ (RepV K) B φ S H (Gx d e S) Q -> Js x [y] H Q := fun {x y d e} I r1 r2 f => by
 unfold Gx at f;split at f
 ·rename_i n d
  obtain ⟨a, rfl, h1⟩ := r1;split at f
  ·rename_i ds q
   obtain ⟨vs, h2, l⟩ := I.ok n _ a q h1;split at f
   ·rename_i hl
    exact ⟨vs, h2, by rw [l.len]; exact hl, Cf (v := .non) (v' := .non) (d' := .dat .non) (vs := vs) I q h1 (l.snoc r2) rfl f⟩
   ·exact f.elim
  ·exact f.elim
 ·exact f.elim
theorem OS {d e : Vl} {v : L2.V} (I : GInv K B φ S H) (r : RepV K B φ S H d v) (h : ∃ ds, nU S d = some ds) : tyV K "list" v H := by
 obtain ⟨ds, q⟩ := h;obtain ⟨a, vs, rfl, h1, l⟩ := lA I q r;exact .inl ⟨rfl, vs, SqL.of h1⟩
def kI (a b : FE) : FE := fun ρ S => (a ρ S).bind fun x S1 => match nU S1 x with
 | some _ => (b ρ S1).bind fun y S2 => Gx x y S2
 | none => .stuck
theorem gS (ha : PE X a (cW X.K W ma)) (hb : PE X b (cW X.K W mb)) (hs : starEach [b] X.env = (false, eval b X.env) :: starEach [] X.env := by rfl) (hbase : attributeBase a "append" X.env (eval a X.env) = eval a X.env := by rfl) (hline : (apos.endLine == cpos.line) = true := by rfl)
  (hfew : ((backTo cpos (starEach [b] X.env)).all (fun x => !x.1) && (backToKw cpos (keywordEach [] X.env)).all (fun x => x.1.isSome)
   && decide ([b].length + ([] : List Keyword).length + (if ([] : List Keyword).isEmpty then 0 else 1) < 30)) = true := by rfl)
  (hpl : (backTo cpos (starEach ([] : List Expr) X.env)).any (·.1) = false := by rfl) : PE X (.Call (.Attribute a "append" apos) [b] [] cpos) (cW X.K W (kI ma mb)) :=
 dD (pe_bm PySem.F.plainAttrs_list PySem.F.slot_list_append PySem.F.type_list_append Ht ha (pa_cons hb pa_nil hs) hbase hfew hline hs hpl) fun σ H Q h =>
  cU (k := fun x ρ S1 => match nU S1 x with | some _ => (mb ρ S1).bind fun y S2 => Gx x y S2 | none => .stuck) h fun B φ S ρ d v H1 I E r f => by
   split at f
   ·rename_i ds q
    exact ⟨OS (e := d) I r ⟨ds, q⟩, jB I E f fun φ' S' d2 v2 H2 I2 X2 E2 r2 f2 => So I2 (r.ext X2 I) r2 f2⟩
   ·exact f.elim
def rV (x : Vl) (S : aO) : Res Vl := match x with
 | .cel n => (match S[n]? with
  | some (.lst ds) => (match ds[ds.length - 1]? with
   | some d => .ok (.dat d) (S.set n (.lst ds.dropLast))
   | none => .stuck)
  | _ => .stuck)
 | _ => .stuck
theorem RepL.dropLast {Bk : Addr -> Prop} {ds : List PH.D} {vs : List L2.V} (h : RepL K Bk H ds vs) : RepL K Bk H ds.dropLast vs.dropLast := by
 rw [Jy, Jy, h.len];exact h.take _
theorem Dy (ha : PE X a (cW X.K W ma)) (hbase : attributeBase a "pop" X.env (eval a X.env) = eval a X.env := by rfl) (hline : (apos.endLine == cpos.line) = true := by rfl) : PE X (.Call (.Attribute a "pop" apos) [] [] cpos) (cW X.K W (m1 rV ma)) :=
 dD (pe_bm0 PySem.F.plainAttrs_list PySem.F.slot_list_pop PySem.F.type_list_pop Pm ha hbase hline) fun σ H Q h =>
  cU (k := fun x ρ S1 => rV x S1) h fun B φ S ρ d v H1 I E r f => by
   unfold rV at f;split at f
   ·rename_i n
    obtain ⟨a, rfl, h1⟩ := r;split at f
    ·rename_i ds q
     obtain ⟨vs, h2, l⟩ := I.ok n _ a q h1;split at f
     ·rename_i d qd
      obtain ⟨v', h3, h4⟩ := l.get qd;exact ⟨.inl ⟨rfl, vs, SqL.of h2⟩, vs, v', h2, by rw [l.len]; exact h3, Cf (v := .non) (d' := .dat d) (vs := vs) I q h1 l.dropLast h4 f⟩
     ·exact f.elim
    ·exact f.elim
   ·exact f.elim
def setC (x : Vl) (k : Int) (d : PH.D) (S : aO) : Option aO := match x with
 | .cel n => (match S[n]? with
  | some (.lst ds) => if 0 <= k /\ k.toNat < ds.length then some (S.set n (.lst (ds.set k.toNat d))) else none
  | _ => none)
 | _ => none
theorem J0 {x : Vl} {k : Int} {d : PH.D} {v u : L2.V} {Qh : Hp -> Prop} (I : GInv K B φ S H) (r : RepV K B φ S H x v) (rd' : Rep K (lZ B φ S) H d u) (h : setC x k d S = some S') (q : ∀ H', GInv K B φ S' H' -> Ext φ S H φ S' H' -> Qh H') : Jp v (.int k) u H Qh := by
 unfold setC at h;split at h
 ·rename_i n
  obtain ⟨a, rfl, h1⟩ := r;split at h
  ·rename_i ds q1
   split at h
   ·rename_i hk
    cases h;obtain ⟨vs, h2, l⟩ := I.ok n _ a q1 h1;have X1 := Ext.put (H := H) (o := .lst (vs.set k.toNat u)) (x := .lst (ds.set k.toNat d)) q1 (by simp) h1 (by simp)
    exact ⟨vs, h2, hk.1, by rw [l.len]; exact hk.2, q _ (I.put q1 (by simp) h1 (by simp) ⟨_, upd_same, X1.repL I (l.set rd' _)⟩) X1⟩
   ·cases h
  ·cases h
 ·cases h
def JJ (a o i : FE) : FS := fun ρ S => (a ρ S).toS ρ fun v S1 => (o ρ S1).toS ρ fun x S2 => (i ρ S2).toS ρ fun k S3 => match v, k with
 | .dat d, .dat (.int k) => (match setC x k d S3 with
  | some S4 => .next ρ S4
  | none => .stuck)
 | _, _ => .stuck
theorem Qi (ha : PE X a (cW X.K W ma)) (ho : PE X o (cW X.K W mo)) (hi : PE X i (cW X.K W mx)) (hs : swapsWithSole [.Subscript o i tpos] a pos.line X.env = pure false := by rfl) (hw : swappedStores [.Subscript o i tpos] a X.env = pure none := by rfl)
  (h1 : (assignEach [.Subscript o i tpos] X.env).map (·.2) = [assign (.Subscript o i tpos) X.env] := by rfl)
  (hz : ∀ v, assign (.Subscript o i tpos) X.env v = (do
   let ov <- holding [v] (eval o X.env)
   let iv <- holding [v, ov] (eval i X.env)
   standAt tpos
   holding [v, ov, iv] (setItem ov iv v)
   release [v, ov, iv] []) := by intro _; rfl) : PS X (.Assign [.Subscript o i tpos] a pos) (lD X.K W (JJ ma mo mx)) := fM (ps_asg ha (pg_sub ho hi DJ hz) hs hw h1) fun D σ H h => by
 obtain ⟨B, φ, S, ρ, I, E, f⟩ := h;refine cG I E f fun φ1 S1 d1 v1 H1 I1 X1 E1 r1 f1 => cG I1 E1 f1 fun φ2 S2 d2 v2 H2 I2 X2 E2 r2 f2 => cG I2 E2 f2 fun φ3 S3 d3 v3 H3 I3 X3 E3 r3 f3 => ?_
 split at f3
 ·rename_i d k
  cases r3;split at f3
  ·rename_i S4 q
   exact J0 I3 (r2.ext X3 I2) ((r1.ext X2 I1).ext X3 I2) q fun H' I' X' => f3 φ3 σ H' I' X' (E3.ext X' I3)
  ·exact f3.elim
 ·exact f3.elim
def NX (x : Vl) (k : Int) (S : aO) : Option PH.D := match x with
 | .cel n => (match S[n]? with
  | some (.lst ds) => if 0 <= k then ds[k.toNat]? else none
  | _ => none)
 | _ => none
theorem Q9 {x : Vl} {k : Int} {d : PH.D} {v : L2.V} {Q' : VK} (I : GInv K B φ S H) (r : RepV K B φ S H x v) (h : NX x k S = some d) (q : ∀ u, Rep K (lZ B φ S) H d u -> Q' u H) : Jr v (.int k) H Q' := by
 unfold NX at h;split at h
 ·rename_i n
  obtain ⟨a, rfl, h1⟩ := r;split at h
  ·rename_i ds q1
   split at h
   ·rename_i hk
    obtain ⟨vs, h2, l⟩ := I.ok n _ a q1 h1;obtain ⟨u, h3, h4⟩ := l.get h;exact ⟨vs, u, h2, hk, h3, q u h4⟩
   ·cases h
  ·cases h
 ·cases h
def kA (g : Int -> Int -> Int) (o i e : FE) : FS := fun ρ S => (o ρ S).toS ρ fun x S1 => (i ρ S1).toS ρ fun k S2 => match k with
 | .dat (.int k) => (match NX x k S2 with
  | some (.int u) => (e ρ S2).toS ρ fun w S3 => (match w with
   | .dat (.int w) => (match setC x k (.int (g u w)) S3 with
    | some S4 => .next ρ S4
    | none => .stuck)
   | _ => .stuck)
  | _ => .stuck)
 | _ => .stuck
theorem Fe {g : Int -> Int -> Int} {r : R2} {me : FE} (hr : ∀ i j H Q, Q (.int (g i j)) H -> r (.int i) (.int j) H Q) (h : lD K W (kA g mo mx me) D σ H) : tAugS (cW K W mo) (cW K W mx) (cW K W me) Jr (cIp r) Jp D σ H := by
 obtain ⟨B, φ, S, ρ, I, E, f⟩ := h;refine cG I E f fun φ1 S1 d1 v1 H1 I1 X1 E1 r1 f1 => cG I1 E1 f1 fun φ2 S2 d2 v2 H2 I2 X2 E2 r2 f2 => ?_
 split at f2
 ·rename_i k
  cases r2;split at f2
  ·rename_i u q
   refine Q9 I2 (r1.ext X2 I1) q fun u' ru => ?_
   cases ru;refine cG I2 E2 f2 fun φ3 S3 d3 v3 H3 I3 X3 E3 r3 f3 => ?_
   split at f3
   ·rename_i w
    cases r3;split at f3
    ·rename_i S4 q4
     refine hr _ _ _ _ ?_
     exact J0 I3 ((r1.ext X2 I1).ext X3 I2) (d := .int (g u w)) rfl q4 fun H' I' X' => f3 φ3 σ H' I' X' (E3.ext X' I3)
    ·exact f3.elim
   ·exact f3.elim
  ·exact f2.elim
 ·exact f2.elim
theorem CT {me : FE} (ho : PE X o (cW X.K W mo)) (hi : PE X i (cW X.K W mx)) (he : PE X e (cW X.K W me)) (ha : ∀ ov iv new, augStore i ov iv new = (do holding [new, ov, iv] (setItem ov iv new); release [new, ov, iv] []; pure .next) := by intros; rfl) : PS X (.AugAssign (.Subscript o i tpos) .Add e pos) (lD X.K W (kA (fun x y => x + y) mo mx me)) :=
 fM (MU ho hi he Eu ha) fun D σ H h => Fe (fun _ _ _ _ q => q) h
theorem pM {me : FE} (ho : PE X o (cW X.K W mo)) (hi : PE X i (cW X.K W mx)) (he : PE X e (cW X.K W me)) (ha : ∀ ov iv new, augStore i ov iv new = (do holding [new, ov, iv] (setItem ov iv new); release [new, ov, iv] []; pure .next) := by intros; rfl) : PS X (.AugAssign (.Subscript o i tpos) .Sub e pos) (lD X.K W (kA (fun x y => x - y) mo mx me)) :=
 fM (MU ho hi he Q4 ha) fun D σ H h => Fe (fun _ _ _ _ q => q) h
def Km (g : Int -> Int -> Int) (k : Nat) (e : FE) : FS := fun ρ S => match lk ρ k with
 | some (.dat (.int u)) => (e ρ S).toS ρ fun w S1 => (match w with
  | .dat (.int w) => .next (ρ.set k (some (.dat (.int (g u w))))) S1
  | _ => .stuck)
 | _ => .stuck
theorem PD {g : Int -> Int -> Int} {k : Nat} {r : R2} {me : FE} (hr : ∀ i j H Q, Q (.int (g i j)) H -> r (.int i) (.int j) H Q) (h : lD K W (Km g k me) D σ H) : tAug k (cW K W me) (cIp r) D σ H := by
 obtain ⟨B, φ, S, ρ, I, E, f⟩ := h;unfold Km at f;split at f
 ·rename_i u q
  obtain ⟨v, h1, h2⟩ := E.2 k _ (N3 q);cases h2;refine ⟨_, h1, cG I E f fun φ3 S3 d3 v3 H3 I3 X3 E3 r3 f3 => ?_⟩
  split at f3
  ·cases r3
   exact hr _ _ _ _ (f3 φ3 _ H3 I3 Ext.refl (E3.set (d := .dat (.int (g _ _))) (v := .int (g _ _)) rfl k))
  ·exact f3.elim
 ·exact f.elim
theorem LA {k : Nat} {me : FE} {pos' : Pos} (hN : X.N.Nodup) (hi : X.N[k]? = some x) (hx : Loc X.env.scope x) (he : PE X e (cW X.K W me)) (hf : X.fn x = true \/ X.env.scope.names.lookup x = some .local := by first | exact .inl rfl | exact .inr rfl | assumption) : PS X (.AugAssign (.Name x pos') .Add e pos) (lD X.K W (Km (fun x y => x + y) k me)) :=
 fM (ps_aug hN hi hx he Eu hf) fun D σ H h => PD (fun _ _ _ _ q => q) h
def mPar (i j : Nat) (a b : FE) : FS := fun ρ S => (a ρ S).toS ρ fun x S1 => (b ρ S1).toS ρ fun y S2 => .next ((ρ.set i (some x)).set j (some y)) S2
end
abbrev FD := List Vl -> aO -> Res Vl
def spF (K : aD) (m : FD) : Sp := fun vs H Q E => ∃ B φ S ds, GInv K B φ S H /\ RepVs K B φ S H ds vs /\ Fin K (fun c x _ H => E c x H) [] (RepV K) B φ S H (m ds S) Q
section
variable {X : Cx} {W : WX} {e a b c o i : Expr} {es rest : List Expr} {pos p q p2 tpos apos cpos : Pos} {x y z : Str} {K : aD} {ma mb mc mo mx : FE} {mt mt1 mu : FT} {mas : FA} {mi mj : FI} {B : Addr -> Prop} {φ φ' : List Addr} {S S' : aO} {H H' : Hp} {σ : L2.St} {Q : VK} {m n : FS} {st : Stmt} {gM : List Stmt} {D : Ends} {t t1 : Tg} {ps : List Str} {md : FD} {j k : Nat}
theorem Fin.toE {r : Res Vl} (f : Fin K W σ (RepV K) B φ S H r Q) : Fin K (fun c x _ H => WE W σ c x H) [] (RepV K) B φ S H r Q := by
 cases r with
 | ok d S' => exact f
 | err e S' => exact f
 | stuck => exact f
def aY (md : FD) (as : FA) : FE := fun ρ S => (as ρ S).bind md
theorem aZ (F : sG X.prog X.w X.K X.mg X.base j x ps (spF X.K md)) (hr : Room k X.A) (tk : Takes X W) (ha : PA X (e :: es) (Ef X.K W mas)) (hjk : j <= k := by decide) (hg : Gl X x := by rfl) (hdb : (x == ("__debug__" : Str)) = false := by decide)
  (he : starEach (e :: es) X.env = (false, eval e X.env) :: starEach es X.env := by rfl) (hpl : (backTo pos (starEach es X.env)).any (·.1) = false := by rfl) : PE X (.Call (.Name x p) (e :: es) [] pos) (cW X.K W (aY md mas)) := by
 obtain ⟨fd, F, hm, hk, hb⟩ := F;refine dD (pe_callS (E := WE W) F (hr.mono hjk) hg hm hk hb (fun σ => passAt tk σ) ha hdb he hpl) fun σ H Q h => ?_
 exact cU (k := fun ds _ S => md ds S) h fun B φ S ρ d v H1 I E r f => ⟨B, φ, S, d, I, r, f.toE⟩
def itB (n : Nat) : PH.D ⊕ Nat -> Bool
 | .inl _ => true
 | .inr m => decide (m < n)
def Vl.below (n : Nat) : Vl -> Bool
 | .dat _ => true
 | .cel m => decide (m < n)
 | .cels ms => ms.all fun m => decide (m < n)
 | .scr _ => true
 | .tc xs => xs.all (itB n)
def Cell.below (n : Nat) : Cell -> Bool
 | .dead => true
 | .lst _ => true
 | .ins _ fs => fs.all fun f => f.2.below n
 | .dct fs => fs.all fun f => f.2.below n
 | .lv xs => xs.all fun x => x.below n
 | .dki _ xs => xs.all fun x => x.below n
 | .dkt _ xs => xs.all fun x => x.below n
def trunc (n : Nat) (r : Res Vl) : Res Vl := match r with
 | .ok d S => if d.below n && ((S.take n).all fun c => c.below n) then .ok d (S.take n) else .stuck
 | .err e S => if (S.take n).all fun c => c.below n then .err e (S.take n) else .stuck
 | .stuck => .stuck
def cE : Out -> Res Vl
 | .ret d S => .ok d S
 | .next _ S => .ok (.dat .non) S
 | .err e _ S => .err e S
 | _ => .stuck
def envOf (n : Nat) (ds : List Vl) : Ev := ds.map some ++ bQ (n - ds.length) none
def run (n np : Nat) (mb : FS) : FD := fun ds S => if ds.length = np then cE (mb (envOf n ds) S) else .stuck
def Ct (n np : Nat) (mb : FS) : FD := fun ds S => if ds.length = np then trunc S.length (cE (mb (envOf n ds) S)) else .stuck
theorem yB {α : Type} {n m : Nat} {l : List α} (h : m < n) : (l.take n)[m]? = l[m]? := by
 rw [dW, if_pos h]
theorem kM {n : Nat} {a : Addr} (h : mE (φ.take n) (S.take n) a) : mE φ S a := by
 obtain ⟨m, c, h1, h2, h3⟩ := h;rw [dW] at h1 h3
 by_cases hm : m < n
 ·rw [if_pos hm] at h1 h3; exact ⟨m, c, h1, h2, h3⟩
 ·rw [if_neg hm] at h1; cases h1
theorem RepIs.takeN {n : Nat} {K : aD} {Bk Bk' : Addr -> Prop} {φ : List Addr} {H : Hp} (k : Kp Bk H Bk' H) : ∀ {xs : List (PH.D ⊕ Nat)} {vs : List L2.V}, RepIs K Bk φ H xs vs -> xs.all (itB n) = true -> RepIs K Bk' (φ.take n) H xs vs
 | [], vs, r, _ => r
 | x :: xs, vs, ⟨v, ws, e, h1, h2⟩, h => by
  rw [tN, iD] at h;refine ⟨v, ws, e, ?_, RepIs.takeN k h2 h.2⟩
  cases x with
  | inl d => exact Rep.kp k d v h1
  | inr m =>
   obtain ⟨b, q1, q2⟩ := h1;exact ⟨b, q1, by rw [yB (of_decide_eq_true h.1)]; exact q2⟩
theorem RepV.take {n : Nat} {d : Vl} {v : L2.V} (r : RepV K B φ S H d v) (h : d.below n = true) : RepV K B (φ.take n) (S.take n) H d v := by
 have k : Kp (lZ B φ S) H (lZ B (φ.take n) (S.take n)) H := ⟨fun b o h nb => ⟨h, fun q => nb (by
  rcases q with q | q
  ·exact .inl q
  ·exact .inr (kM q))⟩, fun _ _ h => h⟩
 cases d with
 | dat d => exact Rep.kp k d v r
 | cel m =>
  obtain ⟨a, e, h1⟩ := r;exact ⟨a, e, by rw [yB (of_decide_eq_true h)]; exact h1⟩
 | cels ms =>
  obtain ⟨a, as, e1, e2, e3, e4⟩ := r;refine ⟨a, as, e1, (k.old _ _ e3 e2).2, e3, ?_⟩
  rw [<- e4]
  apply gX
  intro m hm;exact yB (of_decide_eq_true (cD.mp h m hm))
 | scr ns => exact r
 | tc xs => obtain ⟨a, vs, e1, e2, e3⟩ := r; exact ⟨a, vs, e1, SqT.kp k.tup e2, RepIs.takeN k e3 h⟩
theorem RepF.take {n : Nat} : ∀ {fs : List (Str × Vl)} {vs : List (Str × L2.V)}, RepF K B φ S H fs vs -> (fs.all fun f => f.2.below n) = true -> RepF K B (φ.take n) (S.take n) H fs vs
 | [], vs, r, _ => r
 | f :: fs, vs, ⟨v, ws, e, h1, h2⟩, h => by
  simp only [tN, iD] at h;exact ⟨v, ws, e, h1.take h.1, RepF.take h2 h.2⟩
theorem RepVs.take {n : Nat} : ∀ {fs : List Vl} {vs : List L2.V}, RepVs K B φ S H fs vs -> (fs.all fun f => f.below n) = true -> RepVs K B (φ.take n) (S.take n) H fs vs
 | [], vs, r, _ => r
 | f :: fs, vs, ⟨v, ws, e, h1, h2⟩, h => by
  simp only [tN, iD] at h;exact ⟨v, ws, e, h1.take h.1, RepVs.take h2 h.2⟩
theorem GInv.take {n : Nat} (I : GInv K B φ S H) (h : ((S.take n).all fun c => c.below n) = true) : GInv K B (φ.take n) (S.take n) H where
 len := by rw [iE, iE, I.len]
 ok := fun m c a h1 h2 => by
  have hc := cD.mp h c (bI h1);rw [dW] at h1 h2
  by_cases hm : m < n
  ·rw [if_pos hm] at h1 h2
   have q := I.ok m c a h1 h2;have k : Kp (lZ B φ S) H (lZ B (φ.take n) (S.take n)) H := ⟨fun b o h nb => ⟨h, fun q => nb (by
    rcases q with q | q
    ·exact .inl q
    ·exact .inr (kM q))⟩, fun _ _ h => h⟩
   cases c with
   | dead => trivial
   | lst ds => obtain ⟨vs, e, r⟩ := q; exact ⟨vs, e, RepL.kp k ds vs r⟩
   | ins C fs => obtain ⟨dx, vs, e, r⟩ := q; exact ⟨dx, vs, e, r.take hc⟩
   | dct fs => obtain ⟨vs, e, r⟩ := q; exact ⟨vs, e, r.take hc⟩
   | lv xs => obtain ⟨vs, e, r⟩ := q; exact ⟨vs, e, r.take hc⟩
   | dki ks xs => obtain ⟨vs, e, r⟩ := q; exact ⟨vs, e, r.take hc⟩
   | dkt ks xs => obtain ⟨vs, e, r⟩ := q; exact ⟨vs, e, r.take hc⟩
  ·rw [if_neg hm] at h1; cases h1
 inj := fun i j d d' b h1 h2 h3 h4 h5 h6 => by
  rw [dW] at h1 h3 h5 h6
  by_cases hi : i < n
  ·by_cases hj : j < n
   ·rw [if_pos hi] at h1 h5
    rw [if_pos hj] at h3 h6;exact I.inj i j d d' b h1 h2 h3 h4 h5 h6
   ·rw [if_neg hj] at h3; cases h3
  ·rw [if_neg hi] at h1; cases h1
 blk := fun b h => I.blk b (kM h)
 btr := I.btr
theorem Ext.take {n : Nat} {φ0 : List Addr} {S0 : aO} {H0 : Hp} (x : Ext φ0 S0 H0 φ S H) (hn : φ0.length <= n) : Ext φ0 S0 H0 (φ.take n) (S.take n) H :=
 ⟨fun b o h nb => ⟨(x.old b o h nb).1, fun q => (x.old b o h nb).2 (kM q)⟩, fun m a h => by
  have := (aH.mp h).1;rw [yB (by omega)]
  exact x.ids m a h⟩
theorem Fin.trunc {r : Res Vl} {n : Nat} (f : Fin K W σ (RepV K) B φ S H (PH.trunc n r) Q) (I : GInv K B φ S H) (hn : n = S.length) : Fin K W σ (RepV K) B φ S H r Q := by
 have hl : φ.length <= n := by rw [hn, I.len]; exact bV _
 cases r with
 | ok d S' =>
  unfold PH.trunc at f;dsimp only at f;split at f
  ·rename_i h
   obtain ⟨h1, h2⟩ := Bool.and_eq_true_iff.mp h;exact fun φ' v H' I' X' r' => f (φ'.take n) v H' (I'.take h2) (X'.take hl) (r'.take h1)
  ·exact f.elim
 | err e S' =>
  unfold PH.trunc at f;dsimp only at f;split at f
  ·rename_i h
   refine fun φ' c x H' I' X' r' => f (φ'.take n) c x H' (I'.take h) (X'.take hl) ⟨r'.1, ?_⟩
   rcases r'.2 with h0 | ⟨d, vs, e1, e2, e3⟩
   ·exact .inl h0
   ·refine .inr ⟨d, vs, e1, e2, RepL.kp ⟨fun b o h nb => ⟨h, fun q => nb (by
     rcases q with q | q
     ·exact .inl q
     ·exact .inr (kM q))⟩, fun _ _ h => h⟩ _ _ e3⟩
  ·exact f.elim
 | stuck => exact f
theorem H6 {ds : List Vl} {vs : List L2.V} {N : List Str} (r : RepVs K B φ S H ds vs) : RepE K B φ S H (envOf N.length ds) (start N vs) := by
 have hl := r.len;have hg : ∀ {ds : List Vl} {vs : List L2.V}, RepVs K B φ S H ds vs -> ∀ (i : Nat) (d : Vl), ds[i]? = some d -> ∃ v, vs[i]? = some v /\ RepV K B φ S H d v := fun {ds} => by
  induction ds with
  | nil => intro vs r i d h; simp at h
  | cons d ds ih =>
   rintro vs ⟨v, ws, e, h1, h2⟩ i d' h
   subst e;cases i with
   | zero => simp at h; subst h; exact ⟨v, rfl, h1⟩
   | succ i =>
    obtain ⟨v', h3, h4⟩ := ih h2 i d' (by simpa using h)
    exact ⟨v', by simpa using h3, h4⟩
 unfold envOf L2.start;refine ⟨by simp [hl], fun i d h => ?_⟩
 by_cases hi : i < ds.length
 ·rw [aL (by simpa using hi)] at h
  rw [aL (by simp [hl, hi])]
  rw [bN] at h ⊢;cases q : ds[i]? with
  | none => rw [q] at h; cases h
  | some d' =>
   rw [q] at h;have : d' = d := by simpa using h
   subst this;obtain ⟨v, h1, h2⟩ := hg r i d' q;exact ⟨v, by rw [h1]; rfl, h2⟩
 ·rw [bB (by simpa using uF hi)] at h
  rw [List.getElem?_replicate] at h
  split at h <;> cases h
theorem Gr {mb : FS} {E : XK} {ds : List Vl} {vs : List L2.V} {N : List Str} (I : GInv K B φ S H) (r : RepVs K B φ S H ds vs) (f : Fin K (fun c x _ H => E c x H) [] (RepV K) B φ S H (cE (mb (envOf N.length ds) S)) Q) : lD K (fun c x _ H => E c x H) mb { nx := fun _ H' => Q .non H', rt := Q } (start N vs) H := by
 refine ⟨B, φ, S, envOf N.length ds, I, H6 r, ?_⟩
 unfold cE at f;cases q : mb (envOf N.length ds) S with
 | next ρ' S' => rw [q] at f; exact fun φ' σ' H' I' X' _ => f φ' _ H' I' X' rfl
 | ret d S' => rw [q] at f; exact f
 | brk ρ' S' => rw [q] at f; exact f.elim
 | cnt ρ' S' => rw [q] at f; exact f.elim
 | err e ρ' S' => rw [q] at f; exact fun φ' σ' c x H' I' X' _ r' => f φ' c x H' I' X' r'
 | stuck => rw [q] at f; exact f
end
section
variable {P : Program} {w : World} {K : aD} {mg : Str -> Option Value} {base : Heap}
structure Runs (md : FD) (n np : Nat) (mb : FS) : Prop where
 ok : ∀ ds S, ds.length = np -> md ds S = cE (mb (envOf n ds) S) \/ md ds S = trunc S.length (cE (mb (envOf n ds) S))
 no : ∀ ds S, ds.length ≠ np -> md ds S = .stuck
theorem Runs.plain {n np : Nat} {mb : FS} : Runs (run n np mb) n np mb := ⟨fun ds S h => .inl (by unfold run; rw [if_pos h]), fun ds S h => by unfold run; rw [if_neg h]⟩
theorem Runs.cut {n np : Nat} {mb : FS} : Runs (Ct n np mb) n np mb := ⟨fun ds S h => .inr (by unfold Ct; rw [if_pos h]), fun ds S h => by unfold Ct; rw [if_neg h]⟩
theorem yD {md : FD} {n np : Nat} {mb : FS} (R : Runs md n np mb) : ∀ vs H Q E, spF K md vs H Q E -> vs.length = np := fun vs H Q E ⟨B, φ, S, ds, I, r, f⟩ => by
 rw [r.len]
 by_cases h : ds.length = np
 ·exact h
 ·rw [R.no ds S h] at f; exact f.elim
theorem uK {md : FD} {np : Nat} {mb : FS} {N : List Str} (R : Runs md N.length np mb) {vs : List L2.V} {H : Hp} {Q : VK} {E : XK} (h : spF K md vs H Q E) : lD K (fun c x _ H => E c x H) mb { nx := fun _ H' => Q .non H', rt := Q } (start N vs) H := by
 obtain ⟨B, φ, S, ds, I, r, f⟩ := h
 by_cases hl : ds.length = np
 ·rcases R.ok ds S hl with e | e
  ·rw [e] at f; exact Gr I r f
  ·rw [e] at f; exact Gr I r (Fin.trunc f I rfl)
 ·rw [R.no ds S hl] at f; exact f.elim
theorem okF {x : Str} {st : Stmt} {N ps : List Str} {k : Nat} {md : FD} {mb : FS} (F : qQ K x st) (g : mg x = some (.ref (He.ga K x))) (S : FnScope N ps (defScope st)) (R : Runs md N.length ps.length mb)
  (bnd : ∀ (kV doc pm : Value) (an : Option Addr) (cdv ct : Value) (us : List Value), us.length = ps.length -> bindArgs (cZ x x (defArgs st) (defBody st) (defScope st) .none kV doc pm an cdv ct) ⟨us, []⟩ = pure (ps.zip us))
  (hbody : ∀ (cdv : Value) (A : Around) (outer : List Env) (s : Shared) (H : Hp) (E : XK), Room k (A.deeper (envOfC x (defScope st) s.heap.objs.size (He.ga K x) cdv)) ->
   PSs (cxOf (L2.CX P w) P w K mg base N x (defScope st) (He.ga K x) cdv A outer s H E) (defBody st) (lD K (fun c x _ H => E c x H) mb)) : sG P w K mg base (k + 1) x ps (spF K md) :=
 Mp F g S (yD R) bnd fun cdv A outer s H vs Q E hr h => ⟨_, hbody cdv A outer s H E hr, uK R h⟩
theorem okFM {C m q : Str} {st : Stmt} {N ps : List Str} {k : Nat} {md : FD} {mb : FS} (F : Hf K C m q st) (g : Meth K (He.ga K C) m (He.ma K (He.ga K C) m)) (S : FnScope N ps (defScope st)) (R : Runs md N.length ps.length mb)
  (bnd : ∀ (kV doc pm : Value) (an : Option Addr) (cdv ct : Value) (us : List Value), us.length = ps.length -> bindArgs (cZ m q (defArgs st) (defBody st) (defScope st) .none kV doc pm an cdv ct) ⟨us, []⟩ = pure (ps.zip us))
  (hbody : ∀ (cdv : Value) (A : Around) (outer : List Env) (s : Shared) (H : Hp) (E : XK), Room k (A.deeper (envOfC q (defScope st) s.heap.objs.size (He.ma K (He.ga K C) m) cdv)) ->
   PSs (cxOf (L2.CX P w) P w K mg base N q (defScope st) (He.ma K (He.ga K C) m) cdv A outer s H E) (defBody st) (lD K (fun c x _ H => E c x H) mb)) : OkMX P w K mg base (k + 1) C m ps (spF K md) :=
 Pi F g S (yD R) bnd fun cdv A outer s H vs Q E hr h => ⟨_, hbody cdv A outer s H E hr, uK R h⟩
end
section
variable {X : Cx} {W : WX} {e a b c o i : Expr} {es rest : List Expr} {pos p q p2 tpos apos cpos pos' : Pos} {x y z f C mn : Str} {K : aD} {ma mb mc mo mx : FE} {mt mt1 mu : FT} {mas : FA} {B : Addr -> Prop} {φ φ' : List Addr} {S S' : aO} {H H' : Hp} {σ : L2.St} {Q : VK} {m n : FS} {D : Ends} {ps : List Str} {md : FD} {j k : Nat}
def pJ (S : aO) (C mn : Str) : Vl -> Bool
 | .cel n => match S[n]? with
  | some (.ins C' fs) => decide (C' = C) && fs.all fun f => decide (f.1 ≠ mn)
  | _ => false
 | .dat (.ins C' ns _) => decide (C' = C) && ns.all fun f => decide (f ≠ mn)
 | _ => false
theorem RepF.miss : ∀ {fs : List (Str × Vl)} {vs : List (Str × L2.V)}, RepF K B φ S H fs vs -> (fs.all fun f => decide (f.1 ≠ mn)) = true -> vs.lookup mn = none
 | [], vs, r, _ => by cases r; rfl
 | d :: ds, vs, ⟨v, ws, e, h1, h2⟩, h => by
  subst e;simp only [tN, iD, decide_eq_true_eq] at h;rw [eP, show (mn == d.1) = false by simpa using Ne.symm h.1]
  exact RepF.miss h2 h.2
theorem FQ : ∀ {ns : List Str} {vs : List L2.V}, (ns.all fun f => decide (f ≠ mn)) = true -> (ns.zip vs).lookup mn = none
 | [], vs, _ => by simp
 | d :: ds, [], _ => by simp
 | d :: ds, v :: vs, h => by
  simp only [tN, iD, decide_eq_true_eq] at h;rw [rJ, eP, show (mn == d) = false by simpa using Ne.symm h.1]
  exact FQ h.2
theorem IC {d : Vl} {v : L2.V} (I : GInv K B φ S H) (r : RepV K B φ S H d v) (h : pJ S C mn d = true) : ∃ a dx fs, v = .ref a /\ H a = some (.ins (He.ga K C) dx fs) /\ fs.lookup mn = none := by
 cases d with
 | cel n =>
  obtain ⟨a, rfl, h1⟩ := r;have h : (match S[n]? with | some (.ins C' fs) => decide (C' = C) && fs.all fun f => decide (f.1 ≠ mn) | _ => false) = true := h
  split at h
  ·rename_i C' fs q
   obtain ⟨h2, h3⟩ := He.ba h;have e : C' = C := of_decide_eq_true h2;subst e;obtain ⟨dx, vs, h4, h5⟩ := I.ok n _ a q h1;exact ⟨a, dx, vs, rfl, h4, h5.miss h3⟩
  ·cases h
 | dat d =>
  cases d with
  | ins C' ns xs =>
   obtain ⟨h2, h3⟩ := He.ba (show (decide (C' = C) && ns.all fun f => decide (f ≠ mn)) = true from h)
   have e : C' = C := of_decide_eq_true h2;subst e;obtain ⟨a, dx, vs, rfl, _, h4, _⟩ := r;exact ⟨a, dx, _, rfl, h4, FQ h3⟩
  | _ => cases h
 | cels ns => cases h
 | scr ns => cases h
 | tc _ => cases h
def pG (C mn : Str) (md : FD) (o : FE) (as : FA) : FE := fun ρ S => (o ρ S).bind fun x S1 => if pJ S1 C mn x = true then (as ρ S1).bind fun ds S2 => md (x :: ds) S2 else .stuck
theorem Aa {pl : Sem Bool} (F : OkMX X.prog X.w X.K X.mg X.base j C mn ps (spF X.K md)) (hr : Room k X.A) (tk : Takes X W) (c : Cls X.K (He.ga X.K C)) (ho : PE X o (cW X.K W mo)) (ha : PA X (e :: es) (Ef X.K W mas)) (hjk : j <= k := by decide)
  (hst : starEach (e :: es) X.env = (false, eval e X.env) :: starEach es X.env := by rfl) (hpl : (backTo pos (starEach es X.env)).any (·.1) = false := by rfl)
  (ht : eval (.Call (.Attribute o mn apos) (e :: es) [] pos) X.env = eval o X.env >>= fun ov => standAt apos.atName >>= fun _ => holding [ov] (getMethod ov mn pl) >>= fun q => callWith pos q.1 q.2 (backTo pos (starEach (e :: es) X.env)) (backToKw pos (keywordEach [] X.env)) := by rfl) :
  PE X (.Call (.Attribute o mn apos) (e :: es) [] pos) (cW X.K W (pG C mn md mo mas)) := by
 obtain ⟨⟨fd, F, hb⟩, mt⟩ := F;refine ⟨fun pins s σ H Q I h => ?_⟩
 have h' : cW X.K W mo σ H fun v H1 => ∃ a dx fs, v = .ref a /\ H1 a = some (.ins (He.ga X.K C) dx fs) /\ fs.lookup mn = none /\ Ef X.K W mas σ H1 fun vs H2 => spF X.K md (.ref a :: vs) H2 Q (WE W σ) :=
  cU (k := fun x ρ S1 => if pJ S1 C mn x = true then (mas ρ S1).bind fun ds S2 => md (x :: ds) S2 else .stuck) h fun B φ S ρ d v H1 I E r f => by
   split at f
   ·rename_i hi
    obtain ⟨a, dx, fs, rfl, h1, h2⟩ := IC I r hi;exact ⟨a, dx, fs, rfl, h1, h2, jB I E f fun φ' S' ds vs H2 I2 X2 E2 r2 f2 => ⟨B, φ', S', d :: ds, I2, ⟨_, _, rfl, r.ext X2 I, r2⟩, f2.toE⟩⟩
   ·exact f.elim
 refine HY (pl := pl) (thn (ho.run pins s σ H _ I h') fun u s1 hh => ?_) ht
 obtain ⟨x, H1, I1, rx, a, dx, fs, rfl, ea, l, q⟩ := hh;obtain rfl : u = Value.ref a := rx;refine getmeth_ok I1 ea c mt l (xX (first := [.ref a]) (h₀ := X.base) I.ok.mod.kin mt.kp (thn (ha.run pos pins s1 σ H1 _ I1 q) fun us s2 hh => ?_) hst hpl)
 obtain ⟨vs, H2, I2, r, q2⟩ := hh;exact ⟨I2.kIn, run_fnS (us := .ref a :: us) (vs := .ref a :: vs) (E := WE W) F (hr.mono hjk) hb (passAt tk σ) I2 (.cons rfl r) q2⟩
theorem BY {pl : Sem Bool} (F : OkMX X.prog X.w X.K X.mg X.base j C mn ps (spF X.K md)) (hr : Room k X.A) (tk : Takes X W) (c : Cls X.K (He.ga X.K C)) (ho : PE X o (cW X.K W mo)) (hjk : j <= k := by decide)
  (ht : eval (.Call (.Attribute o mn apos) [] [] pos) X.env = eval o X.env >>= fun ov => standAt apos.atName >>= fun _ => holding [ov] (getMethod ov mn pl) >>= fun q => callWith pos q.1 q.2 (backTo pos (starEach [] X.env)) (backToKw pos (keywordEach [] X.env)) := by rfl) :
  PE X (.Call (.Attribute o mn apos) [] [] pos) (cW X.K W (pG C mn md mo aK)) := by
 obtain ⟨⟨fd, F, hb⟩, mt⟩ := F;refine ⟨fun pins s σ H Q I h => ?_⟩
 have h' : cW X.K W mo σ H fun v H1 => ∃ a dx fs, v = .ref a /\ H1 a = some (.ins (He.ga X.K C) dx fs) /\ fs.lookup mn = none /\ spF X.K md [.ref a] H1 Q (WE W σ) :=
  cU (k := fun x ρ S1 => if pJ S1 C mn x = true then md [x] S1 else .stuck) h fun B φ S ρ d v H1 I E r f => by
   split at f
   ·rename_i hi
    obtain ⟨a, dx, fs, rfl, h1, h2⟩ := IC I r hi;exact ⟨a, dx, fs, rfl, h1, h2, B, φ, S, [d], I, ⟨_, _, rfl, r, rfl⟩, f.toE⟩
   ·exact f.elim
 refine HY (pl := pl) (thn (ho.run pins s σ H _ I h') fun u s1 hh => ?_) ht
 obtain ⟨x, H1, I1, rx, a, dx, fs, rfl, ea, l, q⟩ := hh;obtain rfl : u = Value.ref a := rx;exact getmeth_ok I1 ea c mt l (Ij (first := [.ref a]) I1.kIn mt.kp (run_fnS (us := [.ref a]) (vs := [.ref a]) (E := WE W) F (hr.mono hjk) hb (passAt tk σ) I1 (.cons rfl .nil) q))
def Au (S : aO) (C f : Str) : Vl -> Option Vl
 | .cel n => match S[n]? with
  | some (.ins C' fs) => if C' = C then fs.lookup f else none
  | _ => none
 | .dat (.ins C' ns xs) => if C' = C then ((ns.zip xs).lookup f).map Vl.dat else none
 | _ => none
theorem RepF.look {d : Vl} : ∀ {fs : List (Str × Vl)} {vs : List (Str × L2.V)}, RepF K B φ S H fs vs -> fs.lookup f = some d -> ∃ v, vs.lookup f = some v /\ RepV K B φ S H d v
 | [], vs, r, h => by cases h
 | g :: fs, vs, ⟨v, ws, e, h1, h2⟩, h => by
  subst e;obtain ⟨g1, g2⟩ := g;rw [eP] at h ⊢;cases q : f == g1 with
  | true => rw [q] at h; cases h; exact ⟨v, rfl, h1⟩
  | false => rw [q] at h; exact RepF.look h2 h
theorem FU {Bk : Addr -> Prop} {d : PH.D} : ∀ {ns : List Str} {ds : List PH.D} {vs : List L2.V}, RepL K Bk H ds vs -> (ns.zip ds).lookup f = some d -> ∃ v, (ns.zip vs).lookup f = some v /\ Rep K Bk H d v
 | [], ds, vs, r, h => by simp at h
 | n :: ns, [], vs, r, h => by simp at h
 | n :: ns, d' :: ds, vs, ⟨v, ws, e, h1, h2⟩, h => by
  subst e;rw [rJ, eP] at h ⊢;cases q : f == n with
  | true => rw [q] at h; cases h; exact ⟨v, rfl, h1⟩
  | false => rw [q] at h; exact FU h2 h
def fY (C f : Str) (o : FE) : FE := fun ρ S => (o ρ S).bind fun x S1 => match Au S1 C f x with
 | some d => .ok d S1
 | none => .stuck
theorem Gq {x d : Vl} {v : L2.V} (I : GInv K B φ S H) (r : RepV K B φ S H x v) (h : Au S C f x = some d) : ∃ a dx fs u, v = .ref a /\ H a = some (.ins (He.ga K C) dx fs) /\ fs.lookup f = some u /\ RepV K B φ S H d u := by
 cases x with
 | cel n =>
  obtain ⟨a, rfl, h1⟩ := r
  replace h : (match S[n]? with | some (.ins C' fs) => if C' = C then fs.lookup f else none | _ => none) = some d := h
  split at h
  ·rename_i C' fs q
   split at h
   ·rename_i e
    subst e;obtain ⟨dx, vs, h4, h5⟩ := I.ok n _ a q h1;obtain ⟨u, h6, h7⟩ := h5.look h;exact ⟨a, dx, vs, u, rfl, h4, h6, h7⟩
   ·cases h
  ·cases h
 | dat d' =>
  cases d' with
  | ins C' ns xs =>
   replace h : (if C' = C then ((ns.zip xs).lookup f).map Vl.dat else none) = some d := h
   split at h
   ·rename_i e
    subst e;obtain ⟨a, dx, vs, rfl, _, h4, l⟩ := r;cases q : (ns.zip xs).lookup f with
    | none => rw [q] at h; cases h
    | some d0 =>
     rw [q] at h;cases h;obtain ⟨u, h6, h7⟩ := FU l q;exact ⟨a, dx, _, u, rfl, h4, h6, h7⟩
   ·cases h
  | _ => cases h
 | cels ns => cases h
 | scr ns => cases h
 | tc _ => cases h
theorem eK (c : Cls X.K (He.ga X.K C)) (n : NoAttr X.K (He.ga X.K C) f) (ho : PE X o (cW X.K W mo)) (hb : attributeBase o f X.env (eval o X.env) = eval o X.env := by rfl) : PE X (.Attribute o f pos) (cW X.K W (fY C f mo)) := dD (e_fld c n ho hb) fun σ H Q h =>
 cU (k := fun x _ S1 => match Au S1 C f x with | some d => .ok d S1 | none => .stuck) h fun B φ S ρ d v H1 I E r f' => by
  split at f'
  ·rename_i d' q
   obtain ⟨a, dx, fs, u, rfl, h1, h2, h3⟩ := Gq I r q;exact ⟨dx, fs, u, h1, h2, Fin.now f' I h3⟩
  ·exact f'.elim
def nJ (f : Str) (v : Vl) : List (Str × Vl) -> List (Str × Vl)
 | [] => [(f, v)]
 | (g, x) :: r => if g = f then (g, v) :: r else (g, x) :: nJ f v r
theorem RepF.put {d : Vl} {v : L2.V} (r : RepV K B φ S H d v) : ∀ {fs : List (Str × Vl)} {vs : List (Str × L2.V)}, RepF K B φ S H fs vs -> RepF K B φ S H (nJ f d fs) (putF f v vs)
 | [], vs, h => by cases h; exact ⟨v, [], rfl, r, rfl⟩
 | (g, x) :: fs, vs, ⟨u, ws, e, h1, h2⟩ => by
  subst e;unfold nJ putF;split
  ·exact ⟨v, ws, rfl, r, h2⟩
  ·exact ⟨u, _, rfl, h1, RepF.put r h2⟩
theorem RepF.len : ∀ {fs : List (Str × Vl)} {vs : List (Str × L2.V)}, RepF K B φ S H fs vs -> vs.length = fs.length
 | [], vs, h => by cases h; rfl
 | d :: ds, vs, ⟨v, ws, e, _, h2⟩ => by subst e; simp [RepF.len h2]
def Hk (S : aO) (C f : Str) (x d : Vl) : Option aO := match x with
 | .cel n => (match S[n]? with
  | some (.ins C' fs) => if C' = C /\ fs.length < 1000 then some (S.set n (.ins C (nJ f d fs))) else none
  | _ => none)
 | _ => none
def vC (C f : Str) (o v : FE) : FS := fun ρ S => (v ρ S).toS ρ fun d S1 => (o ρ S1).toS ρ fun x S2 => match Hk S2 C f x d with
 | some S3 => .next ρ S3
 | none => .stuck
theorem oQ {value : Expr} {mv : FE} (c : Cls X.K (He.ga X.K C)) (na : NoAttr X.K (He.ga X.K C) f) (ho : PE X o (cW X.K W mo)) (hv : PE X value (cW X.K W mv)) (hs : swapsWith value (some (.Attribute o f pos')) pos.line X.env = pure false := by rfl) : PS X (.Assign [.Attribute o f pos'] value pos) (lD X.K W (vC C f mo mv)) := fM (SU c na ho hv hs) fun D σ H h => by
 obtain ⟨B, φ, S, ρ, I, E, f'⟩ := h;refine cG I E f' fun φ1 S1 d1 v1 H1 I1 X1 E1 r1 f1 => cG I1 E1 f1 fun φ2 S2 d2 v2 H2 I2 X2 E2 r2 f2 => ?_
 split at f2
 ·rename_i S3 q
  unfold Hk at q;split at q
  ·rename_i n
   obtain ⟨a, rfl, h1⟩ := r2;split at q
   ·rename_i C' fs q1
    split at q
    ·rename_i hc
     obtain ⟨e, hl⟩ := hc;subst e;cases q;obtain ⟨dx, vs, h4, h5⟩ := I2.ok n _ a q1 h1;have X3 := Ext.put (H := H2) (o := .ins (He.ga X.K C') dx (putF f v1 vs)) (x := .ins C' (nJ f d1 fs)) q1 (by simp) h1 (by simp)
     have r1' := r1.ext X2 I1;refine ⟨dx, vs, h4, by rw [h5.len]; exact hl, f2 φ2 σ _ (I2.put q1 (by simp) h1 (by simp) ⟨dx, _, upd_same, (h5.put r1').ext X3 I2⟩) X3 (E2.ext X3 I2)⟩
    ·cases q
   ·cases q
  ·cases q
 ·exact f2.elim
end
section
variable {X : Cx} {W : WX} {e a b c o i : Expr} {es rest : List Expr} {pos p q p2 tpos apos cpos pos' : Pos} {x y z f mn : Str} {K : aD} {ma mb mc mo mx : FE} {mas : FA} {B : Addr -> Prop} {φ φ' : List Addr} {S S' : aO} {H H' : Hp} {σ : L2.St} {Q : VK} {m n : FS} {D : Ends} {ps : List Str} {md : FD} {j k : Nat}
theorem KZ {C fA : Addr} {fd : FuncData} {sp : Sp} {CX : CXT} {E : L2.St -> XK} {pins : List (Addr × Obj)} {s : Shared} {us : List Value} {vs : List L2.V} (M : Mk X.K C fA) (F : FnOk X.prog X.w X.K X.mg X.base CX k fA fd ps sp) (hr : Room (k + 1) X.A) (hb : Binds X.K fd ps [])
  (hx : PassesAt CX X σ (E σ)) (I : Inv X pins σ H s) (r : Vals vs us)
  (h : ∀ x dx, H x = none -> H dx = none -> dx ≠ x -> sp (.ref x :: vs) (upd (upd H dx (.own x)) x (.ins C dx [])) (fun v H2 => v = .non /\ Q (.ref x) H2) (E σ)) :
  wpAny (model X.prog X.w) X.A (call (.ref C) us) (EP X pins σ Q) X.xe s := by
 have hq := h (s.heap.objs.size + 1) s.heap.objs.size (I.hok.fresh (Nat.le_succ _)) (I.hok.fresh (bV _)) (Jz (Co _));have I2 := Inv.made (C := C) I;have r2 : Vals (V.ref (s.heap.objs.size + 1) :: vs) (Value.ref (s.heap.objs.size + 1) :: us) := .cons rfl r;have hl : (Value.ref (s.heap.objs.size + 1) :: us ++ []).length = ps.length := by
  have e := r2.length;rw [F.len _ _ _ _ hq] at e;rw [cP];exact e.symm
 have b := hb _ (Value.ref (s.heap.objs.size + 1) :: us) I2.kIn hl;rw [cP] at b;refine wpAny_call (make_map (f := fA) I.kIn M.makes M.init (beq_iff_eq.mp M.fn) (codeAny_mono (F.run _ X.stack _ _ ⟨Value.ref (s.heap.objs.size + 1) :: us, []⟩ (Value.ref (s.heap.objs.size + 1) :: us) _ _ (E σ) (hr.make C us [])
  (I2.env0.make C us []) b r2 hq) fun r s' hq' => ?_))
 cases r with
 | error e => exact hx pins _ _ e s' I2 hq'
 | ok fl =>
  cases fl with
  | ret u =>
   obtain ⟨v, H', I3, rv, ev, q3⟩ := I2.after hq';subst ev;exact ⟨rv, ⟨V.ref (s.heap.objs.size + 1), H', I3, rfl, q3⟩⟩
  | next => exact False.elim hq'
  | brk => exact False.elim hq'
  | cont => exact False.elim hq'
def ER : List (Str × Vl) -> Option (List PH.D)
 | [] => some []
 | (_, .dat d) :: r => match ER r with
  | some ds => some (d :: ds)
  | none => none
 | _ :: _ => none
theorem HN : ∀ {fs : List (Str × Vl)} {vs : List (Str × L2.V)} {ds : List PH.D}, ER fs = some ds -> RepF K B φ S H fs vs -> ∃ ws, vs = (fs.map (·.1)).zip ws /\ RepL K (lZ B φ S) H ds ws
 | [], vs, ds, h, r => by cases h; cases r; exact ⟨[], rfl, rfl⟩
 | (g, .dat d) :: fs, vs, ds, h, ⟨v, ws, e, h1, h2⟩ => by
  unfold ER at h;cases q : ER fs with
  | none => rw [q] at h; cases h
  | some es =>
   rw [q] at h;cases h;obtain ⟨us, e2, l⟩ := HN q h2;subst e e2;exact ⟨v :: us, rfl, v, us, rfl, h1, l⟩
 | (_, .cel _) :: fs, vs, ds, h, _ => by cases h
 | (_, .cels _) :: fs, vs, ds, h, _ => by cases h
 | (_, .scr _) :: fs, vs, ds, h, _ => by cases h
 | (_, .tc _) :: fs, vs, ds, h, _ => by cases h
def made (kp : Bool) (n : Nat) (r : Res Vl) : Res Vl := match r with
 | .ok (.dat .non) S => if kp then .ok (.cel n) S else (match S[n]? with
  | some (.ins C fs) => (match ER fs with
   | some ds => if ((S.take n).all fun c => c.below n) then .ok (.dat (.ins C (fs.map (·.1)) ds)) (S.take n) else .stuck
   | none => .stuck)
  | _ => .stuck)
 | .err e S => if ((S.take n).all fun c => c.below n) then .err e (S.take n) else .stuck
 | _ => .stuck
def JK (kp : Bool) (C : Str) (md : FD) (as : FA) : FE := fun ρ S => (as ρ S).bind fun ds S1 => made kp S1.length (md (.cel S1.length :: ds) (S1 ++ [.ins C []]))
theorem HR {n : Nat} {c : Cell} {a : Addr} (I : GInv K B φ S H) (hn : S[n]? = some c) (hc : c ≠ .dead) (ha : φ[n]? = some a) : ¬ lZ B (φ.take n) (S.take n) a := fun q => by
 rcases q with q | ⟨m, c', h1, h2, h3⟩
 ·exact I.blk a ⟨n, c, hn, hc, ha⟩ q
 ·rw [dW] at h1 h3
  by_cases hm : m < n
  ·rw [if_pos hm] at h1 h3
   have := I.inj n m c c' a hn hc h1 h2 ha h3;omega
  ·rw [if_neg hm] at h1; cases h1
theorem O5 {kp : Bool} {C : Str} {ds : List Vl} {vs : List L2.V} (I : GInv K B φ S H) (r : RepVs K B φ S H ds vs) (f : Fin K W σ (RepV K) B φ S H (made kp S.length (md (.cel S.length :: ds) (S ++ [.ins C []]))) Q) :
  ∀ x dx, H x = none -> H dx = none -> dx ≠ x -> spF K md (.ref x :: vs) (upd (upd H dx (.own x)) x (.ins (He.ga K C) dx [])) (fun v H2 => v = .non /\ Q (.ref x) H2) (WE W σ) := fun x dx nx ndx ne => by
 have I1 := I.new (o := .own x) ndx;have X1 := Ext.new (o := .own x) I ndx;have nx1 : upd H dx (.own x) x = none := by rw [upd_ne (Ne.symm ne)]; exact nx
 have X2 := Ext.newC (o := .ins (He.ga K C) dx []) (x := .ins C []) I1 nx1;have I2 : GInv K B (φ ++ [x]) (S ++ [.ins C []]) (upd (upd H dx (.own x)) x (.ins (He.ga K C) dx [])) := I1.newC nx1 fun _ => ⟨dx, [], upd_same, rfl⟩
 have X12 := X1.trans X2;refine ⟨B, φ ++ [x], S ++ [.ins C []], .cel S.length :: ds, I2, ⟨_, _, rfl, ⟨x, rfl, by rw [<- I.len]; exact nP⟩, RepVs.ext X2 I1 (RepVs.ext X1 I r)⟩, ?_⟩
 have hφ : φ.length <= S.length := by rw [I.len]; exact bV _
 cases q : md (.cel S.length :: ds) (S ++ [.ins C []]) with
 | stuck => rw [q] at f; exact f
 | err e S' =>
  rw [q] at f;unfold made at f;dsimp only at f;split at f
  ·rename_i h
   intro φ' c y H' I' X' r';refine f (φ'.take S.length) c y H' (I'.take h) ((X12.trans X').take hφ) ⟨r'.1, ?_⟩
   rcases r'.2 with h0 | ⟨d, us, e1, e2, e3⟩
   ·exact .inl h0
   ·refine .inr ⟨d, us, e1, e2, RepL.kp ⟨fun b o h nb => ⟨h, fun q => nb (by
     rcases q with q | q
     ·exact .inl q
     ·exact .inr (kM q))⟩, fun _ _ h => h⟩ _ _ e3⟩
  ·exact f.elim
 | ok d S' =>
  rw [q] at f;intro φ' v H' I' X' r';unfold made at f;split at f
  ·rename_i S0 e
   cases e;cases r';refine ⟨rfl, ?_⟩
   have hx' : φ'[S.length]? = some x := X'.ids _ _ (by rw [<- I.len]; exact nP)
   split at f
   ·exact f φ' _ H' I' (X12.trans X') ⟨x, rfl, hx'⟩
   ·split at f
    ·rename_i C' fs q1
     split at f
     ·rename_i ds' q2
      split at f
      ·rename_i h
       obtain ⟨dx', vs', h4, h5⟩ := I'.ok _ _ _ q1 hx';obtain ⟨ws, e2, l⟩ := HN q2 h5;subst e2;refine f (φ'.take S.length) _ H' (I'.take h) ((X12.trans X').take hφ) ⟨x, dx', ws, rfl, HR I' q1 (by simp) hx', h4, RepL.kp ⟨fun b o h nb => ⟨h, fun q => nb (by
        rcases q with q | q
        ·exact .inl q
        ·exact .inr (kM q))⟩, fun _ _ h => h⟩ _ _ l⟩
      ·exact f.elim
     ·exact f.elim
    ·exact f.elim
  ·rename_i e; cases e
  ·exact f.elim
theorem O9 {kp : Bool} {C : Str} (T : ClF X.K X.mg C) (F : OkMX X.prog X.w X.K X.mg X.base j C "__init__" ps (spF X.K md)) (hr : Room k X.A) (tk : Takes X W) (ha : PA X (e :: es) (Ef X.K W mas)) (hjk : j + 1 <= k := by decide) (hg : Gl X C := by rfl) (hdb : (C == ("__debug__" : Str)) = false := by decide)
  (he : starEach (e :: es) X.env = (false, eval e X.env) :: starEach es X.env := by rfl) (hpl : (backTo pos (starEach es X.env)).any (·.1) = false := by rfl) : PE X (.Call (.Name C p) (e :: es) [] pos) (cW X.K W (JK kp C md mas)) := by
 obtain ⟨⟨fd, F, hb⟩, mt⟩ := F;refine ⟨fun pins s σ H Q I h => ?_⟩
 refine wpAny_Call_Name_kw (ld_glob I hg T.glo ?_ hdb)
 have h' : Ef X.K W mas σ H fun vs H1 => ∀ x dx, H1 x = none -> H1 dx = none -> dx ≠ x -> spF X.K md (.ref x :: vs) (upd (upd H1 dx (.own x)) x (.ins (He.ga X.K C) dx [])) (fun v H2 => v = .non /\ Q (.ref x) H2) (WE W σ) :=
  cU (k := fun ds _ S1 => made kp S1.length (md (.cel S1.length :: ds) (S1 ++ [.ins C []]))) h fun B φ S ρ d v H1 I E r f => O5 I r f
 refine xX (h₀ := X.base) I.ok.mod.kin T.mak.kp (thn (ha.run pos pins s σ H _ I h') fun us s1 ⟨vs, H1, I1, r, q⟩ => ⟨I1.kIn, ?_⟩) he hpl
 exact KZ (E := WE W) T.mak F (hr.mono hjk) hb (passAt tk σ) I1 r q
def vD (cls : Str) : FS := fun ρ S => .err ⟨cls, [], []⟩ ρ S
theorem vH (F : XcF X.K X.mg x) (tk : Takes X W) (hc : X.calm = true := by rfl) (hg : Gl X x := by rfl) (hdb : (x == ("__debug__" : Str)) = false := by decide) : PS X (.Raise (some (.Call (.Name x p) [] [] pos)) none pos') (lD X.K W (vD x)) := fM (Pe F tk hc hg hdb) fun D σ H h => by
 obtain ⟨B, φ, S, ρ, I, E, f⟩ := h;exact f φ σ _ _ H I Ext.refl E ⟨rfl, .inl ⟨rfl, rfl⟩⟩
end
def SO (C : Addr) (f : Str) : Sp := fun vs H Q _ => ∃ a y, vs = [.ref a, y] /\ H a = some (exo a C none) /\ ∀ dx, H dx = none -> dx ≠ a -> Q .non (upd (upd H dx (exd dx [(f, y)])) a (exo a C (some dx)))
def SN (C : Addr) (f g : Str) : Sp := fun vs H Q _ => ∃ a y z, vs = [.ref a, y, z] /\ H a = some (exo a C none) /\ ∀ dx, H dx = none -> dx ≠ a -> Q .non (upd (upd (upd H dx (exd dx [(f, y)])) a (exo a C (some dx))) dx (exd dx [(g, z), (f, y)]))
structure XcA (P : Program) (w : World) (K : aD) (mg : Str -> Option Value) (base : Heap) (k : Nat) (x : Str) (ps : List Str) (sp : Sp) : Prop where
 cls : OexC K (He.ga K x)
 ini : mG K (.ref (He.ga K x)) "__init__" = some (some (.ref (He.ma K (He.ga K x) "__init__")))
 ty : mF K (.ref (He.ma K (He.ga K x) "__init__")) = some (.type "function")
 fn : ∃ fd, FnOk P w K mg base CX0 k (He.ma K (He.ga K x) "__init__") fd ps sp /\ Binds K fd ps []
 glo : mg x = some (.ref (He.ga K x))
section
variable {X : Cx} {W : WX} {e : Expr} {es : List Expr} {pos p pos' : Pos} {x f g : Str} {K : aD} {mas : FA} {B : Addr -> Prop} {φ φ' : List Addr} {S S' : aO} {H H' : Hp} {σ : L2.St} {ps : List Str} {j k : Nat}
def lG (cls : Str) (ns : List Str) (as : FA) : FS := fun ρ S => (as ρ S).toS ρ fun xs S1 => match xR xs with
 | some ds => if ds.length = ns.length then .err ⟨cls, ns, ds.reverse⟩ ρ S1 else .stuck
 | none => .stuck
theorem rT (F : XcA X.prog X.w X.K X.mg X.base j x ps (SO (He.ga X.K x) f)) (hr : Room k X.A) (tk : Takes X W) (ha : PA X (e :: es) (Ef X.K W mas)) (hjk : j + 1 <= k := by decide) (hc : X.calm = true := by rfl) (hg : Gl X x := by rfl) (hdb : (x == ("__debug__" : Str)) = false := by decide)
  (he : starEach (e :: es) X.env = (false, eval e X.env) :: starEach es X.env := by rfl) (hpl : (backTo pos (starEach es X.env)).any (·.1) = false := by rfl) : PS X (.Raise (some (.Call (.Name x p) (e :: es) [] pos)) none pos') (lD X.K W (lG x [f] mas)) := by
 obtain ⟨fd, F1, hb⟩ := F.fn;refine fM (ps_raise hc tk (pmk_oex F.cls F.ini F.ty F1 (hr.mono hjk) hb .nil (fun _ _ _ _ _ _ _ h => h.elim) hg F.glo ha hdb he hpl)) fun D σ H h => ?_
 obtain ⟨B, φ, S, ρ, I, E, f'⟩ := h;refine cG I E f' fun φ1 S1 ds vs H1 I1 X1 E1 r f1 => ?_
 split at f1
 ·rename_i xs q
  have l := A6 q r;split at f1
  ·rename_i hl
   match xs, hl with
   | [d], _ =>
    obtain ⟨v, ws, rfl, h1, h2⟩ := l;cases h2;refine ⟨by simp, fun a na => ⟨a, v, rfl, upd_same, fun dx ndx ne => ⟨rfl, dx, [(f, v)], upd_same, ?_, ?_, ?_⟩⟩⟩
    ·rw [upd_ne ne, upd_same]
    ·rw [upd_ne ne] at ndx; exact ndx
    ·have n1 : H1 dx = none := by rw [upd_ne ne] at ndx; exact ndx
     have eH : (upd (del (upd (upd (upd H1 a (exo a (He.ga X.K x) none)) dx (exd dx [(f, v)])) a (exo a (He.ga X.K x) (some dx))) a) dx (.xd [(f, v)])) = upd H1 dx (.xd [(f, v)]) := by
      funext b
      unfold upd del
      by_cases hb : b = dx
      ·rw [if_pos hb, if_pos hb]
      ·rw [if_neg hb, if_neg hb]
       by_cases hba : b = a
       ·rw [if_pos hba, hba]; exact na.symm
       ·rw [if_neg hba]; simp only [if_neg hba, if_neg hb]
     rw [eH];have X2 := Ext.new (o := .xd [(f, v)]) I1 n1;exact f1 φ1 σ _ _ _ (I1.new n1) X2 (E1.ext X2 I1) ⟨rfl, .inr ⟨dx, [v], rfl, upd_same, v, [], rfl, Rep.kp (X2.kp I1) _ _ h1, rfl⟩⟩
  ·exact f1.elim
 ·exact f1.elim
theorem AY (F : XcA X.prog X.w X.K X.mg X.base j x ps (SN (He.ga X.K x) f g)) (hr : Room k X.A) (tk : Takes X W) (ha : PA X (e :: es) (Ef X.K W mas)) (hjk : j + 1 <= k := by decide) (hc : X.calm = true := by rfl) (hg : Gl X x := by rfl) (hdb : (x == ("__debug__" : Str)) = false := by decide)
  (he : starEach (e :: es) X.env = (false, eval e X.env) :: starEach es X.env := by rfl) (hpl : (backTo pos (starEach es X.env)).any (·.1) = false := by rfl) : PS X (.Raise (some (.Call (.Name x p) (e :: es) [] pos)) none pos') (lD X.K W (lG x [g, f] mas)) := by
 obtain ⟨fd, F1, hb⟩ := F.fn;refine fM (ps_raise hc tk (pmk_oex F.cls F.ini F.ty F1 (hr.mono hjk) hb .nil (fun _ _ _ _ _ _ _ h => h.elim) hg F.glo ha hdb he hpl)) fun D σ H h => ?_
 obtain ⟨B, φ, S, ρ, I, E, f'⟩ := h;refine cG I E f' fun φ1 S1 ds vs H1 I1 X1 E1 r f1 => ?_
 split at f1
 ·rename_i xs q
  have l := A6 q r;split at f1
  ·rename_i hl
   match xs, hl with
   | [d, d2], _ =>
    obtain ⟨v, ws, rfl, h1, u, ws', rfl, h2, h3⟩ := l;cases h3;refine ⟨by simp, fun a na => ⟨a, v, u, rfl, upd_same, fun dx ndx ne => ⟨rfl, dx, [(g, u), (f, v)], ?_, upd_same, ?_, ?_⟩⟩⟩
    ·rw [upd_ne (Ne.symm ne), upd_same]
    ·rw [upd_ne ne] at ndx; exact ndx
    ·have n1 : H1 dx = none := by rw [upd_ne ne] at ndx; exact ndx
     have eH : (upd (del (upd (upd (upd (upd H1 a (exo a (He.ga X.K x) none)) dx (exd dx [(f, v)])) a (exo a (He.ga X.K x) (some dx))) dx (exd dx [(g, u), (f, v)])) a) dx (.xd [(g, u), (f, v)])) = upd H1 dx (.xd [(g, u), (f, v)]) := by
      funext b
      unfold upd del
      by_cases hb : b = dx
      ·rw [if_pos hb, if_pos hb]
      ·rw [if_neg hb, if_neg hb]
       by_cases hba : b = a
       ·rw [if_pos hba, hba]; exact na.symm
       ·rw [if_neg hba]; simp only [if_neg hba, if_neg hb]
     rw [eH];have X2 := Ext.new (o := .xd [(g, u), (f, v)]) I1 n1;exact f1 φ1 σ _ _ _ (I1.new n1) X2 (E1.ext X2 I1) ⟨rfl, .inr ⟨dx, [u, v], rfl, upd_same, u, [v], rfl, Rep.kp (X2.kp I1) _ _ h2, v, [], rfl, Rep.kp (X2.kp I1) _ _ h1, rfl⟩⟩
  ·exact f1.elim
 ·exact f1.elim
end
section
variable {X : Cx} {W : WX} {e a b c o i : Expr} {es rest : List Expr} {pos p q p2 tpos apos cpos pos' np : Pos} {x y z f mn : Str} {K : aD} {ma mb mc mo mx : FE} {mas : FA} {B : Addr -> Prop} {φ φ' : List Addr} {S S' : aO} {H H' : Hp} {σ : L2.St} {Q : VK} {m n : FS} {D : Ends} {cs : List Str}
def handle (cs : List Str) : List (Str × FS) -> Er -> Ev -> aO -> Out
 | [], e, ρ, S => .err e ρ S
 | (c, m) :: r, e, ρ, S => if e.cls = c then (match m ρ S with
   | .err _ _ _ => .stuck
   | o => o) else handle cs r e ρ S
inductive XIt where
 | c (v : L2.V) (d : PH.D) | f (n : Str)
def itR (a : Addr) (cls : Value) (d : Option Addr) (C : Addr) (i : Nat) : List XIt -> TA
 | [] => tNil
 | .c v _ :: r => tCons (tC v) (itR a cls d C i r)
 | .f n :: r => tCons (tXf a cls d C n (F9 i)) (itR a cls d C i r)
def itF (e : Er) : List XIt -> Option (List PH.D)
 | [] => some []
 | .c _ d :: r => match itF e r with
  | some ds => some (d :: ds)
  | none => none
 | .f n :: r => match (e.ns.zip e.xs).lookup n, itF e r with
  | some d, some ds => some (d :: ds)
  | _, _ => none
def Rf (cs : List Str) (m : FS) (c : Str) (k : Nat) (its : List XIt) : FS := fun ρ S => match m ρ S with
 | .err e ρ' S' => if (e.cls ∈ cs /\ c ∈ cs) /\ k < ρ'.length then (if e.cls = c then (match itF e its with
   | some ds => if ds.length <= sizeLine then .ret (.dat (.tup ds)) S' else .stuck
   | none => .stuck) else .err e ρ' S') else .stuck
 | o => o
end
structure Lim (K : aD) : Prop where
 pos : ∀ z m lo hi, limits.lookup z = some (m, lo, hi) -> jR K (He.ga K "LIMITS") z = some (some (.ref (GF K z))) /\ ∀ H, SqT K H (GF K z) [.int (m : Nat), .int lo, .int hi]
 neg : ∀ z, limits.lookup z = none -> jR K (He.ga K "LIMITS") z = some none
section
variable {X : Cx} {W : WX} {e a b c o i : Expr} {es rest : List Expr} {pos p q p2 tpos apos cpos pos' np : Pos} {x y z f mn C : Str} {K : aD} {ma mb mc mo mx : FE} {mas : FA} {B : Addr -> Prop} {φ φ' : List Addr} {S S' : aO} {H H' : Hp} {σ : L2.St} {Q : VK} {m n : FS} {D : Ends} {ps : List Str} {md : FD} {j k : Nat}
def gF (neg : Bool) (x : Vl) (S : aO) : Res Vl := match x with
 | .dat (.str z) => .ok (.dat (.bl (if neg then (limits.lookup z).isNone else (limits.lookup z).isSome))) S
 | _ => .stuck
def Ab (x : Vl) (S : aO) : Res Vl := match x with
 | .dat (.str z) => (match limits.lookup z with
  | some (m, lo, hi) => .ok (.dat (.tup [.int (m : Nat), .int lo, .int hi])) S
  | none => .stuck)
 | _ => .stuck
theorem MR (L : Lim K) {x : L2.V} {d : Vl} (I : GInv K B φ S H) (r : RepV K B φ S H d x) (f : Fin K W σ (RepV K) B φ S H (gF true d S) Q) : SD K (He.ga K "LIMITS") true x (.ref (He.ga K "LIMITS")) H Q := by
 unfold gF at f;split at f
 ·rename_i z
  cases r;cases q : limits.lookup z with
  | none =>
   refine ⟨rfl, none, L.neg z q, ?_⟩
   rw [q] at f;exact Fin.now f I rfl
  | some t =>
   obtain ⟨m, lo, hi⟩ := t;refine ⟨rfl, _, (L.pos z m lo hi q).1, ?_⟩
   rw [q] at f;exact Fin.now f I rfl
 ·exact f.elim
theorem L9 {py : Pos} (L : Lim X.K) (D : ∃ es n, KDict X.K X.w (He.ga X.K "LIMITS") es n) (g : X.mg "LIMITS" = some (.ref (He.ga X.K "LIMITS"))) (ha : PE X a (cW X.K W ma)) (hg : Gl X "LIMITS" := by rfl) (hm : behindInMarks .NotIn (.Name "LIMITS" py) = false := by rfl) : PT X (.Compare a [.NotIn] [.Name "LIMITS" py] pos) (xW X.K W (mB (m1 (gF true) ma))) :=
 Cj (RR (Eh D) ha (pe_glob (v := .ref (He.ga X.K "LIMITS")) hg g rfl) hm) fun σ H Q h => cU (k := fun x _ S => gF true x S) (ML h) fun B φ S ρ d v H1 I E r f => MR L I r f
theorem f_lim {py : Pos} (L : Lim X.K) (D : ∃ es n, KDict X.K X.w (He.ga X.K "LIMITS") es n) (g : X.mg "LIMITS" = some (.ref (He.ga X.K "LIMITS"))) (ha : PE X a (cW X.K W ma)) (hg : Gl X "LIMITS" := by rfl) (hs : PlainIx a := by intro _ _; rfl) : PE X (.Subscript (.Name "LIMITS" py) a pos) (cW X.K W (m1 Ab ma)) :=
 dD (pe_ix (TM D) (pe_glob (v := .ref (He.ga X.K "LIMITS")) hg g rfl) ha hs) fun σ H Q h => cU (k := fun x _ S => Ab x S) h fun B φ S ρ d v H1 I E r f => by
  unfold Ab at f;split at f
  ·rename_i z
   cases r;split at f
   ·rename_i m lo hi q
    obtain ⟨h1, h2⟩ := L.pos z m lo hi q;exact ⟨rfl, _, .ref (GF X.K z), h1, rfl, Fin.now f I ⟨_, _, rfl, h2 H1, _, _, rfl, rfl, _, _, rfl, rfl, _, _, rfl, rfl, rfl⟩⟩
   ·exact f.elim
  ·exact f.elim
theorem LQ {sp : Sp} (F : OkMX X.prog X.w X.K X.mg X.base j C "__len__" ps sp) (hr : Room (j + 1) X.A) : CallR X (.builtin "len") (c1 (rLenO (He.ga X.K C) sp E0)) := by
 intro pins s σ H xs us Q I r h;obtain ⟨⟨fd, F, hb⟩, mt⟩ := F
 match xs, h with
 | [x], h =>
  cases x with
  | ref a =>
   obtain ⟨dx, fs, ha, h⟩ := h;cases r with
   | cons r1 r2 =>
    cases r1;cases r2;obtain ⟨mA, J, _⟩ := ins_get I.hok ha;obtain ⟨od, J, _⟩ := J.look;obtain ⟨fm, hF⟩ := I.fr;refine PySem.W.len_K hF I.ok.mod.kin J mt.at_ mt.fn ?_
    have e := I.env0;have hl := F.len _ _ _ _ h;have b := hb s [.ref a] I.kIn (by simpa using hl)
    have run := F.run X.A.in1 X.stack s H ⟨[.ref a], []⟩ [.ref a] [.ref a] _ E0 hr.in1 ⟨e.frames, e.mod, e.bs, e.bsz, e.funs, e.frf, e.hok, e.bare⟩ (by simpa using b) (.cons rfl .nil) h
    refine wpAny_call (codeAny_mono run fun q s' hq => ?_)
    cases q with
    | error e => obtain ⟨_, _, _, _, _, _, _, _, _, _, _, _, z⟩ := hq; exact z.elim
    | ok fl =>
     cases fl with
     | ret w =>
      obtain ⟨z, H', I', rz, hz⟩ := I.after hq;cases z with
      | int n =>
       obtain ⟨tk, rfl⟩ := rz;exact ⟨⟨hz.1.1, by have := hz.1.2; omega⟩, .int n, H', I'.tok _, ⟨_, rfl⟩, hz.2⟩
      | _ => exact hz.elim
     | next => exact False.elim hq
     | brk => exact False.elim hq
     | cont => exact False.elim hq
  | _ => exact h.elim
def T7 (r : Res Vl) : Res Vl := match r with
 | .ok (.dat (.int n)) S => if 0 <= n /\ n < 2 ^ 62 then .ok (.dat (.int n)) S else .stuck
 | _ => .stuck
def E5 (C : Str) (md : FD) (x : Vl) (S : aO) : Res Vl := if pJ S C "__len__" x = true then T7 (md [x] S) else .stuck
theorem UM (hm : X.mg "len" = none) (F : OkMX X.prog X.w X.K X.mg X.base j C "__len__" ps (spF X.K md)) (hr : Room k X.A) (ha : PE X a (cW X.K W ma)) (hjk : j + 1 <= k := by decide) (hg : Gl X "len" := by rfl) (hs : starEach [a] X.env = [(false, eval a X.env)] := by rfl) : PE X (.Call (.Name "len" p) [a] [] pos) (cW X.K W (m1 (E5 C md) ma)) :=
 dD (pe_callB (LQ F (hr.mono hjk)) hg hm boot_len (pa_cons ha pa_nil hs) (he := hs)) fun σ H Q h => cU (k := fun x _ S => E5 C md x S) h fun B φ S ρ d v H1 I E r f => by
  unfold E5 at f;split at f
  ·rename_i hi
   obtain ⟨a, dx, fs, rfl, h1, h2⟩ := IC I r hi;refine ⟨dx, fs, h1, B, φ, S, [d], I, ⟨_, _, rfl, r, rfl⟩, ?_⟩
   unfold T7 at f;split at f
   ·rename_i n S' q
    rw [q];split at f
    ·rename_i hn
     intro φ' v H' I' X' r';cases r';exact ⟨hn, f φ' _ H' I' X' rfl⟩
    ·exact f.elim
   ·exact f.elim
  ·exact f.elim
def ON (r : Res Vl) : Res Vl := match r with
 | .ok (.dat (.bl n)) S => .ok (.dat (.bl n)) S
 | _ => .stuck
theorem F2 {n : Int} {x : Str} (h : ∃ t, X.mg x = some (.int n t)) (hg : Gl X x := by rfl) (hd : (x == ("__debug__" : Str)) = false := by decide) : PE X (.Name x pos) (cW X.K W (mC (.int n))) := O7 (UP h hg hd) fun _ _ => rfl
end
section
variable {P : Program} {w : World} {K : aD} {mg : Str -> Option Value} {base : Heap}
def uI : FD := fun _ _ => .stuck
theorem sR {x : Str} {st : Stmt} {N ps : List Str} {k : Nat} (F : qQ K x st) (g : mg x = some (.ref (He.ga K x))) (S : FnScope N ps (defScope st))
  (bnd : ∀ (kV doc pm : Value) (an : Option Addr) (cdv ct : Value) (us : List Value), us.length = ps.length -> bindArgs (cZ x x (defArgs st) (defBody st) (defScope st) .none kV doc pm an cdv ct) ⟨us, []⟩ = pure (ps.zip us)) : sG P w K mg base (k + 1) x ps (spF K uI) :=
 Mp F g S (fun vs H Q E ⟨_, _, _, _, _, _, f⟩ => f.elim) bnd fun cdv A outer s H vs Q E hr ⟨_, _, _, _, _, _, f⟩ => f.elim
end
theorem K7 {K : aD} {a : Addr} {vs : List V} (h : Hh K a vs = true) (H : Hp) : SqT K H a vs := by
 unfold Hh at h;cases q : K.lookup a with
 | none => rw [q] at h; cases h
 | some o =>
  obtain ⟨oc, od, dt, osl⟩ := o;rw [q] at h;cases oc with
  | type c =>
   cases dt with
   | seq its n =>
    obtain ⟨h1, h2⟩ := He.ba (show (decide (c = "tuple") && (decide (its.size <= sizeLine) && He.relAll vs its.toList)) = true from h)
    obtain ⟨h3, h4⟩ := He.ba h2;exact .inr ⟨_, its, n, q, congrArg Value.type (of_decide_eq_true h1), rfl, of_decide_eq_true h3, He.relAll_ok h4⟩
   | _ => cases h
  | _ => cases dt <;> cases h
theorem LZ {fa : List He.Fa} {fn : List He.DefD} {ts : List He.Tab} {w : World} {K : aD} (c : He.SaysT fa fn ts w K) (i : Nat) {t : He.Tab} (h : ts[i]? = some t := by rfl) : He.dicW K (t.1 K) = some (He.keysIn w.params t.2) := by
 have e : ts.map (fun t => He.dicW K (t.1 K)) = ts.map fun t => some (He.keysIn w.params t.2) := congrArg (fun z : He.AlT => z.2) c
 have e2 : (ts.map fun t => He.dicW K (t.1 K))[i]? = (ts.map fun t => some (He.keysIn w.params t.2))[i]? := by rw [e]
 rw [bN, bN, h] at e2;exact Option.some.inj e2
theorem Dj {P : Params} {z : Str} : ∀ {l : List DictEntry} {ks : List Str}, l.map He.keyOf = He.keysIn P ks -> z ∉ ks -> (l.find? (·.key.isStr z) = none) /\ l.any (·.refKey) = false
 | [], _, _, _ => ⟨rfl, rfl⟩
 | e :: r, [], h, _ => by cases h
 | e :: r, k :: ks, h, hz => by
  have h1 : He.keyOf e :: r.map He.keyOf = some (k, PyData.keyHash P k) :: He.keysIn P ks := h
  injection h1 with h2 h3
  obtain ⟨i1, i2⟩ := Dj h3 (fun m => hz (aJ _ m))
  unfold He.keyOf at h2;split at h2
  ·rename_i x t q
   obtain ⟨h5, h6⟩ := Prod.mk.inj (Option.some.inj h2);have nz : e.key.isStr z = false := by
    rw [q]
    show decide (x = z) = false
    exact decide_eq_false fun e => hz (by rw [<- e, h5]; exact aT ..)
   constructor
   ·rw [List.find?_cons, nz]; exact i1
   ·rw [AC, i2, HZ]
    show e.refKey = false
    unfold DictEntry.refKey;rw [q]
  ·cases h2
theorem Kj {K : aD} {P : Params} {a : Addr} {ks : List Str} {z : Str} (h : He.dicW K a = some (He.keysIn P ks)) (hz : z ∉ ks) : jR K a z = some none := by
 unfold He.dicW at h;cases q : K.lookup a with
 | none => rw [q] at h; cases h
 | some o =>
  obtain ⟨oc, od, dt, osl⟩ := o;rw [q] at h;cases oc with
  | type c =>
   cases od with
   | none =>
    cases dt with
    | dict es n =>
     have h1 : (match decide (c = "dict") && (osl.isEmpty && !(a == sysModules)) with
      | true => some (es.toList.map He.keyOf)
      | false => none) = some (He.keysIn P ks) := h
     cases y : decide (c = "dict") && (osl.isEmpty && !(a == sysModules)) with
     | false => rw [y] at h1; cases h1
     | true =>
      rw [y] at h1;obtain ⟨i1, i2⟩ := Dj (Option.some.inj h1) hz;unfold jR;rw [q]
      show (match es.toList.find? (·.key.isStr z) with | some e => some (some e.val) | none => if es.toList.any (·.refKey) then none else some none) = some none
      rw [i1, i2];rfl
    | _ => cases h
   | some b => cases dt <;> cases h
  | _ => cases od <;> cases dt <;> cases h
theorem Aq {κ β : Type} [BEq κ] [LawfulBEq κ] {z : κ} {v : β} : ∀ {l : List (κ × β)}, l.lookup z = some v -> (z, v) ∈ l
 | [], h => by cases h
 | (k, u) :: r, h => by
  rw [eP] at h;cases e : z == k with
  | true =>
   rw [e] at h;have e2 : z = k := eq_of_beq e;have e3 : u = v := Option.some.inj h;rw [e2, e3];exact aT ..
  | false =>
   rw [e] at h;exact aJ _ (Aq h)
theorem lookup_none {κ β : Type} [BEq κ] [LawfulBEq κ] {z : κ} : ∀ {l : List (κ × β)}, l.lookup z = none -> z ∉ l.map (·.1)
 | [], _ => by simp
 | (k, u) :: r, h => by
  rw [eP] at h;cases e : z == k with
  | true => rw [e] at h; cases h
  | false =>
   rw [e] at h;have ne : z ≠ k := by simpa using e
   intro m;rcases bM.mp m with m | m
   ·exact ne m
   ·exact lookup_none h m
theorem T5 {K : aD} {P : Params} (h : limB K = true) (d : He.dicW K (He.ga K "LIMITS") = some (He.keysIn P (limits.map (·.1)))) : Lim K where
 pos := fun z m lo hi e => by
  obtain ⟨h1, h2⟩ := He.ba (cD.mp h (z, m, lo, hi) (Aq e));exact ⟨He.eqO_ok h1, K7 h2⟩
 neg := fun z e => Kj d (lookup_none e)
theorem law_start {K : aD} {md : FD} {n : Nat} (h : ∀ ns : List Int, ns.length <= n -> ∃ S, md [.scr ns] [] = .ok (.dat (.bl true)) S) (H : Hp) (a : Addr) (ns : List Int) (hl : ns.length <= n) (hO : Only H) (hS : SqL K H a (ns.map V.int)) : spF K md [.ref a] H (fun v _ => v = .bl true) fun _ _ _ => False := by
 obtain ⟨S, e⟩ := h ns hl;refine ⟨fun _ => False, [], [], [.scr ns], ⟨rfl, fun n c a h => by simp at h, fun n m c c' a h => by simp at h, fun a ⟨n, c, h, _⟩ => by simp at h, fun a h => h.elim⟩, ⟨_, _, rfl, ⟨a, rfl, ?_⟩, rfl⟩, ?_⟩
 ·rcases hS with (h | ⟨o, h⟩) | h
  ·rcases hO a with q | ⟨o, xs, q⟩
   ·rw [h] at q; cases q
   ·rw [h] at q; cases q
  ·exact .inl ⟨o, h⟩
  ·exact .inr (.inr h)
 ·rw [e]
  exact fun φ' v H' _ _ r => r
theorem Pj {K : aD} {C : Addr} (q : Sj K C = true) : ∃ nm q N bs bm sn sub ab col dd k0 k1 k2 k3 k5, K.lookup C = some (excClassObj nm q C N bs bm true sn sub ab col dd k0 k1 k2 k3 k5 "ValueError.__new__") /\ PySem.HandSPX.refsVE bm = true := by
 unfold Sj at q;split at q
 ·rename_i dd cd sl ho
  split at q
  ·rename_i C' bm k0 k1 k2 k3 n k5 hm hs
   simp only [iD, beq_iff_eq, Bool.not_eq_true'] at q;obtain ⟨⟨⟨⟨rfl, rfl⟩, hdel⟩, hdi⟩, hbm⟩ := q;obtain ⟨nm, bs, mro, ns, qn, hd, sn, sub, ab, col, del⟩ := cd;dsimp only at hm hdel hdi;subst hm hdel hdi;have hsl : sl = #[k0, k1, k2, k3, some (.builtin "ValueError.__new__"), k5] := by
    obtain ⟨l⟩ := sl;simp only at hs;rw [hs]
   subst hsl;exact ⟨nm, qn, ns, bs, bm, sn, sub, ab, col, dd, k0, k1, k2, k3, k5, ho, hbm⟩
  ·cases q
 ·cases q
structure XaF (K : aD) (mg : Str -> Option Value) (x : Str) (fs : List Str) : Prop where
 cls : OexC K (He.ga K x)
 ini : mG K (.ref (He.ga K x)) "__init__" = some (some (.ref (He.ma K (He.ga K x) "__init__")))
 ty : mF K (.ref (He.ma K (He.ga K x) "__init__")) = some (.type "function")
 glo : mg x = some (.ref (He.ga K x))
 rd : XfC K (He.ga K x)
 no : ∀ f ∈ fs, mG K (.ref (He.ga K x)) f = some none
theorem Ln {K : aD} {mg : Str -> Option Value} {x : Str} {fs : List Str} (h : xaB K x fs = true) (g : mg x = some (.ref (He.ga K x))) : XaF K mg x fs := by
 obtain ⟨h1, h⟩ := He.ba h;obtain ⟨h2, h⟩ := He.ba h;obtain ⟨h3, h⟩ := He.ba h;obtain ⟨h4, h⟩ := He.ba h;obtain ⟨h5, h⟩ := He.ba h;obtain ⟨h6, h⟩ := He.ba h;obtain ⟨h7, h⟩ := He.ba h;obtain ⟨h8, h9⟩ := He.ba h;exact ⟨⟨Pj h1, of_decide_eq_true h2, of_decide_eq_true h3, of_decide_eq_true h4, h5⟩, of_decide_eq_true h6, of_decide_eq_true h7, g, xfB_ok h8, fun f hf => of_decide_eq_true (cD.mp h9 f hf)⟩
section
variable {P : Program} {w : World} {K : aD} {mg : Str -> Option Value} {base : Heap}
theorem MF {C : Addr} {f a b : Str} : ∀ vs H Q E, SO C f vs H Q E -> vs.length = [a, b].length := fun vs H Q E ⟨_, _, e, _⟩ => by rw [e]; rfl
theorem ME {C : Addr} {f g a b c : Str} : ∀ vs H Q E, SN C f g vs H Q E -> vs.length = [a, b, c].length := fun vs H Q E ⟨_, _, _, e, _⟩ => by rw [e]; rfl
theorem Mq {x m q : Str} {fs : List Str} {st : Stmt} {N ps : List Str} {k : Nat} {sp : Sp} (T : XaF K mg x fs) (F : Hf K x "__init__" q st) (S : FnScope N ps (defScope st)) (len : ∀ vs H Q E, sp vs H Q E -> vs.length = ps.length)
  (bnd : ∀ (kV doc pm : Value) (an : Option Addr) (cdv ct : Value) (us : List Value), us.length = ps.length -> bindArgs (cZ "__init__" q (defArgs st) (defBody st) (defScope st) .none kV doc pm an cdv ct) ⟨us, []⟩ = pure (ps.zip us))
  (hbody : ∀ (cdv : Value) (A : Around) (outer : List Env) (s : Shared) (H : Hp) (vs : List V) (Q : VK) (E : XK), Room k (A.deeper (envOfC q (defScope st) s.heap.objs.size (He.ma K (He.ga K x) "__init__") cdv)) -> sp vs H Q E ->
   ∃ t, PSs (cxOf CX0 P w K mg base N q (defScope st) (He.ma K (He.ga K x) "__init__") cdv A outer s H E).nox (defBody st) t /\ t { nx := fun _ H' => Q .non H', rt := Q } (start N vs) H) : XcA P w K mg base (k + 1) x ps sp := by
 obtain ⟨fd, F⟩ := F;refine ⟨T.cls, T.ini, T.ty, ⟨fd, FunD.ok F S len fun cdv A outer s H vs Q E hr hsp => ?_, F.bindsN bnd⟩, T.glo⟩
 obtain ⟨t, h, q⟩ := hbody cdv A outer s H vs Q E hr hsp;exact ⟨t, h.nox, q⟩
end
section
variable {X : Cx} {W : WX} {e a b c o i : Expr} {es rest : List Expr} {pos p q p2 tpos apos cpos pos' np : Pos} {x y z f mn C : Str} {K : aD} {ma mb mc mo mx : FE} {mas : FA} {B : Addr -> Prop} {φ φ' : List Addr} {S S' : aO} {H H' : Hp} {σ : L2.St} {Q : VK} {m n : FS} {D : Ends} {ps : List Str} {md : FD} {j k : Nat}
theorem UG {i j : Nat} {px py pt : Pos} {kt k2 pt2} (hc : X.calm = true) (hN : X.N.Nodup) (hi : X.N[i]? = some x) (hj : X.N[j]? = some y) (hij : i ≠ j)
  (hx : X.env.scope.names.lookup x = some .local) (hy : X.env.scope.names.lookup y = some .local) (ha : PE X a (cW X.K W ma)) (hb : PE X b (cW X.K W mb))
  (hw : swappedStores [.Tuple [.Name x px, .Name y py] kt pt] (.Tuple [a, b] k2 pt2) X.env = pure (some [x, y]))
  (hs : swapsWithSole [.Tuple [.Name x px, .Name y py] kt pt] (.Tuple [a, b] k2 pt2) pos.line X.env = pure false := by rfl) (h1 : starEach [a, b] X.env = (false, eval a X.env) :: starEach [b] X.env := by rfl) (h2 : starEach [b] X.env = (false, eval b X.env) :: starEach [] X.env := by rfl) :
  PS X (.Assign [.Tuple [.Name x px, .Name y py] kt pt] (.Tuple [a, b] k2 pt2) pos) (lD X.K W (mPar i j ma mb)) := fM (ps_par hc hN hi hj hij hx hy (pa_cons ha (pa_cons hb pa_nil h2) h1) hw hs) fun D σ H h => by
 obtain ⟨B, φ, S, ρ, I, E, f⟩ := h;exact cG I E f fun φ1 S1 d1 v1 H1 I1 X1 E1 r1 f1 => cG I1 E1 f1 fun φ2 S2 d2 v2 H2 I2 X2 E2 r2 f2 => ⟨_, _, rfl, f2 φ2 _ H2 I2 Ext.refl ((E2.set (r1.ext X2 I1) i).set r2 j)⟩
def RW (n : Nat) : List PH.D := (aV n).map fun (k : Nat) => PH.D.int (((n : Nat) : Int) - 1 - (k : Int))
def Sq (a : FE) : FI := fun ρ S => (a ρ S).bind fun x S1 => match x with
 | .dat (.int j) => if -(2 ^ 62) <= j /\ j < 2 ^ 62 then .ok (RW j.toNat) S1 else .stuck
 | _ => .stuck
end
theorem rd_X1 {K : aD} {mg : Str -> Option Value} {x f : Str} {fs : List Str} {a : Addr} {y : V} {H : Hp} {Q : VK} {D : Ends} (T : XaF K mg x fs) (hf : f ∈ fs) (ha : H a = some (exo a (He.ga K x) none)) (hD : ∀ σ H, D.nx σ H = Q .non H) (h : ∀ dx, H dx = none -> dx ≠ a -> Q .non (upd (upd H dx (exd dx [(f, y)])) a (exo a (He.ga K x) (some dx)))) :
  tOst K f (F9 0) (F9 1) D [some (.ref a), some y] H := ⟨a, He.ga K x, rfl, T.cls, T.no f hf, .inl ⟨ha, fun dx n ne => by rw [hD]; exact h dx n ne⟩⟩
theorem rd_X2 {K : aD} {mg : Str -> Option Value} {x f g : Str} {fs : List Str} {a : Addr} {y z : V} {H : Hp} {Q : VK} {D : Ends} (T : XaF K mg x fs) (hf : f ∈ fs) (hg : g ∈ fs) (ha : H a = some (exo a (He.ga K x) none)) (hD : ∀ σ H, D.nx σ H = Q .non H) (h : ∀ dx, H dx = none -> dx ≠ a -> Q .non (upd (upd (upd H dx (exd dx [(f, y)])) a (exo a (He.ga K x) (some dx))) dx (exd dx [(g, z), (f, y)]))) :
  tSeq (tOst K f (F9 0) (F9 1)) (tOst K g (F9 0) (F9 2)) D [some (.ref a), some y, some z] H :=
 ⟨a, He.ga K x, rfl, T.cls, T.no f hf, .inl ⟨ha, fun dx n ne => ⟨a, He.ga K x, rfl, T.cls, T.no g hg, .inr ⟨dx, [(f, y)], upd_same, by rw [upd_ne ne, upd_same], by simp, by rw [hD]; exact h dx n ne⟩⟩⟩⟩
theorem Rp {k : Nat} {A : Around} (r : Room k A) : A.units + 65 < cLine := by have := r.un; omega
section
variable {α β : Type} {a b c o i e : FE} {r : FA} {t u : FT} {m n : FS} {ρ : Ev} {S : aO} {x y z : Vl} {f g : Vl -> Vl -> aO -> Res Vl} {h : Vl -> aO -> Res Vl} {md : FD}
theorem eF {d : α} {k : α -> aO -> Res β} : (Res.ok d S).bind k = k d S := rfl
theorem CQ {x : Er} {k : α -> aO -> Res β} : (Res.err x S : Res α).bind k = .err x S := rfl
theorem lN {d : α} {k : α -> aO -> Out} : (Res.ok d S).toS ρ k = k d S := rfl
theorem Kw {x : Er} {k : α -> aO -> Out} : (Res.err x S : Res α).toS ρ k = .err x ρ S := rfl
theorem Rr {k : Nat} : aC k ρ S = (match lk ρ k with | some d => .ok d S | none => .stuck) := rfl
theorem g_c {d : D} : mC d ρ S = .ok (.dat d) S := rfl
def kOp1 (f : Vl -> Vl -> aO -> Res Vl) (b : FE) (ρ : Ev) (x : Vl) (S : aO) : Res Vl := (b ρ S).bind (f x)
theorem g_op : aP f a b ρ S = (a ρ S).bind (kOp1 f b ρ) := rfl
theorem g_op1 : kOp1 f b ρ x S = (b ρ S).bind (f x) := rfl
theorem g_1 : m1 h a ρ S = (a ρ S).bind h := rfl
theorem g_B : mB a ρ S = (a ρ S).bind unB := rfl
theorem g_unB {k : Bool} : unB (.dat (.bl k)) S = .ok k S := rfl
theorem Na : gQ a ρ S = (a ρ S).bind Bj := rfl
def TL (u : FT) (ρ : Ev) (c : Bool) (S : aO) : Res Bool := if c = true then u ρ S else .ok false S
def kOr (u : FT) (ρ : Ev) (c : Bool) (S : aO) : Res Bool := if c = true then .ok true S else u ρ S
def kNot (c : Bool) (S : aO) : Res Bool := .ok (!c) S
theorem g_and : B9 t u ρ S = (t ρ S).bind (TL u ρ) := rfl
theorem g_or : BS t u ρ S = (t ρ S).bind (kOr u ρ) := rfl
theorem Ru : oK t ρ S = (t ρ S).bind kNot := rfl
theorem Nh : TL u ρ true S = u ρ S := rfl
theorem Ni : TL u ρ false S = .ok false S := rfl
theorem QE : kOr u ρ true S = .ok true S := rfl
theorem QF : kOr u ρ false S = u ρ S := rfl
theorem Tx {c : Bool} : kNot c S = .ok (!c) S := rfl
def NK (b : FE) (ρ : Ev) (x : Vl) (S : aO) : Res Vl := match x with
 | .dat (.bl c) => if c = true then b ρ S else .ok (.dat (.bl false)) S
 | _ => .stuck
def TF (b : FE) (ρ : Ev) (x : Vl) (S : aO) : Res Vl := match x with
 | .dat (.bl c) => if c = true then .ok (.dat (.bl true)) S else b ρ S
 | _ => .stuck
theorem UE : pH a b ρ S = (a ρ S).bind (NK b ρ) := rfl
theorem g_orV : mOrV a b ρ S = (a ρ S).bind (TF b ρ) := rfl
theorem L3 : NK b ρ (.dat (.bl true)) S = b ρ S := rfl
theorem L5 : NK b ρ (.dat (.bl false)) S = .ok (.dat (.bl false)) S := rfl
theorem Nf : TF b ρ (.dat (.bl true)) S = .ok (.dat (.bl true)) S := rfl
theorem Ng : TF b ρ (.dat (.bl false)) S = b ρ S := rfl
def kNV (k : Bool) (S : aO) : Res Vl := .ok (.dat (.bl (!k))) S
def Rk (x : Vl) (S : aO) : Res Vl := (Bj x S).bind kNV
theorem Tq : Mx a ρ S = (a ρ S).bind Rk := rfl
theorem QL : Rk x S = (Bj x S).bind kNV := rfl
theorem g_kNV {k : Bool} : kNV k S = .ok (.dat (.bl (!k))) S := rfl
def JV (b : FE) (ρ : Ev) (x : Vl) (k : Bool) (S : aO) : Res Vl := if k = true then .ok x S else b ρ S
def kOrT (b : FE) (ρ : Ev) (x : Vl) (S : aO) : Res Vl := (Bj x S).bind (JV b ρ x)
theorem g_orT : Sr a b ρ S = (a ρ S).bind (kOrT b ρ) := rfl
theorem U0 : kOrT b ρ x S = (Bj x S).bind (JV b ρ x) := rfl
theorem Nj : JV b ρ x true S = .ok x S := rfl
theorem Nk : JV b ρ x false S = b ρ S := rfl
theorem NZ {k : Bool} : Bj (.dat (.bl k)) S = .ok k S := rfl
def Pz (g : Vl -> Vl -> aO -> Res Vl) (c : FE) (ρ : Ev) (y z : Vl) (S : aO) : Res Vl := match z with
 | .dat (.bl k) => if k = true then (c ρ S).bind (g y) else .ok (.dat (.bl false)) S
 | _ => .stuck
def TK (f g : Vl -> Vl -> aO -> Res Vl) (c : FE) (ρ : Ev) (x y : Vl) (S : aO) : Res Vl := (f x y S).bind (Pz g c ρ y)
def kCh1 (f g : Vl -> Vl -> aO -> Res Vl) (b c : FE) (ρ : Ev) (x : Vl) (S : aO) : Res Vl := (b ρ S).bind (TK f g c ρ x)
theorem QU : rA f g a b c ρ S = (a ρ S).bind (kCh1 f g b c ρ) := rfl
theorem g_ch1 : kCh1 f g b c ρ x S = (b ρ S).bind (TK f g c ρ x) := rfl
theorem g_ch2 : TK f g c ρ x y S = (f x y S).bind (Pz g c ρ y) := rfl
theorem QV : Pz g c ρ y (.dat (.bl true)) S = (c ρ S).bind (g y) := rfl
theorem QW : Pz g c ρ y (.dat (.bl false)) S = .ok (.dat (.bl false)) S := rfl
def kIf (a b : FE) (ρ : Ev) (c : Bool) (S : aO) : Res Vl := if c = true then a ρ S else b ρ S
theorem g_if : mIf t a b ρ S = (t ρ S).bind (kIf a b ρ) := rfl
theorem QG : kIf a b ρ true S = a ρ S := rfl
theorem QH : kIf a b ρ false S = b ρ S := rfl
theorem Nc : aK ρ S = .ok [] S := rfl
def I8 (x : Vl) (xs : List Vl) (S : aO) : Res (List Vl) := .ok (x :: xs) S
def NG (r : FA) (ρ : Ev) (x : Vl) (S : aO) : Res (List Vl) := (r ρ S).bind (I8 x)
theorem IP : aB a r ρ S = (a ρ S).bind (NG r ρ) := rfl
theorem Ex : NG r ρ x S = (r ρ S).bind (I8 x) := rfl
theorem Ew {xs : List Vl} : I8 x xs S = .ok (x :: xs) S := rfl
def Cu (cl : Bool) (xs : List Vl) (S : aO) : Res Vl := match xR xs with
 | some ds => if ds.length <= sizeLine then newL cl ds S else .stuck
 | none => .stuck
def kTup (xs : List Vl) (S : aO) : Res Vl := match xR xs with
 | some ds => if ds.length <= sizeLine then .ok (.dat (.tup ds)) S else .stuck
 | none => .stuck
theorem g_lst {cl : Bool} : cN cl r ρ S = (r ρ S).bind (Cu cl) := rfl
theorem g_tup : cH r ρ S = (r ρ S).bind kTup := rfl
theorem IR : xR [] = some [] := rfl
theorem Gk {d : D} {xs : List Vl} : xR (.dat d :: xs) = (match xR xs with | some ds => some (d :: ds) | none => none) := rfl
theorem kTup0 : kTup [] S = .ok (.dat (.tup [])) S := rfl
theorem kTup1 {d : D} : kTup [.dat d] S = .ok (.dat (.tup [d])) S := rfl
theorem kTup2 {d e : D} : kTup [.dat d, .dat e] S = .ok (.dat (.tup [d, e])) S := rfl
theorem kTup3 {d e f : D} : kTup [.dat d, .dat e, .dat f] S = .ok (.dat (.tup [d, e, f])) S := rfl
theorem kTup4 {d e f g : D} : kTup [.dat d, .dat e, .dat f, .dat g] S = .ok (.dat (.tup [d, e, f, g])) S := rfl
theorem kLst0 {cl : Bool} : Cu cl [] S = newL cl [] S := rfl
theorem kLst1 {cl : Bool} {d : D} : Cu cl [.dat d] S = newL cl [d] S := rfl
theorem kLst2 {cl : Bool} {d e : D} : Cu cl [.dat d, .dat e] S = newL cl [d, e] S := rfl
theorem kLst3 {cl : Bool} {d e f : D} : Cu cl [.dat d, .dat e, .dat f] S = newL cl [d, e, f] S := rfl
theorem Ts {ds : List D} : newL false ds S = .ok (.dat (.lst ds)) S := rfl
theorem Tr {ds : List D} : newL true ds S = .ok (.cel S.length) (S ++ [.lst ds]) := rfl
theorem IQ : aY md r ρ S = (r ρ S).bind md := rfl
def T9 (cl : Bool) (x : Vl) (lo : Option Int) (hi : Option Int) (S : aO) : Res Vl := Ry cl x lo hi S
def TB (cl : Bool) (h : FO) (ρ : Ev) (x : Vl) (lo : Option Int) (S : aO) : Res Vl := (h ρ S).bind (T9 cl x lo)
def kSl0 (cl : Bool) (l h : FO) (ρ : Ev) (x : Vl) (S : aO) : Res Vl := (l ρ S).bind (TB cl h ρ x)
theorem g_sl {cl : Bool} {l h : FO} : B7 cl a l h ρ S = (a ρ S).bind (kSl0 cl l h ρ) := rfl
theorem g_sl0 {cl : Bool} {l h : FO} : kSl0 cl l h ρ x S = (l ρ S).bind (TB cl h ρ x) := rfl
theorem g_sl1 {cl : Bool} {h : FO} {lo : Option Int} : TB cl h ρ x lo S = (h ρ S).bind (T9 cl x lo) := rfl
theorem g_sl2 {cl : Bool} {lo hi : Option Int} : T9 cl x lo hi S = Ry cl x lo hi S := rfl
theorem g_noP : pV ρ S = .ok none S := rfl
def Rj (x : Vl) (S : aO) : Res (Option Int) := match x with
 | .dat (.int i) => .ok (some i) S
 | _ => .stuck
theorem To : gG a ρ S = (a ρ S).bind Rj := rfl
theorem QK {i : Int} : Rj (.dat (.int i)) S = .ok (some i) S := rfl
def TJ (x : Vl) (S : aO) : Res Vl := match x with
 | .cel n => (match S[n]? with
  | some (.lst ds) => .ok (.dat (.lst ds)) (S.set n .dead)
  | _ => .stuck)
 | _ => .stuck
theorem g_frz : yW a ρ S = (a ρ S).bind TJ := rfl
theorem nX {n : Nat} {ds : List D} (h : S[n]? = some (.lst ds)) : TJ (.cel n) S = .ok (.dat (.lst ds)) (S.set n .dead) := by simp only [TJ, h]
def wN (b : FE) (ρ : Ev) (x : Vl) (S : aO) : Res Vl := match nU S x with
 | some _ => (b ρ S).bind (Gx x)
 | none => .stuck
theorem g_app : kI a b ρ S = (a ρ S).bind (wN b ρ) := rfl
theorem lP {n : Nat} {ds : List D} (h : S[n]? = some (.lst ds)) : wN b ρ (.cel n) S = (b ρ S).bind (Gx (.cel n)) := by simp only [wN, nU, h]
theorem mR {n : Nat} {ds : List D} {d : D} (h : S[n]? = some (.lst ds)) (hl : ds.length < sizeLine) : Gx (.cel n) (.dat d) S = .ok (.dat .non) (S.set n (.lst (ds ++ [d]))) := by simp only [Gx, h, hl, if_true]
def Out.seq (o : Out) (n : FS) : Out := match o with
 | .next ρ S => n ρ S
 | o => o
theorem Jb : aQ m n ρ S = (m ρ S).seq n := rfl
theorem IM : (Out.next ρ S).seq n = n ρ S := rfl
theorem Kx {d : Vl} : (Out.ret d S).seq n = .ret d S := rfl
theorem Ky {x : Er} : (Out.err x ρ S).seq n = .err x ρ S := rfl
theorem L0 : (Out.brk ρ S).seq n = .brk ρ S := rfl
theorem Kz : (Out.cnt ρ S).seq n = .cnt ρ S := rfl
theorem Tf : bK ρ S = .next ρ S := rfl
def TC (d : Vl) (S : aO) : Out := .ret d S
theorem g_ret : bX a ρ S = (a ρ S).toS ρ TC := rfl
theorem Tz {d : Vl} : TC d S = .ret d S := rfl
def Ro (ρ : Ev) (d : Vl) (S : aO) : Out := .next ρ S
theorem UA : dQ a ρ S = (a ρ S).toS ρ (Ro ρ) := rfl
theorem QO {d : Vl} : Ro ρ d S = .next ρ S := rfl
def TH (m n : FS) (ρ : Ev) (c : Bool) (S : aO) : Out := if c = true then m ρ S else n ρ S
theorem Rv : bU t m n ρ S = (t ρ S).toS ρ (TH m n ρ) := rfl
theorem Nn : TH m n ρ true S = m ρ S := rfl
theorem Np : TH m n ρ false S = n ρ S := rfl
def NJ (t : Tg) (ρ : Ev) (d : Vl) (S : aO) : Out := match oG t d ρ with
 | some ρ' => .next ρ' S
 | none => .stuck
theorem Rw {t : Tg} : bR a t ρ S = (a ρ S).toS ρ (NJ t ρ) := rfl
theorem U3 {k : Nat} {d : Vl} : NJ (.nm k) ρ d S = .next (ρ.set k (some d)) S := rfl
theorem QQ {i j : Nat} {d e : D} : NJ (.tp [i, j]) ρ (.dat (.tup [d, e])) S = .next ((ρ.set i (some (.dat d))).set j (some (.dat e))) S := rfl
theorem QP {i j k : Nat} {d e f : D} : NJ (.tp [i, j, k]) ρ (.dat (.tup [d, e, f])) S = .next (((ρ.set i (some (.dat d))).set j (some (.dat e))).set k (some (.dat f))) S := rfl
def kFor (t : Tg) (m : FS) (ρ : Ev) (ds : List D) (S : aO) : Out := loop t m ds ρ S
theorem g_for {mi : FI} {t : Tg} : rR mi t m ρ S = (mi ρ S).toS ρ (kFor t m ρ) := rfl
theorem U2 {t : Tg} {ds : List D} : kFor t m ρ ds S = loop t m ds ρ S := rfl
def xH (cl : Bool) (t : Tg) (u : FT) (e : FE) (ρ : Ev) (vs : List Nat) (ds : List D) (S : aO) : Res Vl := if ds.length <= sizeLine then (match iZ t u e (wipeE ρ vs) ds S with
 | .ok es S2 => newL cl es S2
 | _ => .stuck) else .stuck
theorem g_lc {cl : Bool} {mi : FI} {t : Tg} {vs : List Nat} : AB cl mi t u e vs ρ S = (mi ρ S).bind (xH cl t u e ρ vs) := rfl
theorem Ti : jQ a ρ S = (a ρ S).bind itemsOf := rfl
theorem Nx {ds : List D} : itemsOf (.dat (.lst ds)) S = .ok ds S := rfl
theorem Nw {ds : List D} : itemsOf (.dat (.tup ds)) S = .ok ds S := rfl
def Ar (x : Vl) (S : aO) : Res (List D) := match x with
 | .dat (.int j) => if -(2 ^ 62) <= j /\ j < 2 ^ 62 then .ok (gH 0 j.toNat) S else .stuck
 | _ => .stuck
theorem Tj : iY a ρ S = (a ρ S).bind Ar := rfl
theorem jK {j : Int} (h1 : -(2 ^ 62) <= j) (h2 : j < 2 ^ 62) : Ar (.dat (.int j)) S = .ok (gH 0 j.toNat) S := by unfold Ar; exact if_pos ⟨h1, h2⟩
def kRev1 (x : Vl) (S : aO) : Res (List D) := match x with
 | .dat (.int j) => if -(2 ^ 62) <= j /\ j < 2 ^ 62 then .ok (RW j.toNat) S else .stuck
 | _ => .stuck
theorem QA : Sq a ρ S = (a ρ S).bind kRev1 := rfl
def Rn (x : Vl) (S : aO) : Res (List D) := match x with
 | .dat (.lst ds) => .ok (eA 0 ds) S
 | _ => .stuck
theorem U9 : De a ρ S = (a ρ S).bind Rn := rfl
theorem QN {ds : List D} : Rn (.dat (.lst ds)) S = .ok (eA 0 ds) S := rfl
def Out.wipe (o : Out) (is : List Nat) : Out := match o with
 | .next ρ S => .next (wipeE ρ is) S
 | .cnt ρ S => .cnt (wipeE ρ is) S
 | .brk ρ S => .brk (wipeE ρ is) S
 | o => o
theorem Ta {is : List Nat} : iX is m ρ S = (m ρ S).wipe is := by unfold iX Out.wipe; cases m ρ S <;> rfl
theorem Ge {is : List Nat} : (Out.next ρ S).wipe is = .next (wipeE ρ is) S := rfl
theorem IJ {is : List Nat} {d : Vl} : (Out.ret d S).wipe is = .ret d S := rfl
theorem IK {is : List Nat} {x : Er} : (Out.err x ρ S).wipe is = .err x ρ S := rfl
theorem UF {cl : Bool} {i j : Int} : dA cl (.dat (.int i)) (.dat (.int j)) S = .ok (.dat (.int (i + j))) S := rfl
theorem Te {i j : Int} : rB (.dat (.int i)) (.dat (.int j)) S = .ok (.dat (.int (i - j))) S := rfl
theorem lO {i j : Int} (h : 0 < j) : wO (.dat (.int i)) (.dat (.int j)) S = .ok (.dat (.int (i % j))) S := if_pos h
theorem pL {i j : Int} (h : IntMulOk i j) : rW (.dat (.int i)) (.dat (.int j)) S = .ok (.dat (.int (i * j))) S := if_pos h
theorem BW {i j : Int} (h : CDiv i j) : tZ (.dat (.int i)) (.dat (.int j)) S = .ok (.dat (.int (i / j))) S := if_pos h
theorem g_ltI {i j : Int} : Gw (.dat (.int i)) (.dat (.int j)) S = .ok (.dat (.bl (decide (i < j)))) S := rfl
theorem g_leI {i j : Int} : Lh (.dat (.int i)) (.dat (.int j)) S = .ok (.dat (.bl (decide (i <= j)))) S := rfl
theorem g_gtI {i j : Int} : E6 (.dat (.int i)) (.dat (.int j)) S = .ok (.dat (.bl (decide (j < i)))) S := rfl
theorem g_geI {i j : Int} : fGe (.dat (.int i)) (.dat (.int j)) S = .ok (.dat (.bl (decide (j <= i)))) S := rfl
theorem g_eqI {i j : Int} : fF (.dat (.int i)) (.dat (.int j)) S = .ok (.dat (.bl (decide (i = j)))) S := rfl
theorem g_neI {i j : Int} : FN (.dat (.int i)) (.dat (.int j)) S = .ok (.dat (.bl (!decide (i = j)))) S := rfl
theorem g_eqS {i j : Str} : fF (.dat (.str i)) (.dat (.str j)) S = .ok (.dat (.bl (decide (i = j)))) S := rfl
theorem g_neS {i j : Str} : FN (.dat (.str i)) (.dat (.str j)) S = .ok (.dat (.bl (!decide (i = j)))) S := rfl
theorem g_eqB {i j : Bool} : fF (.dat (.bl i)) (.dat (.bl j)) S = .ok (.dat (.bl (i == j))) S := by cases i <;> cases j <;> rfl
theorem g_neB {i j : Bool} : FN (.dat (.bl i)) (.dat (.bl j)) S = .ok (.dat (.bl (!(i == j)))) S := by cases i <;> cases j <;> rfl
theorem g_neg {i : Int} : xI (.dat (.int i)) S = .ok (.dat (.int (-i))) S := rfl
theorem U4 {i : Int} : pX (.dat (.int i)) S = .ok (.dat (.int i)) S := rfl
theorem U5 {k : Bool} : pX (.dat (.bl k)) S = .ok (.dat (.int (if k then 1 else 0))) S := rfl
theorem Tv {xs : List D} : eT (.dat (.tup xs)) S = .ok (.dat (.int xs.length)) S := rfl
theorem Tw {xs : List D} : eT (.dat (.lst xs)) S = .ok (.dat (.int xs.length)) S := rfl
theorem nW {n : Nat} {xs : List D} (h : S[n]? = some (.lst xs)) : eT (.cel n) S = .ok (.dat (.int xs.length)) S := by simp only [eT, nU, h]
theorem Gg {xs : List D} {k : Int} {d : D} (h : atI xs k = some d) : bO (.dat (.tup xs)) (.dat (.int k)) S = .ok (.dat d) S := by simp only [bO, h]
theorem tV {xs : List D} {k : Int} {d : D} (h : atI xs k = some d) : bO (.dat (.lst xs)) (.dat (.int k)) S = .ok (.dat d) S := by simp only [bO, nU, h]
theorem Jc {n : Nat} {xs : List D} {k : Int} {d : D} (h : S[n]? = some (.lst xs)) (h2 : atI xs k = some d) : bO (.cel n) (.dat (.int k)) S = .ok (.dat d) S := by simp only [bO, nU, h, h2]
theorem O2 {cl : Bool} {xs ys : List D} (h : xs.length + ys.length <= sizeLine) : dA cl (.dat (.tup xs)) (.dat (.tup ys)) S = .ok (.dat (.tup (xs ++ ys))) S := if_pos h
theorem gE {cl : Bool} {xs ys : List D} (h : xs.length + ys.length <= sizeLine) : dA cl (.dat (.lst xs)) (.dat (.lst ys)) S = newL cl (xs ++ ys) S := by simp only [dA, nU, h, if_true]
theorem Gj {neg : Bool} : Cw neg x (.dat .non) S = .ok (.dat (.bl (if neg then !(isNon x) else isNon x))) S := rfl
theorem gV {α : Type} {xs : List α} {k : Int} {n : Nat} (h : k = (n : Int)) : atI xs k = xs[n]? := by
 subst h;unfold atI ixN
 by_cases hl : n < xs.length
 ·rw [if_pos (by omega), if_pos (by omega)]; simp
 ·rw [if_pos (by omega), if_neg (by omega)]
  simp [uF hl]
theorem Ja : fX ρ S = .ok true S := rfl
theorem Tc {xs : List D} : Bj (.dat (.lst xs)) S = .ok (!xs.isEmpty) S := rfl
theorem Td {i : Int} : Bj (.dat (.int i)) S = .ok (i != 0) S := rfl
theorem Gh {xs : List D} : isNon (.dat (.tup xs)) = false := rfl
theorem Gi : isNon (.dat .non) = true := rfl
theorem g_slT {cl : Bool} {xs : List D} {lo hi : Option Int} : Ry cl (.dat (.tup xs)) lo hi S = .ok (.dat (.tup (cutD xs lo hi))) S := rfl
theorem g_slL {cl : Bool} {xs : List D} {lo hi : Option Int} : Ry cl (.dat (.lst xs)) lo hi S = newL cl (cutD xs lo hi) S := rfl
theorem g_slS {cl : Bool} {ns : List Int} {lo hi : Option Int} : Ry cl (.scr ns) lo hi S = newL cl (cutD (ns.map D.int) lo hi) S := rfl
theorem QD {cl : Bool} {xs : List D} : tY cl (.dat (.lst xs)) S = newL cl xs S := rfl
theorem QC {cl : Bool} {xs : List D} : tY cl (.dat (.tup xs)) S = newL cl xs S := rfl
theorem NY {xs : List D} : fTuple (.dat (.lst xs)) S = .ok (.dat (.tup xs)) S := rfl
end
section
variable {a b o : FE} {r : FA} {m n : FS} {ρ : Ev} {S : aO} {x y : Vl} {md : FD} {C f : Str} {ns : List Str}
theorem QB : vD C ρ S = .err ⟨C, [], []⟩ ρ S := rfl
def Em (C : Str) (ns : List Str) (ρ : Ev) (xs : List Vl) (S : aO) : Out := match xR xs with
 | some ds => if ds.length = ns.length then .err ⟨C, ns, ds.reverse⟩ ρ S else .stuck
 | none => .stuck
theorem Nb : lG C ns r ρ S = (r ρ S).toS ρ (Em C ns ρ) := rfl
theorem L8 {f : Str} {d : D} : Em C [f] ρ [.dat d] S = .err ⟨C, [f], [d]⟩ ρ S := rfl
theorem L7 {f g : Str} {d e : D} : Em C [f, g] ρ [.dat d, .dat e] S = .err ⟨C, [f, g], [e, d]⟩ ρ S := rfl
def xG (C f : Str) (ρ : Ev) (d x : Vl) (S : aO) : Out := match Hk S C f x d with
 | some S3 => .next ρ S3
 | none => .stuck
def Ri (C f : Str) (o : FE) (ρ : Ev) (d : Vl) (S : aO) : Out := (o ρ S).toS ρ (xG C f ρ d)
theorem Th : vC C f o a ρ S = (a ρ S).toS ρ (Ri C f o ρ) := rfl
theorem QI {d : Vl} : Ri C f o ρ d S = (o ρ S).toS ρ (xG C f ρ d) := rfl
theorem CP {n : Nat} {d : Vl} {fs : List (Str × Vl)} (h : S[n]? = some (.ins C fs)) (hl : fs.length < 1000) : xG C f ρ d (.cel n) S = .next ρ (S.set n (.ins C (nJ f d fs))) := by simp only [xG, Hk, h, true_and, hl, if_true]
def Dk (kp : Bool) (C : Str) (md : FD) (ds : List Vl) (S : aO) : Res Vl := made kp S.length (md (.cel S.length :: ds) (S ++ [.ins C []]))
theorem Tu {kp : Bool} : JK kp C md r ρ S = (r ρ S).bind (Dk kp C md) := rfl
def I6 (md : FD) (x : Vl) (ds : List Vl) (S : aO) : Res Vl := md (x :: ds) S
def Rm (C f : Str) (md : FD) (r : FA) (ρ : Ev) (x : Vl) (S : aO) : Res Vl := if pJ S C f x = true then (r ρ S).bind (I6 md x) else .stuck
theorem Tt : pG C f md o r ρ S = (o ρ S).bind (Rm C f md r ρ) := rfl
theorem hY (h : pJ S C f x = true) : Rm C f md r ρ x S = (r ρ S).bind (I6 md x) := if_pos h
theorem Nl {ds : List Vl} : I6 md x ds S = md (x :: ds) S := rfl
def BA (C f : Str) (x : Vl) (S : aO) : Res Vl := match Au S C f x with
 | some d => .ok d S
 | none => .stuck
theorem g_fld : fY C f o ρ S = (o ρ S).bind (BA C f) := rfl
theorem QM {ns : List Str} {xs : List D} : BA C f (.dat (.ins C ns xs)) S = (match (ns.zip xs).lookup f with | some d => .ok (.dat d) S | none => .stuck) := by
 simp only [BA, Au, if_true];cases (ns.zip xs).lookup f <;> rfl
theorem tE {n : Nat} {fs : List (Str × Vl)} {d : Vl} (h : S[n]? = some (.ins C fs)) (h2 : fs.lookup f = some d) : BA C f (.cel n) S = .ok d S := by simp only [BA, Au, h, if_true, h2]
def Out.tryA (o : Out) (cs : List Str) (c : Str) (k : Nat) (its : List XIt) : Out := match o with
 | .err e ρ' S' => if (e.cls ∈ cs /\ c ∈ cs) /\ k < ρ'.length then (if e.cls = c then (match itF e its with
   | some ds => if ds.length <= sizeLine then .ret (.dat (.tup ds)) S' else .stuck
   | none => .stuck) else .err e ρ' S') else .stuck
 | o => o
theorem Tb {cs : List Str} {c : Str} {k : Nat} {its : List XIt} : Rf cs m c k its ρ S = (m ρ S).tryA cs c k its := by unfold Rf Out.tryA; cases m ρ S <;> rfl
theorem Gf {cs : List Str} {c : Str} {k : Nat} {its : List XIt} : (Out.next ρ S).tryA cs c k its = .next ρ S := rfl
theorem IL {cs : List Str} {c : Str} {k : Nat} {its : List XIt} {d : Vl} : (Out.ret d S).tryA cs c k its = .ret d S := rfl
end
theorem lR : ((0 : Nat) : Int) = 0 := rfl
theorem zG : ((1 : Nat) : Int) = 1 := rfl
theorem Qe : ((2 : Nat) : Int) = 2 := rfl
theorem Qd : ((3 : Nat) : Int) = 3 := rfl
theorem Qc : ((4 : Nat) : Int) = 4 := rfl
theorem Qb : ((5 : Nat) : Int) = 5 := rfl
theorem Qa : ((6 : Nat) : Int) = 6 := rfl
theorem QZ : ((7 : Nat) : Int) = 7 := rfl
theorem QY : ((8 : Nat) : Int) = 8 := rfl
theorem QX : ((9 : Nat) : Int) = 9 := rfl
theorem O1 : ((10 : Nat) : Int) = 10 := rfl
theorem O0 : ((11 : Nat) : Int) = 11 := rfl
theorem Nz : ((12 : Nat) : Int) = 12 := rfl
theorem Ny : ((13 : Nat) : Int) = 13 := rfl
theorem str_inj {a b : String} (h : Str.ofString a = Str.ofString b) : a = b := by
 rw [Str.ofString_eq_toList, Str.ofString_eq_toList] at h
 injection h with h
 have h2 := congrArg Array.toList h;simp only at h2;have : ∀ {l m : List Char}, l.map Char.toNat = m.map Char.toNat -> l = m := fun {l} => by
  induction l with
  | nil => intro m h; cases m <;> simp at h ⊢
  | cons c l ih =>
   intro m h;cases m with
   | nil => simp at h
   | cons d m =>
    simp only [aM, List.cons.injEq] at h;rw [ih h.2];have : c = d := by
     have := congrArg Char.ofNat h.1
     simpa using this
    rw [this]
 exact String.toList_inj.mp (this h2)
theorem EW {a b : String} : (Str.ofString a = Str.ofString b) = (a = b) := propext ⟨str_inj, fun h => by rw [h]⟩
section
variable {X : Cx} {W : WX} {C : Str} {md : FD} {o i a b : Expr} {mo mi ma mb : FE} {pos p : Pos} {j k : Nat} {ps : List Str} {K : aD}
def fGetO (C : Str) (md : FD) (x y : Vl) (S : aO) : Res Vl := if pJ S C "" x = true then md [x, y] S else .stuck
def fInO (C : Str) (md : FD) (y x : Vl) (S : aO) : Res Vl := if pJ S C "" x = true then ON (md [x, y] S) else .stuck
def NB (x : Vl) (S : aO) : Res (List PH.D) := match x with
 | .dat (.lst ds) => .ok ds.reverse S
 | _ => .stuck
def mRevL (a : FE) : FI := fun ρ S => (a ρ S).bind NB
def Dz (x y : Vl) (S : aO) : Res Vl := match x, y with
 | .dat (.int i), .dat (.int j) => .ok (.dat (.int (if j < i then j else i))) S
 | _, _ => .stuck
theorem boot_min : bootBuiltins "min" = some (.builtin "min") := by decide +kernel
theorem UL (hm : X.mg "min" = none) (ha : PE X a (cW X.K W ma)) (hb : PE X b (cW X.K W mb)) (hc : X.calm = true := by rfl) (hg : Gl X "min" := by rfl) (hs : starEach [a, b] X.env = (false, eval a X.env) :: starEach [b] X.env := by rfl) (hs2 : starEach [b] X.env = [(false, eval b X.env)] := by rfl) (hpl : (backTo pos (starEach [b] X.env)).any (·.1) = false := by rfl) : PE X (.Call (.Name "min" p) [a, b] [] pos) (cW X.K W (aP Dz ma mb)) :=
 dD (pe_callB (call_min2 hc) hg hm boot_min (pa_cons ha (pa_cons hb pa_nil hs2) hs) (he := hs) (hpl := hpl)) fun σ H Q h =>
  cU (k := fun x ρ S => (mb ρ S).bind fun y S2 => Dz x y S2) h fun B φ S ρ d v H1 I E r f => jB I E f fun φ' S' e w H2 I2 X2 E2 r2 f2 => by
   unfold Dz at f2;split at f2
   ·cases r
    cases r2;exact ⟨_, _, rfl, Fin.now f2 I2 rfl⟩
   ·exact f2.elim
theorem Tn {ρ : Ev} {S : aO} : mRevL ma ρ S = (ma ρ S).bind NB := rfl
theorem QJ {S : aO} {ds : List PH.D} : NB (.dat (.lst ds)) S = .ok ds.reverse S := rfl
theorem Nd {S : aO} {x y : Int} : Dz (.dat (.int x)) (.dat (.int y)) S = .ok (.dat (.int (if y < x then y else x))) S := rfl
theorem U6 {S : aO} {x y : Vl} (h : pJ S C "" x = true) : fGetO C md x y S = md [x, y] S := if_pos h
theorem g_inO {S : aO} {x y : Vl} (h : pJ S C "" x = true) : fInO C md y x S = ON (md [x, y] S) := if_pos h
theorem Qg {S : aO} {b : Bool} : ON (.ok (.dat (.bl b)) S) = .ok (.dat (.bl b)) S := rfl
def Rh (k : Nat) : FS := fun ρ S => match lk ρ k with
 | some (.cel n) => (match S[n]? with
  | some (.lst ds) => .next (ρ.set k (some (.dat (.lst ds)))) (S.set n .dead)
  | _ => .stuck)
 | _ => .stuck
theorem U7 {k n : Nat} {ρ : Ev} {S : aO} {ds : List PH.D} (h : lk ρ k = some (.cel n)) (h2 : S[n]? = some (.lst ds)) : Rh k ρ S = .next (ρ.set k (some (.dat (.lst ds)))) (S.set n .dead) := by simp only [Rh, h, h2]
end
open AutoSeq1 (wpAny_loadPart')
section
variable {X : Cx} {W : WX} {a : Expr} {ma : FE} {pos p : Pos}
def Sv (a : FE) : FI := fun ρ S => (a ρ S).bind fun x S1 => match x with
 | .dat (.tup ds) => .ok (eA 0 ds) S1
 | _ => .stuck
def NC (x : Vl) (S : aO) : Res (List PH.D) := match x with
 | .dat (.tup ds) => .ok (eA 0 ds) S
 | _ => .stuck
theorem QT {ρ : Ev} {S : aO} : Sv ma ρ S = (ma ρ S).bind NC := rfl
theorem Nq {S : aO} {ds : List PH.D} : NC (.dat (.tup ds)) S = .ok (eA 0 ds) S := rfl
end
section
variable {X : Cx} {W : WX} {e a b c o : Expr} {es rest : List Expr} {pos p q p2 tpos apos cpos : Pos} {x y z C f : Str} {K : aD} {ma mb mc mo me : FE} {mt mu : FT} {mas : FA} {mi mj : FI} {B : Addr -> Prop} {φ φ' : List Addr} {S S' : aO} {H H' : Hp} {σ : L2.St} {Q : VK} {m n : FS} {st : Stmt} {gM : List Stmt} {D : Ends} {t t1 : Tg}
def Pt (mi : FI) (t : Tg) (vs : List Nat) : FE := fun ρ S => (mi ρ S).bind fun ds S1 => if ds.length <= sizeLine /\ (∀ d ∈ ds, (oG t (.dat d) (wipeE ρ vs)).isSome = true) then .ok (.cels (eV S1.length ds.length)) (S1 ++ bQ ds.length (.lst [])) else .stuck
theorem Ka {n : Nat} {x : Cell} : bQ (n + 1) x = bQ n x ++ [x] := List.replicate_succ'
theorem MZ {s n : Nat} : eV s (n + 1) = eV s n ++ [s + n] := by rw [List.range'_concat]; simp
theorem P8 {vs : List Nat} (ht : ∀ i ∈ SJ t, i ∈ vs) (h : cW K W (Pt mi t vs) σ H Q) : tLc (Oj K W mi) (Oi K t) (xW K Bg fX) (cW K Bg (cN true aK)) vs σ H Q := by
 refine cU (k := fun ds ρ S1 => if ds.length <= sizeLine /\ (∀ d ∈ ds, (oG t (.dat d) (wipeE ρ vs)).isSome = true) then Res.ok (Vl.cels (eV S1.length ds.length)) (S1 ++ bQ ds.length (.lst [])) else .stuck) h fun B φ0 S0 ρ ds J H0 I0 E0 r f0 => ?_
 intro A hA;split at f0
 case isFalse => exact f0.elim
 rename_i hsz;obtain ⟨hsz, htg⟩ := hsz;have nB : ¬ B A := fun q => by obtain ⟨u, e⟩ := I0.btr A q; rw [hA] at e; cases e
 have IA : GInv K (jP B A) φ0 S0 (upd H0 A (.lst [])) := I0.plus hA;have b2 : ∀ a, H0 a ≠ none -> jP B A a -> B a := fun b hb h => by
  rcases h with h | h
  ·exact h
  ·exact absurd (by rw [h]; exact hA) hb
 refine ⟨fun i k H' => i <= ds.length /\ k = ds.length - i /\ ∃ (φ1 : List Addr) (as : List Addr), GInv K (jP B A) φ1 (S0 ++ bQ i (.lst [])) H' /\ Ext φ0 S0 H0 φ1 (S0 ++ bQ i (.lst [])) H' /\ RepE K (jP B A) φ1 (S0 ++ bQ i (.lst [])) H' (wipeE ρ vs) (wipe σ vs) /\ H' A = some (.lst (as.map L2.V.ref)) /\ as.length = i /\ (eV S0.length i).map (fun n => φ1[n]?) = as.map some,
  ⟨_, iL _, rfl, φ0, [], by simpa using IA, by simpa using Ext.new I0 hA, by simpa using (E0.wipes vs).plus I0 hA, upd_same, rfl, rfl⟩, ?_⟩
 rintro i k H' ⟨hi, rfl, φ1, as, I1, X1, E1, hA1, hul, hφ⟩
 obtain ⟨hgo, hstop, hyld⟩ := r φ1 _ H' (jP B A) I1 (X1.kpB (fun _ h => .inl h) b2 I0)
 by_cases hlt : i < ds.length
 ·refine .inr ⟨hgo i hlt, fun H2 => i + 1 <= ds.length /\ ∃ (φ1 : List Addr) (as : List Addr), GInv K (jP B A) φ1 (S0 ++ bQ (i + 1) (.lst [])) H2 /\ Ext φ0 S0 H0 φ1 (S0 ++ bQ (i + 1) (.lst [])) H2 /\ RepE K (jP B A) φ1 (S0 ++ bQ (i + 1) (.lst [])) H2 (wipeE ρ vs) (wipe σ vs) /\ H2 A = some (.lst (as.map L2.V.ref)) /\ as.length = i + 1 /\ (eV S0.length (i + 1)).map (fun n => φ1[n]?) = as.map some, fun H2 ⟨h1, h2⟩ => ⟨ds.length - (i + 1), by omega, h1, rfl, h2⟩, fun x H2 y => ?_⟩
  have hd : ds[i]? = some ds[i] := by simp [hlt]
  obtain ⟨I2, X2, r2⟩ := hyld i x H2 ds[i] hd y;obtain ⟨ρ2, q2⟩ := Option.isSome_iff_exists.mp (htg ds[i] (uE hlt));have hA2 := (X2.old A _ hA1 fun q => I1.blk A q (.inr rfl)).1
  refine EV (E1.ext X2 I1) (d := .dat ds[i]) r2 q2 fun ws E3 => ⟨by rw [DE ht, DD], jP B A, φ1, _, ρ2, I2, E3, ?_⟩
  intro φ3 b' H3 I3 X3 rb;have rb : b' = true := rb;subst rb;have hA3 := (X3.old A _ hA2 fun q => I2.blk A q (.inr rfl)).1
  have Xa := X1.trans (X2.trans X3);rw [if_pos rfl];refine ⟨jP B A, φ3, S0 ++ bQ i (.lst []), ρ2, I3, E3.ext X3 I2, ?_⟩
  intro φ4 v4 H4 I4 X4 r4;obtain ⟨a4, rfl, h4⟩ := r4;have hA4 := (X4.old A _ hA3 fun q => I3.blk A q (.inr rfl)).1
  have eS : (S0 ++ bQ i (Cell.lst [])) ++ [Cell.lst []] = S0 ++ bQ (i + 1) (.lst []) := by rw [Ka, dG]
  rw [eS] at I4 X4;have hn : (S0 ++ bQ i (Cell.lst [])).length = S0.length + i := by simp
  rw [hn] at h4;refine ⟨as.map L2.V.ref, hA4, by rw [aN, hul]; omega, hlt, φ4, as ++ [a4], I4.plusPut hA4, ?_, (((E1.ext X2 I1).ext X3 I2).ext X4 I3).plusPut hA4, by rw [upd_same]; simp, by simp [hul], ?_⟩
  ·exact ⟨fun b o h nb => by
    obtain ⟨h1, h2⟩ := (Xa.trans X4).old b o h nb;exact ⟨by rw [upd_ne (fun e => by subst e; rw [hA] at h; cases h)]; exact h1, h2⟩, (Xa.trans X4).ids⟩
  ·rw [MZ, cQ, cQ, yS (X2.trans (X3.trans X4)).ids _ _ hφ]
   simp [h4]
 ·have e : i = ds.length := by omega
  subst e;refine .inl ⟨hstop, ?_⟩
  refine f0 φ1 (.ref A) H' I1.less X1 ⟨A, as, rfl, fun q => ?_, hA1, hφ⟩
  rcases q with q | q
  ·exact nB q
  ·exact I1.blk A q (.inr rfl)
theorem f_lcC {tg iter : Expr} {scope : Scope} {own : List (Str × Nat)} {lpos : Pos} (hc : X.calm = true) (hN : X.N.Nodup) (hi : PI X tg iter (Oj X.K W mi)) (ok : BlkOk X.N X.env.scope scope own)
  (hg : ∀ (s : Shared) (H : Hp) (C : Addr) (cl : List (Str × Addr)) (fp : List Addr), PG (X.blk s H scope (compEnvC scope cl C X.env) fp) tg (Oi X.K t)) (hs : ∀ x, foldedSetIterable iter X.env x = pure x := by intro _; rfl) (hv : ∀ i ∈ SJ t, i ∈ own.map (·.2) := by decide) :
  PE X (.ListComp (.List [] lpos) [⟨tg, iter, [], 0⟩] scope pos) (cW X.K W (Pt mi t (own.map (·.2)))) := dD (pe_lc hc hN hi ok hg (fun _ _ _ _ _ => gK) (fun _ _ _ _ _ => cA aG) hs) fun σ H Q h => P8 hv h
def kLcC (t : Tg) (ρ : Ev) (vs : List Nat) (ds : List PH.D) (S : aO) : Res Vl := if ds.length <= sizeLine /\ (∀ d ∈ ds, (oG t (.dat d) (wipeE ρ vs)).isSome = true) then .ok (.cels (eV S.length ds.length)) (S ++ bQ ds.length (.lst [])) else .stuck
theorem g_lcC {ρ : Ev} {S : aO} {vs : List Nat} : Pt mi t vs ρ S = (mi ρ S).bind (kLcC t ρ vs) := rfl
theorem Nm {ρ : Ev} {S : aO} {vs : List Nat} {k : Nat} {ds : List PH.D} (h : ds.length <= sizeLine) : kLcC (.nm k) ρ vs ds S = .ok (.cels (eV S.length ds.length)) (S ++ bQ ds.length (.lst [])) := if_pos ⟨h, fun _ _ => rfl⟩
def Df (g : Int -> Int -> Int) (C f : Str) (o e : FE) : FS := fun ρ S => (o ρ S).toS ρ fun x S1 => match Au S1 C f x with
 | some (.dat (.int u)) => (e ρ S1).toS ρ fun w S2 => (match w with
  | .dat (.int w) => (match Hk S2 C f x (.dat (.int (g u w))) with
   | some S3 => .next ρ S3
   | none => .stuck)
  | _ => .stuck)
 | _ => .stuck
theorem MK {g : Int -> Int -> Int} {r : R2} (c : Cls K (He.ga K C)) (na : NoAttr K (He.ga K C) f) (hr : ∀ i j H Q, Q (.int (g i j)) H -> r (.int i) (.int j) H Q) (h : lD K W (Df g C f mo me) D σ H) : sFldAug K (cW K W mo) (cW K W me) (cIp r) f D σ H := by
 obtain ⟨B, φ, S, ρ, I, E, f'⟩ := h;refine cG I E f' fun φ1 S1 d1 v1 H1 I1 X1 E1 r1 f1 => ?_
 split at f1
 ·rename_i u q
  obtain ⟨a, dx, fs, u', rfl, h1, h2, h3⟩ := Gq I1 r1 q;cases h3;refine ⟨a, _, dx, fs, _, rfl, h1, c, na, h2, cG I1 E1 f1 fun φ2 S2 d2 v2 H2 I2 X2 E2 r2 f2 => ?_⟩
  split at f2
  ·rename_i w
   cases r2;split at f2
   ·rename_i S3 q3
    unfold Hk at q3;split at q3
    ·rename_i n
     obtain ⟨a', e', h4⟩ := r1.ext X2 I1;cases e';split at q3
     ·rename_i C' fs' q4
      split at q3
      ·rename_i hc
       obtain ⟨e, hl⟩ := hc;subst e;cases q3;obtain ⟨dx2, vs, h5, h6⟩ := I2.ok n _ a q4 h4;refine hr _ _ _ _ ⟨dx2, vs, h5, by rw [h6.len]; exact hl, ?_⟩
       have X3 := Ext.put (H := H2) (o := .ins (He.ga K C') dx2 (putF f (.int (g u w)) vs)) (x := .ins C' (nJ f (.dat (.int (g u w))) fs')) q4 (by simp) h4 (by simp)
       have r' : RepV K B φ2 S2 H2 (.dat (.int (g u w))) (.int (g u w)) := rfl;have I3 := I2.put q4 (by simp) h4 (by simp) (x := .ins C' (nJ f (.dat (.int (g u w))) fs')) (o := .ins (He.ga K C') dx2 (putF f (.int (g u w)) vs)) ⟨dx2, putF f (.int (g u w)) vs, upd_same, (RepF.put r' h6).ext X3 I2⟩
       exact f2 φ2 σ _ I3 X3 (E2.ext X3 I2)
      ·cases q3
     ·cases q3
    ·cases q3
   ·exact f2.elim
  ·exact f2.elim
 ·exact f1.elim
theorem IS (c : Cls X.K (He.ga X.K C)) (na : NoAttr X.K (He.ga X.K C) f) (ho : PE X o (cW X.K W mo)) (he : PE X e (cW X.K W me)) : PS X (.AugAssign (.Attribute o f tpos) .Add e pos) (lD X.K W (Df (fun x y => x + y) C f mo me)) :=
 fM (ps_fldaug ho he Eu) fun D σ H h => MK c na (fun _ _ _ _ q => q) h
theorem RC {g : Int -> Int -> Int} {ρ : Ev} {S : aO} {n : Nat} {u w : Int} {fs : List (Str × Vl)} (ho : mo ρ S = .ok (.cel n) S) (he : me ρ S = .ok (.dat (.int w)) S) (hn : S[n]? = some (.ins C fs)) (hf : fs.lookup f = some (.dat (.int u))) (hl : fs.length < 1000) : Df g C f mo me ρ S = .next ρ (S.set n (.ins C (nJ f (.dat (.int (g u w))) fs))) := by
 simp only [Df, ho, he, lN, Au, hn, if_true, hf, Hk, true_and, hl]
def OkK (P : Program) (w : World) (K : aD) (mg : Str -> Option Value) (base : Heap) (k : Nat) (x : Str) (ps : List Str) (n : Nat) (kw : Str) (dv : L2.V) (sp : Sp) : Prop :=
 ∃ fd, FnOk P w K mg base (L2.CX P w) k (He.ga K x) fd ps sp /\ mg x = some (.ref (He.ga K x)) /\ gW K (.ref (He.ga K x)) = true /\ (∃ ds, Vals [dv] ds /\ Binds K fd ps ds) /\ KBn K fd ps n [kw] (fun us ws => us ++ ws) (fun vs zs => vs ++ zs)
def Sw (md : FD) (dd : PH.D) (as : FA) : FE := fun ρ S => (as ρ S).bind fun ds S1 => md (ds ++ [.dat dd]) S1
theorem RepVs.snoc {B : Addr -> Prop} {φ : List Addr} {S : aO} {H : Hp} : ∀ {ds : List Vl} {vs : List L2.V} {d : Vl} {v : L2.V}, RepVs K B φ S H ds vs -> RepV K B φ S H d v -> RepVs K B φ S H (ds ++ [d]) (vs ++ [v])
 | [], vs, d, v, h, r => by cases h; exact ⟨v, [], rfl, r, rfl⟩
 | d' :: ds, vs, d, v, ⟨v', ws, e, h1, h2⟩, r => by subst e; exact ⟨v', ws ++ [v], rfl, h1, RepVs.snoc h2 r⟩
def NI (md : FD) (dd : PH.D) (ds : List Vl) (S : aO) : Res Vl := md (ds ++ [.dat dd]) S
theorem Qf {md : FD} {dd : PH.D} {ρ : Ev} {S : aO} : Sw md dd mas ρ S = (mas ρ S).bind (NI md dd) := rfl
theorem Nv {md : FD} {dd : PH.D} {ds : List Vl} {S : aO} : NI md dd ds S = md (ds ++ [.dat dd]) S := rfl
def Hw (n : Nat) (md : FD) (as : FA) (a : FE) : FE := fun ρ S => (as ρ S).bind fun ds S1 => if ds.length = n then (a ρ S1).bind fun d S2 => md (ds ++ [d]) S2 else .stuck
def Es (md : FD) (ds : List Vl) (d : Vl) (S : aO) : Res Vl := md (ds ++ [d]) S
def NH (n : Nat) (md : FD) (a : FE) (ρ : Ev) (ds : List Vl) (S : aO) : Res Vl := if ds.length = n then (a ρ S).bind (Es md ds) else .stuck
theorem Jd {md : FD} {n : Nat} {ρ : Ev} {S : aO} : Hw n md mas ma ρ S = (mas ρ S).bind (NH n md ma ρ) := rfl
theorem Dt {md : FD} {ρ : Ev} {S : aO} {x y z : Vl} : NH 3 md ma ρ [x, y, z] S = (ma ρ S).bind (Es md [x, y, z]) := rfl
theorem Du {md : FD} {ds : List Vl} {d : Vl} {S : aO} : Es md ds d S = md (ds ++ [d]) S := rfl
theorem Qo {j k n : Nat} {ps : List Str} {md : FD} {kw : Str} {dv : L2.V} {kpos : Pos} (F : OkK X.prog X.w X.K X.mg X.base j x ps n kw dv (spF X.K md)) (hr : Room k X.A) (tk : Takes X W) (ha : PA X (e :: es) (Ef X.K W mas)) (hv : PE X a (cW X.K W ma)) (hjk : j <= k := by decide) (hg : Gl X x := by rfl) (hdb : (x == ("__debug__" : Str)) = false := by decide)
  (hall : (backToKw pos (keywordEach [⟨some kw, a, kpos⟩] X.env)).all (·.1.isSome) = true := by rfl) (hks : (backToKw pos (keywordEach [⟨some kw, a, kpos⟩] X.env)).filterMap (·.1) = [kw] := by rfl)
  (he : starEach (e :: es) X.env = (false, eval e X.env) :: starEach es X.env := by rfl) (hpl : ((backTo pos (starEach (e :: es) X.env)).any (·.1) || (backToKw pos (keywordEach [⟨some kw, a, kpos⟩] X.env)).any (·.1.isNone)) = false := by rfl) : PE X (.Call (.Name x p) (e :: es) [⟨some kw, a, kpos⟩] pos) (cW X.K W (Hw n md mas ma)) := by
 obtain ⟨fd, F, hm, hk, _, hb⟩ := F;refine ⟨fun pins s σ H Q I h => ?_⟩
 have h' : Ef X.K W mas σ H fun vs H1 => tCons (cW X.K W ma) tNil σ H1 fun zs H2 => vs.length = n /\ zs.length = 1 /\ spF X.K md (vs ++ zs) H2 Q (WE W σ) := by
  refine cU (k := fun ds ρ S1 => if ds.length = n then (ma ρ S1).bind fun d S2 => md (ds ++ [d]) S2 else .stuck) h fun B φ S ρ ds vs H1 I E r f => ?_
  split at f
  case isFalse => exact f.elim
  rename_i hl;exact jB I E f fun φ' S' d v H2 I2 X2 E2 r2 f2 => ⟨by rw [r.len]; exact hl, rfl, B, φ', S', ds ++ [d], I2, RepVs.snoc (r.ext X2 I) r2, f2.toE⟩
 refine wpAny_Call_Name_kw (ld_glob I hg hm ?_ hdb)
 refine Ik (h₀ := X.base) I.ok.mod.kin hk hall (thn (ha.run pos pins s σ H _ I h') fun us s1 ⟨vs, H1, I1, r, q⟩ => ?_) hpl he
 refine thn ((pk_cons hv pk_nil : PK X [⟨some kw, a, kpos⟩] _).run pos pins s1 σ H1 _ I1 q) fun ws s2 ⟨zs, H2, I2, rz, l1, l2, q2⟩ => ⟨I2.kIn, ?_⟩
 rw [hks];have r2 := hb.rel r rz;refine wpAny_call (codeAny_mono (F.run X.A X.stack s2 H2 ⟨us, [kw].zip ws⟩ (us ++ ws) (vs ++ zs) Q (WE W σ) (hr.mono hjk) I2.env0 (hb.to s2 us ws I2.kIn (r.length.symm.trans l1) (rz.length.symm.trans l2)) r2 q2) fun r s' hq => ?_)
 cases r with
 | error e => exact passAt tk σ pins H2 s2 e s' I2 hq
 | ok fl =>
  cases fl with
  | ret u => exact I2.after hq
  | next => exact False.elim hq
  | brk => exact False.elim hq
  | cont => exact False.elim hq
end
section
variable {P : Program} {w : World} {K : aD} {mg : Str -> Option Value} {base : Heap}
abbrev FnK (K : aD) (x : Str) (st : Stmt) (kw : Str) (dv : L2.V) : Prop := ∃ fd, FunD K x x (defArgs st) (defBody st) (defScope st) [] [(kw, dv)] (He.ga K x) fd
theorem okK {x kw : Str} {dv : L2.V} {st : Stmt} {N ps : List Str} {k n : Nat} {md : FD} {mb : FS} (F : FnK K x st kw dv) (g : mg x = some (.ref (He.ga K x))) (S : FnScope N ps (defScope st)) (R : Runs md N.length ps.length mb) (hn : n + 1 = ps.length)
  (b0 : ∀ (D : Addr) (doc pm : Value) (an : Option Addr) (cdv ct : Value) (us ks : List Value), us.length = n -> ks.length = 1 -> KwChain D ([kw].zip ks) (bindArgs (cZ x x (defArgs st) (defBody st) (defScope st) .none (.ref D) doc pm an cdv ct) ⟨us, []⟩) (ps.zip (us ++ ks)))
  (b1 : ∀ (kV doc pm : Value) (an : Option Addr) (cdv ct : Value) (us ws : List Value), us.length = n -> ws.length = 1 -> bindArgs (cZ x x (defArgs st) (defBody st) (defScope st) .none kV doc pm an cdv ct) ⟨us, [kw].zip ws⟩ = pure (ps.zip (us ++ ws)))
  (hbody : ∀ (cdv : Value) (A : Around) (outer : List Env) (s : Shared) (H : Hp) (E : XK), Room k (A.deeper (envOfC x (defScope st) s.heap.objs.size (He.ga K x) cdv)) -> PSs (cxOf (L2.CX P w) P w K mg base N x (defScope st) (He.ga K x) cdv A outer s H E) (defBody st) (lD K (fun c x _ H => E c x H) mb)) : OkK P w K mg base (k + 1) x ps n kw dv (spF K md) := by
 obtain ⟨fd, F⟩ := F;refine ⟨fd, FunD.ok F S (yD R) fun cdv A outer s H vs Q E hr hsp => ⟨_, hbody cdv A outer s H E hr, uK R hsp⟩, g, F.kp, F.binds0 n (by simp) hn b0, ⟨fun s us ws _ l1 l2 => ?_, fun r1 r2 => r1.append r2⟩⟩
 obtain ⟨oc, od, dV, kV, doc, pm, an, cdv, ct, osl, rfl, lk, hcd, hD, hK⟩ := F.ex;rcases hD with ⟨_, rfl⟩ | ⟨e, _⟩
 ·exact .of_eq (b1 kV doc pm an cdv ct us ws l1 l2)
 ·exact absurd rfl e
end
def EV0 := aF @eF (aF @CQ (aF @lN (aF @Kw (aF @Rr (aF @g_c (aF @g_op (aF @g_op1 (aF @g_1 (aF @g_B (aF @g_unB (aF @Na (aF @g_and (aF @g_or (aF @Ru (aF @Nh (aF @Ni (aF @QE (aF @QF (aF @Tx (aF @UE (aF @g_orV (aF @L3 (aF @L5 (aF @Nf (aF @Ng (aF @Tq (aF @QL (aF @g_kNV (aF @g_orT (aF @U0 (aF @Nj (aF @Nk (aF @NZ (aF @QU (aF @g_ch1 (aF @g_ch2 (aF @QV (aF @QW (aF @g_if (aF @QG (aF @QH (aF @Nc (aF @IP (aF @Ex (aF @Ew (aF @g_lst (aF @g_tup (aF @IR (aF @Gk (aF @kTup0 (aF @kTup1 (aF @kTup2 (aF @kTup3 (aF @kTup4 (aF @kLst0 (aF @kLst1 (aF @kLst2 (aF @kLst3 (@Ts)))))))))))))))))))))))))))))))))))))))))))))))))))))))))))
def EV1 := aF @Tr (aF @IQ (aF @g_sl (aF @g_sl0 (aF @g_sl1 (aF @g_sl2 (aF @g_noP (aF @To (aF @QK (aF @g_frz (aF @g_app (aF @Jb (aF @IM (aF @Kx (aF @Ky (aF @L0 (aF @Kz (aF @Tf (aF @g_ret (aF @Tz (aF @UA (aF @QO (aF @Rv (aF @Nn (aF @Np (aF @Rw (aF @U3 (aF @QQ (aF @QP (aF @g_for (aF @U2 (aF @g_lc (aF @Ti (aF @Nx (aF @Nw (aF @Tj (aF @QA (aF @U9 (aF @QN (aF @Ta (aF @Ge (aF @IJ (aF @IK (aF @UF (aF @Te (aF @g_ltI (aF @g_leI (aF @g_gtI (aF @g_geI (aF @g_eqI (aF @g_neI (aF @g_eqS (aF @g_neS (aF @g_eqB (aF @g_neB (aF @g_neg (aF @U4 (aF @U5 (aF @Tv (@Tw)))))))))))))))))))))))))))))))))))))))))))))))))))))))))))
def EV2 := aF @Gj (aF @Ja (aF @Tc (aF @Td (aF @Gh (aF @Gi (aF @g_slT (aF @g_slL (aF @g_slS (aF @QD (aF @QC (aF @NY (aF @QB (aF @Nb (aF @L8 (aF @L7 (aF @Th (aF @QI (aF @Tu (aF @Tt (aF @Nl (aF @g_fld (aF @QM (aF @Tb (aF @Gf (aF @IL (aF @lR (aF @zG (aF @Qe (aF @Qd (aF @Qc (aF @Qb (aF @Qa (aF @QZ (aF @QY (aF @QX (aF @O1 (aF @O0 (aF @Nz (aF @Ny (aF @Tn (aF @QJ (aF @Nd (aF @U6 (aF @g_inO (aF @Qg (aF @U7 (aF @QT (aF @Nq (aF @g_lcC (aF @Nm (aF @Qf (aF @Nv (aF @Jd (aF @Dt (aF @Du (@EW))))))))))))))))))))))))))))))))))))))))))))))))))))))))
end PH
local macro_rules
 | `(tactic| simp! [$xs,*] $[$l:location]?) => `(tactic| simp (config := { implicitDefEqProofs := false }) only [$xs,*, PH.EV0, PH.EV1, PH.EV2, cK, bW, Bool.not_true, Bool.not_false, eq_self, if_true, if_false, Bool.true_or, Bool.false_or, Bool.or_true, HZ, AD, Bool.true_and, Bool.and_false, Bool.false_and, eI, aR, cY, beq_self_eq_true, Ai, PH.lk, PH.isTy, PH.fIsi, PH.fIsi2, PH.kindOf, PH.wipeE, decide_true, decide_false, Int.reduceEq, Int.reduceLT, Int.reduceLE, Int.reduceSub, Int.reduceAdd, Int.reduceNeg, Int.reduceToNat, Int.reduceNe, Nat.reduceAdd, Nat.reduceLT, Nat.reduceLeDiff, String.reduceEq, String.reduceBEq] $[$l:location]?)
namespace PH
open PySem PySem.Spec PyProof.Rows L2
structure FnG (P : Program) (w : World) (K : aD) (mg : Str -> Option Value) (base : Heap) (CX : CXT) (k : Nat) (f : Addr) (fd : FuncData) (ps : List Str) (sp : Sp) : Prop where
 len : ∀ vs H Q E, sp vs H Q E -> vs.length = ps.length
 run : ∀ (A : Around) (outer : List Env) (s : Shared) (H : Hp) (args : Args) (us : List Value) (vs : List V) (Q : VK) (E : XK), Room k A -> A.guards = some [] -> Env0 P w K mg base A outer s H -> BindsTo s fd args (ps.zip us) -> Vals vs us -> sp vs H Q E ->
  codeAny (model P w) A (.call (.ref f) args) (CR CX outer P w H s Q E) s
section
variable {P : Program} {w : World} {K : aD} {mg mb : Str -> Option Value} {base : Heap} {CX : CXT} {k j : Nat} {f : Addr} {fd : FuncData} {ps : List Str} {sp : Sp}
theorem O3 {name qual : Str} {params : Arguments} {body : List Stmt} {scope : Scope} {dV kV doc pm cdv ct oc : Value} {an od : Option Addr} {osl : Array (Option Value)} {N : List Str} (lk : K.lookup f = some ⟨oc, od, .func (cZ name qual params body scope dV kV doc pm an cdv ct), osl⟩) (hcd : PySem.W.codeIn K cdv qual = true) (S : FnScope N ps scope) (len : ∀ vs H Q E, sp vs H Q E -> vs.length = ps.length)
  (hbody : ∀ (A : Around) (outer : List Env) (s : Shared) (H : Hp) (vs : List V) (Q : VK) (E : XK), Room k (A.deeper (envOfC qual scope s.heap.objs.size f cdv)) -> A.guards = some [] -> sp vs H Q E ->
   ∃ t, PSs (cxOf CX P w K mg base N qual scope f cdv A outer s H E) body t /\ t { nx := fun _ H' => Q .non H', rt := Q } (start N vs) H) :
  FnG P w K mg base CX (k + 1) f (cZ name qual params body scope dV kV doc pm an cdv ct) ps sp := by
 refine ⟨len, fun A outer s H args us vs Q E hr hgd e0 hb rv hsp => ?_⟩
 have KX : K.In s.heap := e0.mod.kin.keeps fun b o e => (e0.bs b o e).1
 have lim : s.heap.NoLimit := e0.mod.nolimit.keeps fun b o e => (e0.bs b o e).1
 have names : ∀ y ∈ ps.zip us, scope.names.lookup y.1 = some .local \/ (scope.names.lookup y.1 = some .cell /\ ((cellsFrom (s.heap.objs.size + 1) scope.names []).lookup y.1).isSome = true) := fun y hy => by
  obtain ⟨n, v⟩ := y;exact (S.par n (List.of_mem_zip hy).1).imp id fun q => ⟨q, FP _ _ _ (.inl q)⟩
 refine codeAny_call_function hr.depth (KX _ _ lk) rfl S.co S.gen rfl (K0 KX hcd) (hb _ _ _ _ (wpAny_newFunctionEnv_cells S.kind names fun env he s1 x => ?_))
 subst he;obtain ⟨t, ht, hq⟩ := hbody A outer s H vs Q E (hr.deeper _) hgd hsp;have I := inv_start (CX := CX) (E := E) S hr.hd e0 (len _ _ _ _ hsp) rv x;refine ⟨lim.keeps x.toInCall.keep, codeAny_func (wpAny_mono (ht.run [] s1 (start N vs) H _ I hq) (fun fl s' hs => ?_) fun e s' hs => hs)⟩
 cases fl with
 | ret u => obtain ⟨v, σ', H', J, r, q⟩ := hs; exact ⟨v, H', J.os, J.bare, J.base, J.hok, r, q⟩
 | next => obtain ⟨σ', H', J, q⟩ := hs; exact ⟨V.non, H', J.os, J.bare, J.base, J.hok, rfl, q⟩
 | brk => obtain ⟨_, _, _, q⟩ := hs; exact q.elim
 | cont => obtain ⟨_, _, _, q⟩ := hs; exact q.elim
end
def OkG (P : Program) (w : World) (K : aD) (mg : Str -> Option Value) (base : Heap) (k : Nat) (x : Str) (ps : List Str) (sp : Sp) : Prop :=
 ∃ fd, FnG P w K mg base (L2.CX P w) k (He.ga K x) fd ps sp /\ mg x = some (.ref (He.ga K x)) /\ gW K (.ref (He.ga K x)) = true /\ Binds K fd ps []
section
variable {X : Cx} {W : WX} {e : Expr} {es : List Expr} {pos p : Pos} {x : Str} {mas : FA} {ps : List Str} {md : FD} {j k : Nat} {fd : FuncData} {f : Addr} {sp : Sp}
theorem PU {pins : List (Addr × Obj)} {σ : L2.St} {H : Hp} {s : Shared} {Q : VK} {us : List Value} {vs : List V} (F : FnG X.prog X.w X.K X.mg X.base (L2.CX X.prog X.w) k f fd ps sp) (hr : Room k X.A) (hgd : X.A.guards = some []) (hb : Binds X.K fd ps []) (tk : Takes X W)
  (I : Inv X pins σ H s) (r : Vals vs us) (h : sp vs H Q (WE W σ)) : wpAny (model X.prog X.w) X.A (call (.ref f) us) (EP X pins σ Q) X.xe s := by
 have hl : us.length = ps.length := r.length.symm.trans (F.len _ _ _ _ h);have b := hb s us I.kIn (by rw [cP]; exact hl)
 rw [cP] at b;refine wpAny_call (codeAny_mono (F.run X.A X.stack s H ⟨us, []⟩ us vs Q (WE W σ) hr hgd I.env0 b r h) fun r s' hq => ?_)
 match r, hq with
 | .error e, hq => exact passAt tk σ pins H s e s' I hq
 | .ok (.ret u), hq => exact I.after hq
 | .ok .next, hq => exact hq.elim
 | .ok .brk, hq => exact hq.elim
 | .ok .cont, hq => exact hq.elim
theorem zK (F : OkG X.prog X.w X.K X.mg X.base j x ps (spF X.K md)) (hr : Room k X.A) (hgd : X.A.guards = some []) (tk : Takes X W) (ha : PA X (e :: es) (Ef X.K W mas)) (hjk : j <= k := by decide) (hg : Gl X x := by rfl) (hdb : (x == ("__debug__" : Str)) = false := by decide)
  (he : starEach (e :: es) X.env = (false, eval e X.env) :: starEach es X.env := by rfl) (hpl : (backTo pos (starEach es X.env)).any (·.1) = false := by rfl) : PE X (.Call (.Name x p) (e :: es) [] pos) (cW X.K W (aY md mas)) := by
 obtain ⟨fd, F, hm, hk, hb⟩ := F;have h0 : PE X (.Call (.Name x p) (e :: es) [] pos) (tCallS (spF X.K md) (WE W) (Ef X.K W mas)) := ⟨fun pins s σ H Q I h => by
  refine wpAny_Call_Name_kw (ld_glob I hg hm ?_ hdb)
  refine xX (h₀ := X.base) I.ok.mod.kin hk (thn (ha.run pos pins s σ H _ I h) fun us s1 ⟨vs, H1, I1, r, q⟩ => ⟨I1.kIn, ?_⟩) he hpl
  exact PU F (hr.mono hjk) hgd hb tk I1 r q⟩
 exact dD h0 fun σ H Q h => cU (k := fun ds _ S => md ds S) h fun B φ S ρ d v H1 I E r f => ⟨B, φ, S, d, I, r, f.toE⟩
end
section
variable {P : Program} {w : World} {K : aD} {mg : Str -> Option Value} {base : Heap}
theorem okG {x : Str} {st : Stmt} {N ps : List Str} {k : Nat} {md : FD} {mb : FS} (F : qQ K x st) (g : mg x = some (.ref (He.ga K x))) (S : FnScope N ps (defScope st)) (R : Runs md N.length ps.length mb)
  (bnd : ∀ (kV doc pm : Value) (an : Option Addr) (cdv ct : Value) (us : List Value), us.length = ps.length -> bindArgs (cZ x x (defArgs st) (defBody st) (defScope st) .none kV doc pm an cdv ct) ⟨us, []⟩ = pure (ps.zip us))
  (hbody : ∀ (cdv : Value) (A : Around) (outer : List Env) (s : Shared) (H : Hp) (E : XK), Room k (A.deeper (envOfC x (defScope st) s.heap.objs.size (He.ga K x) cdv)) -> A.guards = some [] ->
   PSs (cxOf (L2.CX P w) P w K mg base N x (defScope st) (He.ga K x) cdv A outer s H E) (defBody st) (lD K (fun c x _ H => E c x H) mb)) : OkG P w K mg base (k + 1) x ps (spF K md) := by
 obtain ⟨fd, F⟩ := F;refine ⟨fd, ?_, g, F.kp, F.bindsN bnd⟩
 obtain ⟨oc, od, dV, kV, doc, pm, an, cdv, ct, osl, e, lk, hc⟩ := F.ex;subst e;exact O3 lk hc.1 S (yD R) fun A outer s H vs Q E hr hgd hsp => ⟨_, hbody cdv A outer s H E hr hgd, uK R hsp⟩
theorem N6 {x : Str} {st : Stmt} {N ps : List Str} {k : Nat} {md : FD} {mb : FS} (F : qQ K x st) (S : FnScope N ps (defScope st)) (R : Runs md N.length ps.length mb)
  (bnd : ∀ (kV doc pm : Value) (an : Option Addr) (cdv ct : Value) (us : List Value), us.length = ps.length -> bindArgs (cZ x x (defArgs st) (defBody st) (defScope st) .none kV doc pm an cdv ct) ⟨us, []⟩ = pure (ps.zip us))
  (hbody : ∀ (base : Heap) (cdv : Value) (A : Around) (outer : List Env) (s : Shared) (H : Hp) (E : XK), Room k (A.deeper (envOfC x (defScope st) s.heap.objs.size (He.ga K x) cdv)) -> A.guards = some [] ->
   PSs (cxOf (L2.CX P w) P w K mg base N x (defScope st) (He.ga K x) cdv A outer s H E) (defBody st) (lD K (fun c x _ H => E c x H) mb)) :
  ∃ fd, (∀ (s : Shared) (us : List Value), us.length = ps.length -> BindsTo s fd ⟨us, []⟩ (ps.zip us)) /\ ∀ base, FnG P w K mg base (L2.CX P w) (k + 1) (He.ga K x) fd ps (spF K md) := by
 obtain ⟨fd, F⟩ := F;refine ⟨fd, fun s us hl => F.bindsA bnd s us hl, fun base => ?_⟩
 obtain ⟨oc, od, dV, kV, doc, pm, an, cdv, ct, osl, e, lk, hc⟩ := F.ex;subst e;exact O3 lk hc.1 S (yD R) fun A outer s H vs Q E hr hgd hsp => ⟨_, hbody base cdv A outer s H E hr hgd, uK R hsp⟩
theorem IH {H : Hp} {h : Heap} {a : Addr} {vs : List Value} (ha : h.get? a = some { cls := .type "list", data := .seq vs.toArray }) (only : ∀ b, H b ≠ none -> b = a) {b : Addr} {m : Str -> Option Value} (n : h.Ns b m) : (hidT h H).Ns b m := by
 obtain ⟨o, es, ep, e, d, r⟩ := n;refine ⟨o, es, ep, hidT_get e ?_, d, r⟩
 by_cases q : H b = none
 ·exact q
 ·have e' := only b q
  subst e';rw [ha] at e;cases e;cases d
theorem TV {H : Hp} {h : Heap} {a : Addr} (KX : K.In h) (only : ∀ b, H b ≠ none -> b = a) (hK : H a ≠ none -> K.lookup a = none) : K.In (hidT h H) := fun b o e => hidT_get (KX b o e) (by
 by_cases q : H b = none
 ·exact q
 ·have e' := only b q
  subst e';rw [hK q] at e;cases e)
theorem GM {mb : Str -> Option Value} {k : Nat} {fa a : Addr} {fd : FuncData} {x : Str} {sp : Sp} {s : Shared} {vs : List Value} {H : Hp} {vl : List V} (KX : K.In s.heap) (hns : s.heap.Ns mainGlobals mg) (hb : s.heap.Ns builtinsNs mb) (hbb : ∀ x : Str, x ≠ "__name__" -> mb x = bootBuiltins x) (hlim : s.heap.NoLimit) (hg : s.gens = #[])
  (ha : s.heap.get? a = some { cls := .type "list", data := .seq vs.toArray }) (hr : Room k callerA) (F : ∀ base : Heap, K.In base -> base.Ns mainGlobals mg -> FnG P w K mg base (L2.CX P w) k fa fd [x] sp) (hbind : ∀ (s : Shared) (u : Value), BindsTo s fd ⟨[u], []⟩ [(x, u)])
  (hsp : sp [.ref a] H (fun v _ => v = .bl true) fun _ _ _ => False) (hO : Only H) (hok : HOk P w H s.heap) (only : ∀ b, H b ≠ none -> b = a) (hK : H a ≠ none -> K.lookup a = none) :
  codeAny (model P w) callerA (.call (.ref fa) ⟨[.ref a], []⟩) (fun r s' => r = .ok (.ret (.bool true)) /\ OldK s.heap s'.heap /\ s'.os = s.os /\ AllBare s'.gens) s := by
 have hin := TV KX only hK;have hn := IH ha only hns;obtain ⟨mc, l1, l2⟩ := hlim;have e0 : Env0 P w K mg (hidT s.heap H) callerA [] s H := ⟨rfl, ⟨hin, hn, ⟨mb, IH ha only hb, hbb⟩, ⟨mc, IH ha only l1, l2⟩⟩, fun b o e => of_hidT e, Nat.le_of_eq (hidT_size _ _), trivial, fun b hb => absurd (show b ∈ ([] : List Addr) from hb) (by simp), hok, .of_eq hg⟩
 refine codeAny_mono ((F _ hin hn).run callerA [] s H ⟨[.ref a], []⟩ [.ref a] [.ref a] _ _ hr rfl e0 (hbind s (.ref a)) (.cons rfl .nil) hsp) fun r s' h => ?_
 match r, h with
 | .error e, z => obtain ⟨_, _, _, _, _, _, _, _, _, _, _, _, z⟩ := z; exact z.elim
 | .ok .next, z => exact z.elim
 | .ok .brk, z => exact z.elim
 | .ok .cont, z => exact z.elim
 | .ok (.ret u), ⟨v, H', os, bare, un, hok', rv, q⟩ =>
  obtain rfl : v = .bl true := q;obtain rfl : u = Value.bool true := rv;refine ⟨rfl, OldK.of_keep fun b o e => ?_, os, bare⟩
  rcases hO b with z | ⟨ob, xs, z⟩
  ·exact un.keep b o e z (by intro z; exact absurd (show b ∈ ([] : List Addr) from z) (by simp)) (by simp)
  ·obtain ⟨e1, _⟩ := hok b _ z
   obtain ⟨e2, _⟩ := hok' b _ (un.frzs b ob _ z);rw [e] at e1;cases e1;exact e2
theorem Kq {mb : Str -> Option Value} {k : Nat} {fa a : Addr} {fd : FuncData} {x : Str} {sp : Sp} {s : Shared} {vs : List Value} {ns : List Int} (KX : K.In s.heap) (hns : s.heap.Ns mainGlobals mg) (hb : s.heap.Ns builtinsNs mb) (hbb : ∀ x : Str, x ≠ "__name__" -> mb x = bootBuiltins x) (hlim : s.heap.NoLimit) (hg : s.gens = #[])
  (ha : s.heap.get? a = some { cls := .type "list", data := .seq vs.toArray }) (hi : IntsAre vs ns) (hl : ns.length <= sizeLine) (hr : Room k callerA) (F : ∀ base : Heap, K.In base -> base.Ns mainGlobals mg -> FnG P w K mg base (L2.CX P w) k fa fd [x] sp) (hbind : ∀ (s : Shared) (u : Value), BindsTo s fd ⟨[u], []⟩ [(x, u)])
  (hsp : ∀ H : Hp, Only H -> SqL K H a (ns.map V.int) -> sp [.ref a] H (fun v _ => v = .bl true) fun _ _ _ => False) :
  codeAny (model P w) callerA (.call (.ref fa) ⟨[.ref a], []⟩) (fun r s' => r = .ok (.ret (.bool true)) /\ OldK s.heap s'.heap /\ s'.os = s.os /\ AllBare s'.gens) s := by
 have rv := vals_ints hi;cases hk : K.lookup a with
 | some o =>
  obtain rfl : o = { cls := .type "list", data := .seq vs.toArray } := Option.some.inj ((KX a o hk).symm.trans ha);have hO : Only fun _ => none := fun _ => .inl rfl
  exact GM (vl := []) KX hns hb hbb hlim hg ha hr F hbind (hsp _ hO (.inr ⟨_, vs.toArray, _, hk, rfl, rfl, rfl, by rw [sI, hi.length]; exact hl, by simpa using rv⟩)) hO (fun b u z => by cases z) (fun b z => absurd rfl z) fun z => absurd rfl z
 | none =>
  let H : Hp := fun b => if b = a then some (.frz { cls := .type "list", data := .seq vs.toArray } (.lst (ns.map V.int))) else none
  have at_ : H a = some (.frz { cls := .type "list", data := .seq vs.toArray } (.lst (ns.map V.int))) := if_pos rfl;have off : ∀ b, b ≠ a -> H b = none := fun b hb => if_neg hb
  have only : ∀ b, H b ≠ none -> b = a := fun b z => Classical.byContradiction fun q => z (off b q)
  have hO : Only H := fun b => by
   by_cases q : b = a
   ·subst q; exact .inr ⟨_, _, at_⟩
   ·exact .inl (off b q)
  refine GM (vl := []) KX hns hb hbb hlim hg ha hr F hbind (hsp H hO (.inl (.inr ⟨_, at_⟩))) hO (fun b u z => ?_) only fun _ => hk
  by_cases q : b = a
  ·subst q
   rw [at_] at z;cases z;exact ⟨ha, by rw [aN]; exact hl, vs, _, rv, ha⟩
  ·rw [off b q] at z
   cases z
end
theorem walk_g {l : PySem.W.OpenLaw} {n k : Nat} {q : Program} {loose : List Str} {XP : (Str -> Option Value) -> Heap -> Prop} {YP : World -> Heap -> Prop} {d : DefRec} {x : Str} (e1 : l.most = some n) (e2 : n <= sizeLine) (e3 : d.params.defaults = []) (e4 : Room k callerA)
  (e5 : ∀ (w : World) (mg : Str -> Option Value) (fa : Addr) (h : Heap), YP w h -> h.Ns mainGlobals mg -> mg d.name = some (.ref fa) -> ∃ (K : aD) (fd : FuncData) (sp : Sp), K.In h /\ (∀ (s : Shared) (u : Value), BindsTo s fd ⟨[u], []⟩ [(x, u)]) /\
   (∀ (H : Hp) (a : Addr) (ns : List Int), ns.length <= n -> Only H -> SqL K H a (ns.map V.int) -> sp [.ref a] H (fun v _ => v = .bl true) fun _ _ _ => False) /\ ∀ base : Heap, K.In base -> base.Ns mainGlobals mg -> FnG l.prog w K mg base (L2.CX l.prog w) k fa fd [x] sp) :
  PySem.W.WalkO q loose XP YP l.row.toRowW d [] (fun f vs => PySem.call f vs) :=
 Att.attach_call e1 e3 fun w s0 s1 mg mb fa o pm cd doc a vs ns G Y _ _ _ m1 m2 m3 m4 m5 => by
  obtain ⟨K, fd, sp, KX, hb, hs, hF⟩ := e5 w mg fa _ Y G.T.g m1;exact Kq KX G.T.g G.T.b G.T.builtins G.T.nolimit m5 m2 m3 (cC m4 e2) e4 hF hb fun H h1 h2 => hs H a ns m4 h1 h2
section
variable {X : Cx} {W : WX} {e a b c o i : Expr} {es rest : List Expr} {pos pos' p q p2 tpos apos cpos : Pos} {x y z C f : Str} {K : aD} {ma mb mc mo me mi mv : FE} {mt mu : FT} {mas : FA} {B : Addr -> Prop} {φ φ' : List Addr} {S S' : aO} {H H' : Hp} {σ : L2.St} {Q : VK} {m n : FS} {st : Stmt} {gM : List Stmt} {D : Ends} {t t1 : Tg}
theorem FY {k : Str} : ∀ {vs : List (Str × V)}, valV (iH vs) (Sum.inr k) = vs.lookup k
 | [] => rfl
 | (g, v) :: r => by
  have e : iH ((g, v) :: r) = (Sum.inr g, v) :: iH r := rfl;rw [e, eP]
  by_cases h : k = g
  ·subst h
   rw [valV_pos rfl];simp
  ·rw [valV_neg (fun q => h (Sum.inr.inj q).symm), FY, show (k == g) = false from beq_eq_false_iff_ne.mpr h]
theorem N8 {vs : List (Str × V)} : (iH vs).length = vs.length := by simp [iH]
theorem SZ {k : Str} {v : V} : ∀ {vs : List (Str × V)}, (vs.map Prod.fst).Nodup -> putK (iH vs) (Sum.inr k) v = iH (putF k v vs) := by
 have map_no : ∀ {vs : List (Str × V)}, k ∉ vs.map Prod.fst -> (iH vs).map (fun kv => if kv.1 = (Sum.inr k : Key) then (kv.1, v) else kv) = iH vs := fun {vs} h => by
  induction vs with
  | nil => rfl
  | cons g r ih =>
   simp only [aM, bM, not_or] at h;have e : iH (g :: r) = (Sum.inr g.1, g.2) :: iH r := rfl;rw [e, aM, ih h.2, if_neg fun q => h.1 (Sum.inr.inj q).symm]
 have any_no : ∀ {vs : List (Str × V)}, ((iH vs).any fun kv => decide (kv.1 = (Sum.inr k : Key))) = decide (k ∈ vs.map Prod.fst) := fun {vs} => by
  induction vs with
  | nil => rfl
  | cons g r ih =>
   have e : iH (g :: r) = (Sum.inr g.1, g.2) :: iH r := rfl;rw [e, AC, ih]
   by_cases q : g.1 = k
   ·simp [q]
   ·have q' : ¬ k = g.1 := fun z => q z.symm
    simp [q, q', Sum.inr.injEq]
 intro vs hn
 induction vs with
 | nil => rfl
 | cons g r ih =>
  obtain ⟨g1, g2⟩ := g;simp only [aM, List.nodup_cons] at hn;have e : iH ((g1, g2) :: r) = (Sum.inr g1, g2) :: iH r := rfl
  by_cases q : g1 = k
  ·subst q
   unfold putK putF;rw [if_pos (by rw [e, AC]; simp), e, aM, if_pos rfl, map_no hn.1, if_pos rfl]
   rfl
  ·have ih := ih hn.2
   unfold putK at ih ⊢;unfold putF;rw [if_neg q];have e2 : iH ((g1, g2) :: putF k v r) = (Sum.inr g1, g2) :: iH (putF k v r) := rfl;rw [e2, <- ih, e, AC, show decide ((Sum.inr g1 : Key) = Sum.inr k) = false from decide_eq_false fun z => q (Sum.inr.inj z), Bool.false_or]
   by_cases z : ((iH r).any fun kv => decide (kv.1 = (Sum.inr k : Key))) = true
   ·rw [if_pos z, if_pos z, aM, if_neg fun z => q (Sum.inr.inj z)]
   ·rw [if_neg z, if_neg z]
    rfl
theorem RepF.fsts : ∀ {fs : List (Str × Vl)} {vs : List (Str × V)}, RepF K B φ S H fs vs -> vs.map Prod.fst = fs.map Prod.fst
 | [], vs, h => by cases h; rfl
 | d :: ds, vs, ⟨v, ws, e, _, h2⟩ => by subst e; simp [RepF.fsts h2]
def rDGet : R2 := fun x y H Q => ∃ a v, x = .ref a /\ DGet H a y (some v) /\ Q v H
def dC (x y : Vl) (S : aO) : Res Vl := match x, y with
 | .cel n, .dat (.str k) => (match S[n]? with
  | some (.dct fs) => (match fs.lookup k with
   | some d => .ok d S
   | none => .stuck)
  | _ => .stuck)
 | _, _ => .stuck
theorem Jj {n : Nat} {k : Str} {fs : List (Str × Vl)} {d : Vl} {v : V} (I : GInv K B φ S H) (r : RepV K B φ S H (.cel n) v) (h : S[n]? = some (.dct fs)) (hl : fs.lookup k = some d) : ∃ a u, v = .ref a /\ DGet H a (.str k) (some u) /\ RepV K B φ S H d u := by
 obtain ⟨a, rfl, h1⟩ := r;obtain ⟨vs, h2, h3⟩ := I.ok n _ a h h1;obtain ⟨u, h4, h5⟩ := h3.look hl;exact ⟨a, u, rfl, by have := DGet.k (k := Sum.inr k) h2; rw [FY, h4] at this; exact this, h5⟩
theorem SW : eX K rDGet dC := fun {W σ B φ S H x y d e Q} I r1 r2 f => by
 unfold dC at f;split at f
 ·rename_i n k
  cases r2;split at f
  ·rename_i fs q
   split at f
   ·rename_i d' ql
    obtain ⟨a, u, rfl, g, ru⟩ := Jj I r1 q ql;exact ⟨a, u, rfl, g, Fin.now f I ru⟩
   ·exact f.elim
  ·exact f.elim
 ·exact f.elim
theorem dN (hu : X.A.units + 64 < cLine) (ho : PE X o (cW X.K W mo)) (hi : PE X i (cW X.K W mi)) (hs : NoSl i := by intro _ _; rfl) : PE X (.Subscript o i pos) (cW X.K W (aP dC mo mi)) := dD (pe_dget (by omega) ho hi hs) fun σ H Q h => Bp SW h
def Ff (S : aO) (x y d : Vl) : Option aO := match x, y with
 | .cel n, .dat (.str k) => (match S[n]? with
  | some (.dct fs) => if fs.length < 1000 /\ (fs.map Prod.fst).Nodup then some (S.set n (.dct (nJ k d fs))) else none
  | _ => none)
 | _, _ => none
theorem Iz {x y d : Vl} {S3 : aO} {vx vy v : V} (I : GInv K B φ S H) (rx : RepV K B φ S H x vx) (ry : RepV K B φ S H y vy) (r : RepV K B φ S H d v) (h : Ff S x y d = some S3) : ∃ a H', vx = .ref a /\ DPut H a vy v H' /\ GInv K B φ S3 H' /\ Ext φ S H φ S3 H' := by
 unfold Ff at h;split at h
 ·rename_i n k
  obtain ⟨a, rfl, h1⟩ := rx;cases ry;split at h
  ·rename_i fs q
   split at h
   ·rename_i hc
    obtain ⟨hl, hn⟩ := hc;cases h;obtain ⟨vs, h4, h5⟩ := I.ok n _ a q h1;have X3 := Ext.put (H := H) (o := .dK (iH (putF k v vs))) (x := .dct (nJ k d fs)) q (by simp) h1 (by simp)
    have I3 := I.put q (by simp) h1 (by simp) (x := .dct (nJ k d fs)) (o := .dK (iH (putF k v vs))) ⟨putF k v vs, upd_same, (RepF.put r h5).ext X3 I⟩
    have g := DPut.k (k := Sum.inr k) (v := v) h4 (by rw [N8, h5.len]; exact Nat.lt_trans hl (by decide))
    rw [SZ (by rw [h5.fsts]; exact hn)] at g
    exact ⟨a, _, rfl, g, I3, X3⟩
   ·cases h
  ·cases h
 ·cases h
def CD (o i v : FE) : FS := fun ρ S => (v ρ S).toS ρ fun d S1 => (o ρ S1).toS ρ fun x S2 => (i ρ S2).toS ρ fun y S3 => match Ff S3 x y d with
 | some S4 => .next ρ S4
 | none => .stuck
theorem zH (hu : X.A.units + 64 < cLine) (ho : PE X o (cW X.K W mo)) (hi : PE X i (cW X.K W mi)) (hv : PE X e (cW X.K W mv)) (hs : swapsWith e (some (.Subscript o i pos')) pos.line X.env = pure false := by rfl) : PS X (.Assign [.Subscript o i pos'] e pos) (lD X.K W (CD mo mi mv)) := fM (ps_dput (by omega) ho hi hv hs) fun D σ H h => by
 obtain ⟨B, φ, S, ρ, I, E, f'⟩ := h;refine cG I E f' fun φ1 S1 d1 v1 H1 I1 X1 E1 r1 f1 => cG I1 E1 f1 fun φ2 S2 d2 v2 H2 I2 X2 E2 r2 f2 => cG I2 E2 f2 fun φ3 S3 d3 v3 H3 I3 X3 E3 r3 f3 => ?_
 split at f3
 ·rename_i S4 q
  obtain ⟨a, H4, e1, g, I4, X4⟩ := Iz I3 (r2.ext X3 I2) r3 ((r1.ext X2 I1).ext X3 I2) q;exact ⟨a, H4, e1, g, f3 φ3 σ H4 I4 X4 (E3.ext X4 I3)⟩
 ·exact f3.elim
def Ap (g : Vl -> Vl -> aO -> Res Vl) (o i v : FE) : FS := fun ρ S => (o ρ S).toS ρ fun x S1 => (i ρ S1).toS ρ fun y S2 => match dC x y S2 with
 | .ok u _ => (v ρ S2).toS ρ fun w S3 => (match g u w S3 with
  | .ok z S4 => (match Ff S4 x y z with
   | some S5 => .next ρ S5
   | none => .stuck)
  | _ => .stuck)
 | _ => .stuck
theorem MJ {g : Vl -> Vl -> aO -> Res Vl} {rd : R2} (s : eX K rd g) (h : lD K W (Ap g mo mi mv) D σ H) : sDAug (cW K W mo) (cW K W mi) (cW K W mv) rd D σ H := by
 obtain ⟨B, φ, S, ρ, I, E, f'⟩ := h;refine cG I E f' fun φ1 S1 d1 v1 H1 I1 X1 E1 r1 f1 => cG I1 E1 f1 fun φ2 S2 d2 v2 H2 I2 X2 E2 r2 f2 => ?_
 split at f2
 ·rename_i u S2' q
  unfold dC at q;split at q
  ·rename_i n k
   have r2' := r2;cases r2;split at q
   ·rename_i fs qn
    split at q
    ·rename_i d' ql
     cases q;obtain ⟨a, uv, ea, gt, ru⟩ := Jj I2 (r1.ext X2 I1) qn ql;subst ea;refine ⟨a, uv, rfl, gt, cG I2 E2 f2 fun φ3 S3 d3 v3 H3 I3 X3 E3 r3 f3 => ?_⟩
     split at f3
     ·rename_i z S4 q4
      refine s (W := W) (σ := σ) I3 (ru.ext X3 I2) r3 ?_
      rw [q4];intro φ4 v4 H4 I4 X4 r4;split at f3
      ·rename_i S5 q5
       obtain ⟨a', H5, e1, g5, I5, X5⟩ := Iz I4 (((r1.ext X2 I1).ext X3 I2).ext X4 I3) ((r2'.ext X3 I2).ext X4 I3) r4 q5;cases e1;exact ⟨H5, g5, f3 φ4 σ H5 I5 (X4.trans X5) ((E3.ext X4 I3).ext X5 I4)⟩
      ·exact f3.elim
     ·exact f3.elim
    ·cases q
   ·cases q
  ·cases q
 ·exact f2.elim
def Gz : Vl -> Vl -> aO -> Res Vl
 | .dat (.int i), .dat (.int j), S => .ok (.dat (.int (i + j))) S
 | _, _, _ => .stuck
def Gv : Vl -> Vl -> aO -> Res Vl
 | .dat (.int i), .dat (.int j), S => .ok (.dat (.int (i - j))) S
 | _, _, _ => .stuck
theorem SX : eX K rAdd Gz := fun {W σ B φ S H x y d e Q} I r1 r2 f => by
 unfold Gz at f;split at f
 ·cases r1; cases r2; exact ⟨_, _, rfl, rfl, Fin.now f I rfl⟩
 ·exact f.elim
theorem SS : eX K rSub Gv := fun {W σ B φ S H x y d e Q} I r1 r2 f => by
 unfold Gv at f;split at f
 ·cases r1; cases r2; exact ⟨_, _, rfl, rfl, Fin.now f I rfl⟩
 ·exact f.elim
def IU (x y : Vl) (S : aO) : Res Vl := match x, y with
 | .cel n, .dat (.lst es) => (match S[n]? with
  | some (.lst ds) => if ds.length + es.length <= sizeLine then .ok (.cel n) (S.set n (.lst (ds ++ es))) else .stuck
  | _ => .stuck)
 | _, _ => .stuck
theorem MT : eX K rExt2 IU := fun {W σ B φ S H x y d e Q} I r1 r2 f => by
 unfold IU at f;split at f
 ·rename_i n es
  obtain ⟨a, rfl, h1⟩ := r1;obtain ⟨b, zs, rfl, nb, h2, l2⟩ := r2;split at f
  ·rename_i ds q
   split at f
   ·rename_i hl
    obtain ⟨vs, h3, l3⟩ := I.ok n _ a q h1;refine ⟨a, b, vs, zs, rfl, rfl, h3, h2, by rw [l3.len, l2.len]; exact hl, ?_⟩
    exact Cf (v := .ref a) (d' := .cel n) (vs := vs) I q h1 (RepL.append l3 l2) ⟨a, rfl, h1⟩ f
   ·exact f.elim
  ·exact f.elim
 ·exact f.elim
theorem vI {op : Operator} {g : Vl -> Vl -> aO -> Res Vl} {rd : R2} (hop : InOp X op rd) (s : eX X.K rd g) (hu : X.A.units + 64 < cLine) (ho : PE X o (cW X.K W mo)) (hi : PE X i (cW X.K W mi)) (hv : PE X e (cW X.K W mv))
  (ha : ∀ ov iv new, augStore i ov iv new = (do holding [new, ov, iv] (setItem ov iv new); release [new, ov, iv] []; pure .next) := by intro _ _ _; rfl) : PS X (.AugAssign (.Subscript o i tpos) op e pos) (lD X.K W (Ap g mo mi mv)) := fM (ps_daug (by omega) ho hi hv hop ha) fun D σ H h => MJ s h
theorem IE : InOp X .Add rExt2 := fun pins s σ H x y u v Q I rx ry h => iop_ext pins s σ H x y u v Q I rx ry h
end
section
variable {X : Cx} {W : WX} {e a b c o i : Expr} {es rest : List Expr} {pos pos' p q p2 tpos apos cpos : Pos} {x y z C f : Str} {K : aD} {ma mb mc mo me mi mv : FE} {mt mu : FT} {mas : FA} {B : Addr -> Prop} {φ φ' : List Addr} {S S' : aO} {H H' : Hp} {σ : L2.St} {Q : VK} {m n : FS} {st : Stmt} {gM : List Stmt} {D : Ends} {t t1 : Tg}
def RX (K : aD) : V -> Hp -> VK -> Prop := fun x H Q => ∃ d : PyData, Dp K H x d /\ d.showable = true /\ d.hasDict = false /\ isDisplay d = true /\ d.depth <= 64 /\ d.shown.length <= sizeLine /\ Q (.str d.shown) H
theorem LP (hgd : X.A.guards = some []) (hu : X.A.units + 100 < cLine) : CallR X (.type "str") (c1 (RX X.K)) := by
 intro pins s σ H xs us Q I rv h
 match xs, h with
 | [x], h =>
  obtain ⟨d, hd, h1, h2, h3, h4, h5, q⟩ := h;cases rv with
  | cons ru rn =>
   cases rn;obtain ⟨as, r1⟩ := Dp.reads I d x _ hd ru;obtain ⟨a, rfl⟩ := isRef_of_reads r1 h3;exact str_of_reads r1 h1 (PyData.noDict_hsm h2) hgd (by omega) (fun _ _ e => e) (fun h' u tk hk => ⟨.str d.shown, H, I.kept hk, ⟨u, rfl⟩, q⟩) h5
def Cv (x : Vl) (S : aO) : Res Vl := match uD S x with
 | some d => if d.showable = true /\ d.hasDict = false /\ isDisplay d = true /\ d.depth <= 64 /\ d.shown.length <= sizeLine then .ok (.dat (.str d.shown)) S else .stuck
 | none => .stuck
theorem s_str : FH K (RX K) Cv := fun {W σ B φ S H x d Q} I r f => by
 unfold Cv at f;split at f
 ·rename_i p hp
  split at f
  ·rename_i h
   exact ⟨p, oJ I hp r, h.1, h.2.1, h.2.2.1, h.2.2.2.1, h.2.2.2.2, Fin.now f I rfl⟩
  ·exact f.elim
 ·exact f.elim
theorem UK (hm : X.mg "str" = none) (hr : X.A.units + 100 < cLine) (hgd : X.A.guards = some []) (ha : PE X a (cW X.K W ma)) (hg : Gl X "str" := by rfl) (hs : starEach [a] X.env = [(false, eval a X.env)] := by rfl) : PE X (.Call (.Name "str" p) [a] [] pos) (cW X.K W (m1 Cv ma)) :=
 dD (pe_callTy (LP hgd hr) hg hm (by decide +kernel) (pa_cons ha pa_nil hs) (he := hs)) fun σ H Q h => AF s_str h
def rInT : R2 := fun x y H Q => ∃ i j, x = .str i /\ y = .str j /\ Q (.bl (!(Builtin.Str.occurrences j i 0 j.length 1).isEmpty)) H
def OA : Vl -> Vl -> aO -> Res Vl
 | .dat (.str i), .dat (.str j), S => .ok (.dat (.bl (!(Builtin.Str.occurrences j i 0 j.length 1).isEmpty))) S
 | _, _, _ => .stuck
theorem s_inT : eX K rInT OA := fun {W σ B φ S H x y d e Q} I r1 r2 f => by
 unfold OA at f;split at f
 ·cases r1; cases r2; exact ⟨_, _, rfl, rfl, Fin.now f I rfl⟩
 ·exact f.elim
def NP (ds : List PyData) (d : PyData) : Option Nat := (aV ds.length).find? fun j => match ds[j]? with
 | some z => PyData.eqv z d
 | none => false
def xJ (x y : Vl) (S : aO) : Res Vl := match uD S x, uD S y with
 | some (.list ds), some d => if SeqAt.shaped (.list ds) = true /\ SeqAt.shaped d = true then (match NP ds d with
   | some j => .ok (.dat (.int (j : Int))) S
   | none => .stuck) else .stuck
 | _, _ => .stuck
theorem Kt {ds : List PyData} {d : PyData} {j : Nat} (h : NP ds d = some j) : ∃ z, ds[j]? = some z /\ PyData.eqv z d = true /\ ∀ (m : Nat) (z' : PyData), m < j -> ds[m]? = some z' -> PyData.eqv z' d = false := by
 unfold NP at h;obtain ⟨h1, as, bs, h2, h3⟩ := Cp.mp h;cases q : ds[j]? with
 | none => rw [q] at h1; cases h1
 | some z =>
  rw [q] at h1;refine ⟨z, rfl, h1, fun m z' hm hz => ?_⟩
  have hj : j < ds.length := (aH.mp q).1;have la : as.length = j := by
   have e : (aV ds.length)[as.length]? = some j := by rw [h2]; simp
   rw [aH] at e;obtain ⟨_, e⟩ := e
   simpa using e
  have hma : m ∈ as := by
   have e : (aV ds.length)[m]? = (as ++ j :: bs)[m]? := by rw [h2]
   rw [kN (by omega), aL (by omega)] at e
   exact bI e.symm
  have := h3 m hma;rw [hz] at this
  simpa using this
def Su (a b : FE) : FE := fun ρ S => (a ρ S).bind fun x S1 => match nU S1 x with
 | some _ => (b ρ S1).bind fun y S2 => xJ x y S2
 | none => .stuck
theorem Qn (hu : X.A.units + 65 < cLine) (ha : PE X a (cW X.K W ma)) (hb : PE X b (cW X.K W mb)) (hs : starEach [b] X.env = (false, eval b X.env) :: starEach [] X.env := by rfl) (hbase : attributeBase a "index" X.env (eval a X.env) = eval a X.env := by rfl) (hline : (apos.endLine == cpos.line) = true := by rfl)
  (hfew : ((backTo cpos (starEach [b] X.env)).all (fun x => !x.1) && (backToKw cpos (keywordEach [] X.env)).all (fun x => x.1.isSome)
   && decide ([b].length + ([] : List Keyword).length + (if ([] : List Keyword).isEmpty then 0 else 1) < 30)) = true := by rfl)
  (hpl : (backTo cpos (starEach ([] : List Expr) X.env)).any (·.1) = false := by rfl) : PE X (.Call (.Attribute a "index" apos) [b] [] cpos) (cW X.K W (Su ma mb)) :=
 dD (pe_bm PySem.F.plainAttrs_list PySem.F.slot_list_index PySem.F.type_list_index (mt_indexD hu) ha (pa_cons hb pa_nil hs) hbase hfew hline hs hpl) fun σ H Q h =>
  cU (k := fun x ρ S1 => match nU S1 x with | some _ => (mb ρ S1).bind fun y S2 => xJ x y S2 | none => .stuck) h fun B φ S ρ d v H1 I E r f => by
   split at f
   ·rename_i ds q
    refine ⟨OS (e := d) I r ⟨ds, q⟩, jB I E f fun φ' S' d2 v2 H2 I2 X2 E2 r2 f2 => ?_⟩
    obtain ⟨a, vs, rfl, _, _⟩ := lA I q r;have r' := r.ext X2 I;unfold xJ at f2;split at f2
    ·rename_i ps pd h1 h2
     split at f2
     ·rename_i hc
      split at f2
      ·rename_i j hj
       obtain ⟨z, g1, g2, g3⟩ := Kt hj;exact ⟨a, v2, pd, ps, j, z, rfl, rfl, oJ I2 h1 r', oJ I2 h2 r2, hc.1, hc.2, g1, g2, g3, Fin.now f2 I2 rfl⟩
      ·exact f2.elim
     ·exact f2.elim
    ·exact f2.elim
   ·exact f.elim
theorem Kp.plusPutD {a : Addr} {acc : List (Key × V)} {o : HO} (ha : H a = some (.dK acc)) : Kp (lZ (jP B a) φ S) H (lZ (jP B a) φ S) (upd H a o) :=
 ⟨fun b o' h n => ⟨by
  rw [upd_ne]
  ·exact h
  ·intro e; subst e; exact n (.inl (.inr rfl)), n⟩, fun b w h => by
  have ne : b ≠ a := fun e => by
   subst e;rcases h with h | ⟨o', h⟩
   ·rw [ha] at h; cases h
   ·rw [ha] at h; cases h
  rcases h with h | ⟨o', h⟩
  ·exact .inl (by rw [upd_ne ne]; exact h)
  ·exact .inr ⟨o', by rw [upd_ne ne]; exact h⟩⟩
theorem RepV.plusPutD {a : Addr} {acc : List (Key × V)} {o : HO} (ha : H a = some (.dK acc)) {d : Vl} {v : L2.V} (r : RepV K (jP B a) φ S H d v) : RepV K (jP B a) φ S (upd H a o) d v := by
 have k := Kp.plusPutD (B := B) (φ := φ) (S := S) (o := o) ha;cases d with
 | dat d => exact Rep.kp k d v r
 | cel n => exact r
 | cels ns => obtain ⟨a', as, e1, e2, e3, e4⟩ := r; exact ⟨a', as, e1, (k.old _ _ e3 e2).2, (k.old _ _ e3 e2).1, e4⟩
 | scr ns =>
  obtain ⟨a', e1, e2⟩ := r;refine ⟨a', e1, e2.keep fun o u h => ?_⟩
  rw [upd_ne]
  ·exact h
  ·intro e; subst e; rw [ha] at h; cases h
 | tc xs => obtain ⟨a', vs, e1, e2, e3⟩ := r; exact ⟨a', vs, e1, SqT.kp k.tup e2, e3.kp k (fun _ _ h => h)⟩
theorem RepF.plusPutD {a : Addr} {acc : List (Key × V)} {o : HO} (ha : H a = some (.dK acc)) : ∀ {fs : List (Str × Vl)} {vs : List (Str × L2.V)}, RepF K (jP B a) φ S H fs vs -> RepF K (jP B a) φ S (upd H a o) fs vs
 | [], vs, r => r
 | f :: fs, vs, ⟨v, ws, e, h1, h2⟩ => ⟨v, ws, e, h1.plusPutD ha, RepF.plusPutD ha h2⟩
theorem GInv.plusPutD {a : Addr} {acc : List (Key × V)} {o : HO} (I : GInv K (jP B a) φ S H) (ha : H a = some (.dK acc)) : GInv K (jP B a) φ S (upd H a o) where
 len := I.len
 ok := fun n c b h1 h2 => by
  have q := I.ok n c b h1 h2;have k := Kp.plusPutD (B := B) (φ := φ) (S := S) (o := o) ha;have hb : c ≠ .dead -> upd H a o b = H b := fun hc => upd_ne fun e => by
   subst e;exact I.blk b ⟨n, c, h1, hc, h2⟩ (.inr rfl)
  cases c with
  | dead => trivial
  | lst ds => obtain ⟨vs, e, r⟩ := q; exact ⟨vs, by rw [hb (by simp)]; exact e, RepL.kp k ds vs r⟩
  | ins C fs => obtain ⟨dx, vs, e, r⟩ := q; exact ⟨dx, vs, by rw [hb (by simp)]; exact e, r.plusPutD ha⟩
  | dct fs => obtain ⟨vs, e, r⟩ := q; exact ⟨vs, by rw [hb (by simp)]; exact e, r.plusPutD ha⟩
  | lv xs => obtain ⟨vs, e, r⟩ := q; exact ⟨vs, by rw [hb (by simp)]; exact e, dM (RepV.plusPutD ha) r⟩
  | dki ks xs => obtain ⟨vs, e, r⟩ := q; exact ⟨vs, by rw [hb (by simp)]; exact e, dM (RepV.plusPutD ha) r⟩
  | dkt ks xs => obtain ⟨vs, e, r⟩ := q; exact ⟨vs, by rw [hb (by simp)]; exact e, dM (RepV.plusPutD ha) r⟩
 inj := I.inj
 blk := I.blk
 btr := fun b h => by
  by_cases e : b = a
  ·subst e; exact ⟨o, upd_same⟩
  ·obtain ⟨u, h1⟩ := I.btr b h
   exact ⟨u, by rw [upd_ne e]; exact h1⟩
section
variable {x : Cell} {p : Addr}
theorem cellK (I : GInv K (jP B p) φ S H) : Kp (lZ (jP B p) φ S) H (lZ B (φ ++ [p]) (S ++ [x])) H := ⟨fun b o h n => ⟨h, fun q => n (by
 rcases q with q | q
 ·exact .inl (.inl q)
 ·rcases (kU I.len).mp q with q | ⟨_, q⟩
  ·exact .inr q
  ·exact .inl (.inr q))⟩, fun _ _ h => h⟩
theorem Jn (I : GInv K (jP B p) φ S H) {d : Vl} {v : L2.V} (r : RepV K (jP B p) φ S H d v) : RepV K B (φ ++ [p]) (S ++ [x]) H d v := by
 have k := cellK (x := x) I;have hφ : ∀ (n : Nat) (b : Addr), φ[n]? = some b -> (φ ++ [p])[n]? = some b := fun n b h => by rw [aL (aH.mp h).1]; exact h
 cases d with
 | dat d => exact Rep.kp k d v r
 | cel n => obtain ⟨b, e1, e2⟩ := r; exact ⟨b, e1, hφ _ _ e2⟩
 | cels ns => obtain ⟨a', as, e1, e2, e3, e4⟩ := r; exact ⟨a', as, e1, (k.old _ _ e3 e2).2, e3, yS hφ ns as e4⟩
 | scr ns => exact r
 | tc xs => obtain ⟨a', vs, e1, e2, e3⟩ := r; exact ⟨a', vs, e1, SqT.kp k.tup e2, e3.kp k hφ⟩
theorem Jo (I : GInv K (jP B p) φ S H) : ∀ {fs : List (Str × Vl)} {vs : List (Str × L2.V)}, RepF K (jP B p) φ S H fs vs -> RepF K B (φ ++ [p]) (S ++ [x]) H fs vs
 | [], vs, r => r
 | f :: fs, vs, ⟨v, ws, e, h1, h2⟩ => ⟨v, ws, e, Jn I h1, Jo I h2⟩
theorem GInv.toCell (I : GInv K (jP B p) φ S H) (nB : ¬ B p) (hx : FL K B (φ ++ [p]) (S ++ [x]) H x p) : GInv K B (φ ++ [p]) (S ++ [x]) H where
 len := by simp [I.len]
 ok := fun n c b h1 h2 => by
  have k := cellK (x := x) I
  by_cases hn : n < S.length
  ·rw [aL hn] at h1
   rw [aL (by rw [I.len]; exact hn)] at h2
   have q := I.ok n c b h1 h2;cases c with
   | dead => trivial
   | lst es => obtain ⟨us, e, r⟩ := q; exact ⟨us, e, RepL.kp k es us r⟩
   | ins C fs => obtain ⟨dx, us, e, r⟩ := q; exact ⟨dx, us, e, Jo I r⟩
   | dct fs => obtain ⟨us, e, r⟩ := q; exact ⟨us, e, Jo I r⟩
   | lv xs => obtain ⟨us, e, r⟩ := q; exact ⟨us, e, dM (Jn I) r⟩
   | dki ks xs => obtain ⟨us, e, r⟩ := q; exact ⟨us, e, dM (Jn I) r⟩
   | dkt ks xs => obtain ⟨us, e, r⟩ := q; exact ⟨us, e, dM (Jn I) r⟩
  ·have e : n = S.length := by
    have := (aH.mp h1).1;simp at this;omega
   subst e;rw [bB (bV _)] at h1;rw [<- I.len, bB (bV _)] at h2;simp at h1 h2;subst h1 h2;exact hx
 inj := fun n m c c' b h1 h2 h3 h4 h5 h6 => by
  have na : ¬ mE φ S p := fun q => I.blk p q (.inr rfl)
  have key : ∀ (n : Nat) (c : Cell), (S ++ [x])[n]? = some c -> (n < S.length /\ S[n]? = some c) \/ n = S.length := fun n c h => by
   by_cases hn : n < S.length
   ·rw [aL hn] at h; exact .inl ⟨hn, h⟩
   ·have := (aH.mp h).1
    simp at this;exact .inr (by omega)
  have kφ : ∀ n : Nat, n < S.length -> (φ ++ [p])[n]? = φ[n]? := fun n hn => aL (by rw [I.len]; exact hn)
  have kp : (φ ++ [p])[S.length]? = some p := by rw [<- I.len]; simp
  rcases key n c h1 with ⟨hn, e1⟩ | e1 <;> rcases key m c' h3 with ⟨hm, e2⟩ | e2
  ·rw [kφ n hn] at h5
   rw [kφ m hm] at h6;exact I.inj n m c c' b e1 h2 e2 h4 h5 h6
  ·subst e2
   rw [kp] at h6;cases h6;rw [kφ n hn] at h5;exact absurd ⟨n, c, e1, h2, h5⟩ na
  ·subst e1
   rw [kp] at h5;cases h5;rw [kφ m hm] at h6;exact absurd ⟨m, c', e2, h4, h6⟩ na
  ·omega
 blk := fun b h => by
  rcases (kU I.len).mp h with h | ⟨_, h⟩
  ·exact fun q => I.blk b h (.inl q)
  ·subst h; exact nB
 btr := fun b h => I.btr b (.inl h)
end
def lH : List (Str × FE) -> Ev -> aO -> Res (List (Str × Vl))
 | [], _, S => .ok [] S
 | k :: r, ρ, S => (k.2 ρ S).bind fun v S1 => (lH r ρ S1).bind fun fs S2 => .ok ((k.1, v) :: fs) S2
def Kl (ks : List (Str × FE)) : FE := fun ρ S => match lH ks ρ S with
 | .ok fs S1 => if (fs.map Prod.fst).Nodup /\ fs.length <= 15 then .ok (.cel S1.length) (S1 ++ [.dct fs]) else .stuck
 | _ => .stuck
theorem DG : ∀ {ks : List (Str × FE)} {φ : List Addr} {S S1 : aO} {H : Hp} {ρ : Ev} {fs : List (Str × Vl)} {Q : List (V × V) -> Hp -> Prop}, GInv K B φ S H -> RepE K B φ S H ρ σ -> lH ks ρ S = .ok fs S1 -> (∀ φ1 vs H1, GInv K B φ1 S1 H1 -> Ext φ S H φ1 S1 H1 -> RepF K B φ1 S1 H1 fs vs -> Q (vs.map fun p => (V.str p.1, p.2)) H1) ->
  tPairs (ks.map fun k => (cW K Bg (mC (.str k.1)), cW K Bg k.2)) σ H Q
 | [], φ, S, S1, H, ρ, fs, Q, I, E, h, q => by cases h; exact q φ [] H I Ext.refl rfl
 | k :: r, φ, S, S1, H, ρ, fs, Q, I, E, h, q => by
  unfold lH at h;cases e1 : k.2 ρ S with
  | stuck => rw [e1] at h; cases h
  | err x S' => rw [e1] at h; cases h
  | ok v S2 =>
   rw [e1] at h;cases e2 : lH r ρ S2 with
   | stuck => rw [show (Res.ok v S2).bind (fun v S1 => (lH r ρ S1).bind fun fs S2 => Res.ok ((k.1, v) :: fs) S2) = (lH r ρ S2).bind fun fs S3 => Res.ok ((k.1, v) :: fs) S3 from rfl, e2] at h; cases h
   | err x S' => rw [show (Res.ok v S2).bind (fun v S1 => (lH r ρ S1).bind fun fs S2 => Res.ok ((k.1, v) :: fs) S2) = (lH r ρ S2).bind fun fs S3 => Res.ok ((k.1, v) :: fs) S3 from rfl, e2] at h; cases h
   | ok fs' S3 =>
    rw [show (Res.ok v S2).bind (fun v S1 => (lH r ρ S1).bind fun fs S2 => Res.ok ((k.1, v) :: fs) S2) = (lH r ρ S2).bind fun fs S3 => Res.ok ((k.1, v) :: fs) S3 from rfl, e2] at h
    cases h;refine ⟨B, φ, S, ρ, I, E, fun φ0 kv H0 I0 X0 r0 => ?_⟩
    obtain rfl : kv = V.str k.1 := r0;refine ⟨B, φ0, S, ρ, I0, E.ext X0 I, ?_⟩
    rw [e1];intro φ2 v2 H2 I2 X2 r2;refine DG I2 ((E.ext X0 I).ext X2 I0) e2 fun φ3 vs H3 I3 X3 r3 => ?_
    exact q φ3 ((k.1, v2) :: vs) H3 I3 ((X0.trans X2).trans X3) ⟨v2, vs, rfl, r2.ext X3 I2, r3⟩
theorem G9 : ∀ {ys xs : List (Str × V)}, ((xs ++ ys).map Prod.fst).Nodup -> mergeK (iH xs) (iH ys) = iH (xs ++ ys)
 | [], xs, _ => by rw [cP]; rfl
 | y :: r, xs, h => by
  have hn : ∀ k ∈ iH xs, k.1 ≠ Sum.inr y.1 := fun k hk q => by
   obtain ⟨u, hu, rfl⟩ := iM.mp hk;have e : u.1 = y.1 := Sum.inr.inj q;rw [cQ, aM, List.nodup_append] at h;exact h.2.2 _ (AA hu) _ (aT ..) e
  have ep : putK (iH xs) (Sum.inr y.1) y.2 = iH (xs ++ [y]) := by
   unfold putK;rw [if_neg]
   ·simp [iH]
   ·intro q
    obtain ⟨k, hk, e⟩ := List.any_eq_true.mp q;exact hn k hk (of_decide_eq_true e)
  have ih := G9 (ys := r) (xs := xs ++ [y]) (by rw [dG]; exact h)
  rw [dG] at ih
  show mergeK (putK (iH xs) (Sum.inr y.1) y.2) (iH r) = iH (xs ++ y :: r)
  rw [ep, ih];rfl
theorem PB {ks : List (Str × FE)} (h : cW K W (Kl ks) σ H Q) : tDisp (ks.map fun k => (cW K Bg (mC (.str k.1)), cW K Bg k.2)) σ H Q := by
 obtain ⟨B, φ, S, ρ, I, E, f⟩ := h;intro p hp;unfold Kl at f;cases e : lH ks ρ S with
 | stuck => rw [e] at f; exact f.elim
 | err x S' => rw [e] at f; exact f.elim
 | ok fs S1 =>
  rw [e] at f;dsimp only at f;split at f
  ·rename_i hc
   have nB : ¬ B p := fun q => by obtain ⟨u, e⟩ := I.btr p q; rw [hp] at e; cases e
   have IA : GInv K (jP B p) φ S (upd H p (.dK [])) := I.plus hp;refine DG IA (E.plus I hp) e fun φ1 vs H1 I1 X1 r1 => ?_
   have hp1 : H1 p = some (.dK []) := (X1.old p _ upd_same fun q => IA.blk p q (.inr rfl)).1
   have I2 : GInv K (jP B p) φ1 S1 (upd H1 p (.dK (iH vs))) := I1.plusPutD hp1;have r2 : RepF K (jP B p) φ1 S1 (upd H1 p (.dK (iH vs))) fs vs := r1.plusPutD hp1;refine ⟨hp1, iH vs, by simp [iH, kV], by rw [N8, r1.len]; exact hc.2, ?_⟩
   have em : mergeK [] (iH vs) = iH vs := by
    have := G9 (xs := []) (ys := vs) (by rw [dR, r1.fsts]; exact hc.1)
    exact this
   rw [em];refine f (φ1 ++ [p]) (.ref p) _ (I2.toCell nB ⟨vs, upd_same, Jo I2 r2⟩) ⟨fun b o hb nb => ?_, fun n b hb => ?_⟩ ⟨p, rfl, by rw [<- I1.len]; exact nP⟩
   ·have ne : b ≠ p := fun q => by subst q; rw [hp] at hb; cases hb
    obtain ⟨h1, h2⟩ := X1.old b o (by rw [upd_ne ne]; exact hb) nb
    refine ⟨by rw [upd_ne ne]; exact h1, fun q => ?_⟩
    rcases (kU I1.len).mp q with q | ⟨_, q⟩
    ·exact h2 q
    ·exact ne q
   ·have := X1.ids n b hb
    rw [aL (aH.mp this).1]; exact this
  ·exact f.elim
theorem Ql : PPs X pos [] [] (([] : List (Str × FE)).map fun k => (cW X.K Bg (mC (.str k.1)), cW X.K Bg k.2)) := pps_nil
theorem pN {k : Str} {ek v : Expr} {ks : List (Option Expr)} {vs : List Expr} {mv : FE} {r : List (Str × FE)} (hk : PE X ek (cW X.K Bg (mC (.str k)))) (hv : PE X v (cW X.K Bg mv)) (hr : PPs X pos ks vs (r.map fun k => (cW X.K Bg (mC (.str k.1)), cW X.K Bg k.2))) :
  PPs X pos (some ek :: ks) (v :: vs) (((k, mv) :: r).map fun k => (cW X.K Bg (mC (.str k.1)), cW X.K Bg k.2)) := pps_cons hk hv hr
theorem UN {keys : List (Option Expr)} {values : List Expr} {r : List (Str × FE)} (h : PPs X pos keys values (r.map fun k => (cW X.K Bg (mC (.str k.1)), cW X.K Bg k.2))) (hall : keys.all (·.isSome) = true := by rfl) (hl : keys.length = values.length := by rfl) (h0 : keys ≠ [] := by simp) (h15 : keys.length <= 15 := by decide) : PE X (.Dict keys values pos) (cW X.K W (Kl r)) :=
 dD (pe_disp h hall hl h0 h15) fun σ H Q h => PB h
end
theorem st_hu {k : Nat} {A : Around} (r : Room k A) : A.units + 100 < cLine := by have := r.un; omega
section
variable {o i v a b : FE} {ρ : Ev} {S : aO} {x y d u w : Vl} {g : Vl -> Vl -> aO -> Res Vl}
def vF (ρ : Ev) (d x y : Vl) (S : aO) : Out := match Ff S x y d with
 | some S4 => .next ρ S4
 | none => .stuck
def I7 (i : FE) (ρ : Ev) (d x : Vl) (S : aO) : Out := (i ρ S).toS ρ (vF ρ d x)
def ND (o i : FE) (ρ : Ev) (d : Vl) (S : aO) : Out := (o ρ S).toS ρ (I7 i ρ d)
theorem UC : CD o i v ρ S = (v ρ S).toS ρ (ND o i ρ) := rfl
theorem Nt : ND o i ρ d S = (o ρ S).toS ρ (I7 i ρ d) := rfl
theorem Nr : I7 i ρ d x S = (i ρ S).toS ρ (vF ρ d x) := rfl
def Ep (g : Vl -> Vl -> aO -> Res Vl) (ρ : Ev) (x y u w : Vl) (S : aO) : Out := match g u w S with
 | .ok z S4 => (match Ff S4 x y z with
  | some S5 => .next ρ S5
  | none => .stuck)
 | _ => .stuck
def vG (g : Vl -> Vl -> aO -> Res Vl) (v : FE) (ρ : Ev) (x y : Vl) (S : aO) : Out := match dC x y S with
 | .ok u _ => (v ρ S).toS ρ (Ep g ρ x y u)
 | _ => .stuck
def NF (g : Vl -> Vl -> aO -> Res Vl) (i v : FE) (ρ : Ev) (x : Vl) (S : aO) : Out := (i ρ S).toS ρ (vG g v ρ x)
theorem UD : Ap g o i v ρ S = (o ρ S).toS ρ (NF g i v ρ) := rfl
theorem Nu : NF g i v ρ x S = (i ρ S).toS ρ (vG g v ρ x) := rfl
def kIdx (b : FE) (ρ : Ev) (x : Vl) (S : aO) : Res Vl := match nU S x with
 | some _ => (b ρ S).bind (xJ x)
 | none => .stuck
theorem g_idx : Su a b ρ S = (a ρ S).bind (kIdx b ρ) := rfl
theorem U1 {ds : List PH.D} : kIdx b ρ (.dat (.lst ds)) S = (b ρ S).bind (xJ (.dat (.lst ds))) := rfl
theorem g_inT {z y : Str} : OA (.dat (.str z)) (.dat (.str y)) S = .ok (.dat (.bl (!(Builtin.Str.occurrences y z 0 y.length 1).isEmpty))) S := rfl
theorem AV {n : Nat} {k : Str} {fs : List (Str × Vl)} (h : S[n]? = some (.dct fs)) (hl : fs.length < 1000) (hn : (fs.map Prod.fst).Nodup) : Ff S (.cel n) (.dat (.str k)) d = some (S.set n (.dct (nJ k d fs))) := by
 unfold Ff;dsimp only;rw [h];exact if_pos ⟨hl, hn⟩
theorem lQ {n : Nat} {k : Str} {fs : List (Str × Vl)} (h : S[n]? = some (.dct fs)) (hl : fs.lookup k = some d) : dC (.cel n) (.dat (.str k)) S = .ok d S := by
 unfold dC;dsimp only;rw [h];dsimp only;rw [hl]
end
def sH := aF @UC (aF @Nt (aF @Nr (aF @UD (aF @Nu (aF @g_idx (aF @U1 @g_inT))))))
def isNone {α : Type} : Option α -> Bool
 | none => true
 | some _ => false
end PH
namespace L2
open PySem PySem.Spec PyProof.Rows GenW
section
variable {prog : Program} {w : World} {A : Around} {E : Value -> Shared -> Prop} {s : Shared}
theorem AE {it l : Addr} {i : Nat} {items : Array Value} {x : Value} {Q : Option Value -> Shared -> Prop} (hit : s.heap.get? it = some (GNX.itObj l i)) (hl : s.heap.IsList l items) (hx : items[i]? = some x)
  (hQ : ∀ h', h'.get? it = some (GNX.itObj l (i + 1)) -> Heap.SameBut it s.heap h' -> Q (some x) { s with heap := h' }) : wpAny (model prog w) A (callSpecial? (.ref it) "__next__") Q E s :=
 wpAny_callSpecial?_slot (name := Str.ofString "__next__") (show s.heap.IsListIter it l i from ⟨_, hit, rfl, rfl⟩).typeIs slot_listiter_next
  (wpAny_call_entry slot_listiter_next (show s.heap.IsListIter it l i from ⟨_, hit, rfl, rfl⟩).typeIs entry_listiter_next (GNX.next_item hit hl hx fun h' e sb => hQ h' e sb) (args_listiter_next _))
theorem B5 {it l : Addr} {i : Nat} {items : Array Value} {Q : Option Value -> Shared -> Prop} (hh : A.handled = none) (ho : s.heap.get? it = some (GNX.itObj l i)) (hl : s.heap.IsList l items) (hx : items[i]? = none)
  (hE : ∀ e h', StopX e h' -> Heap.ExtBut it s.heap h' -> E e { s with heap := h' }) : wpAny (model prog w) A (callSpecial? (.ref it) "__next__") Q E s := by
 obtain ⟨ol, hol, _, nl, hdl⟩ := hl;refine wpAny_callSpecial?_slot (name := Str.ofString "__next__") (show s.heap.IsListIter it l i from ⟨_, ho, rfl, rfl⟩).typeIs slot_listiter_next (wpAny_call_entry slot_listiter_next (show s.heap.IsListIter it l i from ⟨_, ho, rfl, rfl⟩).typeIs entry_listiter_next ?_ (args_listiter_next _))
 show wpAny _ _ (field (.ref it) 0 >>= _) _ _ s
 refine wpAny_bind (wpAny_field ho rfl (x := .ref l) rfl ?_)
 show wpAny _ _ (if (Value.ref l == Value.none) = true then _ else _) _ _ s
 rw [if_neg (show ¬ ((Value.ref l == Value.none) = true) from fO)]
 show wpAny _ _ (field (.ref it) 1 >>= _) _ _ s
 refine wpAny_bind (wpAny_field ho rfl (x := .int i 0) rfl ?_)
 show wpAny _ _ (seqItems? (.ref l) >>= _) _ _ s
 refine wpAny_bind (wpAny_seqItems hol hdl ?_)
 simp only [tO, hx];refine wpAny_bind (wpAny_rule (wpAny_bind (wpAny_setField ho rfl (by simp) ?_)))
 show wpAny _ _ (newExc (.type "StopIteration") [] >>= _) _ _ _
 refine wpAny_bind ?_
 simp only [newExc, newTuple];refine wpAny_bind (wpAny_newObj_type ?_ (by size_fits))
 refine wpAny_bind (m := firstArgMember _ _) (wpAny_of_eq (a := Value.none) (by first | rfl | (simp only [firstArgMember]; rfl)) ?_)
 refine wpAny_newObj_type ?_ (by size_fits)
 simp only [raiseNew];refine wpAny_bind (wpAny_handled ?_)
 first | rw [show A.in1.handled = none from hh] | rw [hh]
 refine wpAny_bind (wpAny_pure (wpAny_throw ?_))
 refine hE _ _ ⟨_, _, _, rfl, Heap.get?_push_size _ rfl, rfl, rfl, ?_⟩ (((Heap.SameBut.update ..).extBut.push _).push _)
 first
  | rfl
  | (rw [Array.getElem?_append_left (by decide)]; rfl)
  | kernel_rfl
end
theorem LN : typeLookup (.type "list_iterator") "close" = pure none := by rw [typeLookup_type, builtinLookup_eq_fast]; kernel_rfl
end L2
namespace PH
open PySem PySem.Spec PyProof.Rows L2
abbrev Jx := Ev -> aO -> Res (List PH.D)
abbrev Li := List Vl -> aO -> Res (List PH.D)
section
variable {X : Cx} {W : WX} {e a : Expr} {es : List Expr} {rest gM : List Stmt} {st : Stmt} {pos p yp : Pos} {x kw : Str} {K : aD} {ma me : FE} {mas : FA} {B : Addr -> Prop} {φ φ' : List Addr} {S S' : aO} {H H' : Hp} {σ : L2.St} {Q : VK} {m : FS} {n : Jx}
def kYf (x : Vl) (S : aO) : Res (List PH.D) := match x with
 | .dat (.lst zs) => if zs.length <= 1000000 then .ok zs S else .stuck
 | _ => .stuck
def mYf (me : FE) : Jx := fun ρ S => (me ρ S).bind kYf
def MX (n np : Nat) (mb : Jx) : Li := fun ds S => if ds.length = np then mb (envOf n ds) S else .stuck
end
section
variable {ρ : Ev} {S : aO} {m : FS} {n : Jx} {me ma : FE} {mas : FA} {md : Li}
theorem g_yf : mYf me ρ S = (me ρ S).bind kYf := rfl
end
end PH
namespace L2
open PySem PySem.Spec PyProof.Rows GenW
abbrev BD := End -> Shared -> Prop
def dJ (M : Model) (A : Around) (F : BD) (c : Code) (t : Sem PySem.Fin) (fs : List Frame) (s : Shared) : Prop :=
 ∀ Γ p, Γ.code = c -> Γ.Woken A -> ∃ e s', Runs M Γ p t fs s e s' /\ F e s'
section
variable {M : Model} {A : Around} {F F' : BD} {c : Code} {t : Sem PySem.Fin} {fs : List Frame} {s : Shared}
theorem vV {α : Type} {m : Sem α} {K : α -> Sem PySem.Fin} {J : Value -> Sem PySem.Fin} {gd : Bool -> Bool} {lv : List Value -> List Value}
  (h : wpAny M (A.over c fs) m (fun a s' => dJ M A F c (K a) fs s') (fun x s' => dJ M A F c (J x) fs s') s) : dJ M A F c (m.wrap K J gd lv) fs s := by
 rintro Γ p rfl hΓ
 exact runs_wrap_of_wp K J gd lv m (h (Γ.over fs) p (hΓ.over fs)) (fun a p' s' q => q Γ p' rfl hΓ) (fun x p' s' q => q Γ p' rfl hΓ)
theorem fK {α : Type} {m : Sem α} {K : α -> Sem PySem.Fin} (h : wpAny M (A.over c fs) m (fun a s' => dJ M A F c (K a) fs s') (fun x s' => dJ M A F c (.raise x) fs s') s) : dJ M A F c (m >>= K) fs s := by
 rw [Sem.bind_eq_wrap']; exact vV h
theorem Bl {α β : Type} {m : Sem α} {f : α -> Sem β} {K : β -> Sem PySem.Fin} {J : Value -> Sem PySem.Fin} {gd : Bool -> Bool} {lv : List Value -> List Value}
  (h : wpAny M (A.over c fs) m (fun a s' => dJ M A F c ((f a).wrap K J gd lv) fs s') (fun x s' => dJ M A F c (J x) fs s') s) : dJ M A F c ((m >>= f).wrap K J gd lv) fs s := by
 rw [Sem.bind_eq_wrap', Sem.wrap_wrap]; exact vV h
theorem KA {α β γ : Type} {m : Sem α} {f : α -> Sem β} {f2 : β -> Sem γ} {K : γ -> Sem PySem.Fin} {J : Value -> Sem PySem.Fin} {gd : Bool -> Bool} {lv : List Value -> List Value}
  (h : wpAny M (A.over c fs) m (fun a s' => dJ M A F c ((f a).wrap (fun b => (f2 b).wrap K J gd lv) J gd lv) fs s') (fun x s' => dJ M A F c (J x) fs s') s) : dJ M A F c (((m >>= f) >>= f2).wrap K J gd lv) fs s := by
 rw [Sem.bind_eq_wrap' (m >>= f) f2, Sem.wrap_wrap]; exact Bl h
theorem RQ {p' : Pos} {k : Unit -> Sem PySem.Fin} (h : dJ M A F c (k ()) fs s) : dJ M A F c (.at p' k) fs s :=
 vV (m := standAt p') (K := k) (J := .raise) (gd := id) (lv := id) (wpAny_standAt h)
theorem M7 {l : List Value} {k : Unit -> Sem PySem.Fin} (h : dJ M A F c (k ()) fs s) : dJ M A F c (.point l k) fs s :=
 vV (m := point) (K := k) (J := .raise) (gd := id) (lv := fun _ => l) (wpAny_point h)
theorem Ox {c' : Code} {g : Bool} {l : List Value} {k : Result -> Sem PySem.Fin} (hc : ∀ p, dJ M A F c' (M.den c') (.ret k none g l c p [] :: fs) s) : dJ M A F c (.call c' none g l k) fs s := by
 rintro Γ p rfl hΓ
 obtain ⟨e, s', hr, he⟩ := hc p (Γ.goto c') p rfl (hΓ.goto c');exact ⟨e, s', runs_call_seg hr, he⟩
theorem Ir {k : Result -> Sem PySem.Fin} {g : Bool} {l kp : List Value} {c₁ : Code} {p₁ : Pos} (r : Result) (hk : dJ M A F c₁ (k r) fs s) : dJ M A F c (leafOf r) (.ret k none g l c₁ p₁ kp :: fs) s := by
 rintro Γ p rfl hΓ
 obtain ⟨e, s', hr, he⟩ := hk (Γ.goto c₁) p₁ rfl (hΓ.goto c₁);exact ⟨e, s', Runs.pop r hr, he⟩
theorem M9 {c' : Code} (hq : c'.quiet = true) (hc : dJ M A F c' (M.den c') fs s) : dJ M A F c (.pure (.again c')) fs s := by
 rintro Γ p rfl hΓ
 obtain ⟨e, s', hr, he⟩ := hc (Γ.goto c') p rfl (hΓ.goto c');exact ⟨e, s', Runs.head (c₁ := c') (fun _ _ x => .again hq x) hr, he⟩
theorem M8 (r : Result) (h : F (.ret r) s) : dJ M A F c (leafOf r) [] s := by
 rintro Γ p rfl _
 exact ⟨.ret r, s, Runs.leaf r, h⟩
theorem M6 {v : Value} {g : Bool} {l : List Value} {k : Resume -> Sem PySem.Fin} (hfs : splitAtGen fs = none) (h : ∀ p, F (.susp v g l k c p fs) s) : dJ M A F c (.yield v g l k) fs s := by
 rintro Γ p rfl _
 exact ⟨_, s, Runs.yield' fs hfs, h p⟩
def Jw (M : Model) (A : Around) (F : BD) (gs : GenState) (s : Shared) : Prop := match gs with
 | .fresh c => dJ M A F c (M.den c) [] s
 | .suspended k _ c _ fs _ => dJ M A F c (k (.send .none)) fs s
 | _ => False
theorem Cq {E : Value -> Shared -> Prop} {g : Nat} {gs : GenState} {l : List Value} {α : Type} {k : GenResult -> Sem α} {Q : α -> Shared -> Prop} (hg : s.gens[g]? = some gs)
  (hgo : Jw M A F gs (s.setGen g .running)) (hF : ∀ e s₁, F e s₁ -> e.quiet = true /\ wpAny M A (k e.result) Q E (s₁.setGen g e.genState)) : wpAny M A (.resume g (.send .none) l k) Q E s := by
 intro Γ p hΓ;rw [Sem.wp_resume];have hB : ∀ c, (Γ.wake c p).Woken A := fun c => hΓ.wake c p
 cases gs with
 | fresh c =>
  obtain ⟨e₁, s₁, hr, he⟩ := hgo (Γ.wake c p) p rfl (hB c);exact ⟨_, _, by unfold Wakes; rw [hg]; exact ⟨e₁, s₁, hr, (hF e₁ s₁ he).1, rfl, rfl⟩, (hF e₁ s₁ he).2 Γ p hΓ⟩
 | suspended k₀ l₀ c₀ p₀ fs₀ cl =>
  obtain ⟨e₁, s₁, hr, he⟩ := hgo (Γ.wake c₀ p) p₀ rfl (hB c₀);exact ⟨_, _, by unfold Wakes; rw [hg]; exact ⟨e₁, s₁, hr, (hF e₁ s₁ he).1, rfl, rfl⟩, (hF e₁ s₁ he).2 Γ p hΓ⟩
 | running => exact hgo.elim
 | finished => exact hgo.elim
end
section
variable {P : Program} {w : World} {A : Around} {E : Value -> Shared -> Prop} {s : Shared}
def NextT (P : Program) (w : World) (a : Addr) (g : Nat) (Q : Option Value -> Shared -> Prop) (E : Value -> Shared -> Prop) (e : End) (s₁ : Shared) : Prop := match e with
 | .ret r => ((r = .ok (.ret .none) \/ r = .ok .next) /\ ∀ h', (∀ b o, s₁.heap.get? b = some o -> h'.get? b = some o) -> Q none { s₁.setGen g .finished with heap := h' }) \/
   ∃ x, r = .error x /\ s₁.heap.IsGen a g /\ NotStop (model P w) x s₁.heap /\ E x (s₁.setGen g .finished)
 | .susp v g0 l k c p fs => (End.susp v g0 l k c p fs).quiet = true /\ Q (some v) (s₁.setGen g (End.susp v g0 l k c p fs).genState)
theorem Mr {a : Addr} {g : Nat} {gs : GenState} {F : BD} {Q : Option Value -> Shared -> Prop} (hh : A.handled = none)
  (hl : s.heap.NoLimit) (hroom : A.depth < recursionLimit) (hg : s.heap.IsGen a g) (hgs : s.gens[g]? = some gs)
  (hgo : Jw (model P w) A.in1 F gs (s.setGen g .running)) (hF : ∀ e s₁, F e s₁ -> NextT P w a g Q E e s₁) : wpAny (model P w) A (pyNext (.ref a)) Q E s := by
 unfold pyNext;refine wpAny_bind (wpAny_attempt (wpAny_callSpecial?_slot (name := Str.ofString "__next__") hg.typeIs slot_gen_next (wpAny_call_entry slot_gen_next hg.typeIs entry_gen_next ?_ (args_gen_next _))))
 show wpAny _ A.in1 (Builtin.Generator.genWake (.ref a) (.send .none)) _ _ s
 unfold Builtin.Generator.genWake;refine wpAny_bind (wpAny_holding (wpAny_genNumber hg (wpAny_bind (wpAny_genState hgs ?_))))
 cases gs with
 | running => exact hgo.elim
 | finished => exact hgo.elim
 | _ =>
  refine wpAny_bind (wpAny_roomToWake hl hroom ?_)
  show wpAny _ A.in1 (.resume g (.send .none) [] _) _ _ s
  refine Cq hgs hgo (fun e s₁ hx => ?_)
  have hn := hF e s₁ hx;cases e with
  | susp v g0 l k c p fs =>
   obtain ⟨q, hv⟩ := hn;exact ⟨q, wpAny_pure ⟨v, rfl, wpAny_pure hv⟩⟩
  | ret x =>
   refine ⟨rfl, ?_⟩
   rcases hn with ⟨hr, hp⟩ | ⟨e, rfl, hg1, hns, hq⟩
   ·have hres : End.result (.ret x) = .returned .none := by
     rcases hr with hr | hr <;> rw [hr] <;> rfl
    first | rw [hres] | simp only [hres]
    show wpAny _ A.in1 (newExc (.type "StopIteration") [] >>= _) _ _ _
    refine wpAny_bind ?_
    simp only [newExc, newTuple];refine wpAny_bind (wpAny_newObj_type ?_ (by size_fits))
    refine wpAny_bind (m := firstArgMember _ _) (wpAny_of_eq (a := Value.none) (by first | rfl | (simp only [firstArgMember]; rfl)) ?_)
    refine wpAny_newObj_type ?_ (by size_fits)
    simp only [raiseNew];refine wpAny_bind (wpAny_bind (wpAny_handled ?_))
    first | rw [show A.in1.handled = none from hh] | rw [hh]
    refine wpAny_throw ?_
    refine wpAny_bind (wpAny_isInstance (T := "StopIteration") (b := true) ⟨_, Heap.get?_push_size _ rfl, rfl⟩ isSubtype_stop ?_)
    exact wpAny_pure (hp _ fun b o hb => Heap.get?_push_of_some _ (Heap.get?_push_of_some _ hb))
   ·obtain ⟨o, nm, qn, ho, hc, hd, hsl⟩ := hg1
    show wpAny _ A.in1 (Builtin.Generator.genLeft (.ref a) e) _ _ _
    unfold Builtin.Generator.genLeft Builtin.Generator.madeByALambda;refine wpAny_bind (wpAny_bind (wpAny_load (o := o) ho (wpAny_pure ?_)))
    refine wpAny_bind (hns _ _ _ _ rfl ?_)
    rw [Bool.and_false, if_neg fO];unfold Builtin.Generator.genEscaped
    first
     | refine wpAny_bind (hns _ _ _ _ rfl ?_)
     | refine wpAny_bind (wpAny_pure (wpAny_bind (hns _ _ _ _ rfl ?_)))
    rw [if_pos (show (!false) = true from rfl)]
    first
     | refine wpAny_throw ?_
     | refine wpAny_bind (wpAny_throw ?_)
    refine wpAny_bind (hns _ _ _ _ rfl ?_)
    rw [if_neg fO];exact wpAny_throw hq
end
def KB (it : Addr) (s s' : Shared) : Prop := s'.os = s.os /\ s'.gens = s.gens /\ ∀ b o, b ≠ it -> s.heap.get? b = some o -> s'.heap.get? b = some o
def FR (M : Model) (A : Around) (it a : Addr) (its : Array Value) : Nat -> Shared -> BD
 | 0, s => fun e s' => e = .ret (.ok (.ret .none)) /\ KB it s s'
 | r + 1, s => fun e s' => match e with
  | .ret _ => False
  | .susp v g l k c p fs => (End.susp v g l k c p fs).quiet = true /\ its[its.size - (r + 1)]? = some v /\ KB it s s' /\ s'.heap.get? it = some (GNX.itObj a (its.size - r)) /\
    ∀ s'' : Shared, s''.heap.get? it = some (GNX.itObj a (its.size - r)) -> s''.heap.IsList a its -> dJ M A (FR M A it a its r s'') c (k (.send .none)) fs s''
abbrev Hc (it : Addr) : Code := .builtin "proto.yield_from" ⟨[.ref it, .bool false, .none], []⟩
section
variable {P : Program} {w : World} {A : Around} {F : BD} {fs : List Frame} {s : Shared} {it a : Addr} {its : Array Value} {j : Nat} {x : Value}
theorem Jk {it : Value} : (model P w).den (.builtin "proto.yield_from" ⟨[it, .bool false, .none], []⟩) = Builtin.«proto.yield_from» ⟨[it, .bool false, .none], []⟩ := by
 show (match entryFor table "proto.yield_from" with | some b => b ⟨[it, .bool false, .none], []⟩ | none => unsupported ((withoutEnding? "proto.yield_from" "#data").getD "proto.yield_from")) = _
 rw [entry_yf]
theorem IB : typeLookup (.type "list_iterator") "close" = pure none := LN
theorem Iq (hsp : splitAtGen fs = none) (hgd : fs.any Frame.guarded = false) (hit : s.heap.get? it = some (GNX.itObj a j)) (hl : s.heap.IsList a its) (hx : its[j]? = some x)
  (hF : ∀ h' l k p, h'.get? it = some (GNX.itObj a (j + 1)) -> Heap.SameBut it s.heap h' -> (End.susp x false l k (Hc it) p fs).quiet = true ->
   (∀ (F' : BD) (s'' : Shared), s''.heap.get? it = some (GNX.itObj a (j + 1)) -> dJ (model P w) A F' (Hc it) ((model P w).den (Hc it)) fs s'' -> dJ (model P w) A F' (Hc it) (k (.send .none)) fs s'') ->
   F (.susp x false l k (Hc it) p fs) { s with heap := h' }) :
  dJ (model P w) A F (Hc it) ((model P w).den (Hc it)) fs s := by
 rw [Jk];unfold Builtin.«proto.yield_from»
 try dsimp only
 refine fK (wpAny_pure ?_)
 try dsimp only
 refine fK (wpAny_attempt (wpAny_holding ?_))
 rw [if_neg fO, if_pos (show (Value.none == Value.none) = true from rfl)]
 refine wpAny_bind (wpAny_rule (wpAny_bind ?_))
 refine AE hit hl hx fun h' q1 hs => ?_
 refine wpAny_pure ?_
 try dsimp only
 refine fK (wpAny_typeOf (T := "list_iterator") ⟨_, q1, rfl⟩ ?_)
 try dsimp only
 first
  | (refine fK (wpAny_of_eq IB ?_); refine fK (wpAny_pure ?_))
  | refine fK (wpAny_bind (wpAny_of_eq IB (wpAny_pure ?_)))
  | refine fK (wpAny_of_eq IB ?_)
 try dsimp only
 refine fK (wpAny_sleptOver q1 rfl (by decide) ?_)
 refine M6 hsp fun p => ?_
 refine hF h' _ _ p q1 hs (by simp [End.quiet, hgd]) fun F' s'' q2 hd => ?_
 show dJ _ _ _ _ (Builtin.Generator.sleptOver (.ref it) false >>= fun _ => _) fs s''
 refine fK (wpAny_sleptOver q2 rfl (by decide) ?_)
 try dsimp only
 refine fK (wpAny_pure ?_)
 exact M9 (plainId_quiet plain_yf _) hd
theorem Ll (ho : (A.over (Hc it) fs).handled = none) (hit : s.heap.get? it = some (GNX.itObj a j)) (hl : s.heap.IsList a its) (hx : its[j]? = none)
  (hF : ∀ h', (∀ b o, b ≠ it -> s.heap.get? b = some o -> h'.get? b = some o) -> dJ (model P w) A F (Hc it) (.pure (.done (.ret .none))) fs { s with heap := h' }) :
  dJ (model P w) A F (Hc it) ((model P w).den (Hc it)) fs s := by
 rw [Jk];unfold Builtin.«proto.yield_from»
 try dsimp only
 refine fK (wpAny_pure ?_)
 try dsimp only
 refine fK (wpAny_attempt (wpAny_holding ?_))
 rw [if_neg fO, if_pos (show (Value.none == Value.none) = true from rfl)]
 refine wpAny_bind (wpAny_rule (wpAny_bind ?_))
 refine B5 ho hit hl hx fun e h' hS hk => ?_
 obtain ⟨c, o, vs, rfl, hoa, hcls, hdat, h5⟩ := hS
 try dsimp only
 refine fK (wpAny_endsTurn hoa hcls ?_)
 try dsimp only
 rw [if_pos rfl]
 first
  | refine fK (wpAny_rule ?_)
  | (rw [if_neg fO]; refine fK (wpAny_rule ?_))
  | (rw [if_neg fO]; refine fK (wpAny_pure ?_); refine fK (wpAny_rule ?_))
 refine fK (wpAny_field hoa hdat h5 ?_)
 exact hF h' fun b o hb e => hk b o hb e
theorem On (hsp : splitAtGen fs = none) (hgd : fs.any Frame.guarded = false) (ho : (A.over (Hc it) fs).handled = none)
  (hfin : ∀ (F' : BD) (s' : Shared), F' (.ret (.ok (.ret .none))) s' -> dJ (model P w) A F' (Hc it) (.pure (.done (.ret .none))) fs s') :
  ∀ (r : Nat), r <= its.size -> ∀ s : Shared, s.heap.get? it = some (GNX.itObj a (its.size - r)) -> s.heap.IsList a its -> dJ (model P w) A (FR (model P w) A it a its r s) (Hc it) ((model P w).den (Hc it)) fs s := by
 intro r
 induction r with
 | zero =>
  intro _ s hit hl;refine Ll ho hit hl (by simp) fun h' hk => hfin _ _ ⟨rfl, rfl, rfl, hk⟩
 | succ r ih =>
  intro hr s hit hl;have hj : its.size - (r + 1) < its.size := by omega
  obtain ⟨x, hx⟩ : ∃ x, its[its.size - (r + 1)]? = some x := ⟨its[its.size - (r + 1)], by simp [hj]⟩
  have e : its.size - (r + 1) + 1 = its.size - r := by omega
  refine Iq hsp hgd hit hl hx fun h' l k p q1 hs hq hres => ?_
  rw [e] at q1 hres;exact ⟨hq, hx, ⟨rfl, rfl, fun b o hb eb => hs.extBut b o hb eb⟩, q1, fun s'' q2 hl2 => hres _ s'' q2 (ih (by omega) s'' q2 hl2)⟩
theorem Ow {body : List Stmt} {env : Env}
  (h : dJ (model P w) A F (.func body env) ((execs body env).wrap (fun f => .pure (.done (.ret (match f with | .ret v => v | _ => .none)))) (fun e => (leaving env e).wrap (fun _ => .raise e) .raise id id) id id) fs s) :
  dJ (model P w) A F (.func body env) ((model P w).den (.func body env)) fs s := by
 show dJ _ A F _ (.point [] fun _ => ((execs body env).onRaise (leaving env)) >>= _) fs s
 refine M7 ?_
 rw [Sem.onRaise_eq_wrap, Sem.bind_eq_wrap', Sem.wrap_wrap];rw [Sem.wrap_congr (execs body env) _ _ (K' := fun f => .pure (.done (.ret (match f with | .ret v => v | _ => .none)))) (H' := fun e => (leaving env e).wrap (fun _ => .raise e) .raise id id) (fun f => by cases f <;> rfl)
  (fun e => by rw [Sem.bind_eq_wrap, Sem.wrap_wrap]; rfl)]
 exact h
end
structure GCt (X : Cx) (A : Around) (c : Code) (fs : List Frame) (gd : Bool -> Bool) : Prop where
 over : A.over c fs = X.A
 split : splitAtGen fs = none
 guard : fs.any Frame.guarded = false
 gd : gd false = false
abbrev TQ := Addr -> List V -> Hp -> Prop
structure GKt (X : Cx) (A : Around) (F : BD) (c : Code) (fs : List Frame) (K : Flow -> Sem PySem.Fin) (J : Value -> Sem PySem.Fin) (Q : TQ) : Prop where
 exc : ∀ (x : Value) (s : Shared), X.xe x s -> dJ (model X.prog X.w) A F c (J x) fs s
 fin : ∀ (F' : BD) (s : Shared), F' (.ret (.ok (.ret .none))) s -> dJ (model X.prog X.w) A F' c (K .next) fs s
 end0 : ∀ (a : Addr) (σ : St) (H : Hp) (s : Shared), Inv X [] σ H s -> H a = some (.lst []) -> Q a [] H -> F (.ret (.ok (.ret .none))) s
 first : ∀ (v : Value) (l : List Value) (k : Resume -> Sem PySem.Fin) (c' : Code) (p : Pos) (fs' : List Frame) (it a : Addr) (its : Array Value) (ws : List V) (σ : St) (H : Hp) (s : Shared), (End.susp v false l k c' p fs').quiet = true -> Inv X [] σ H s -> H a = some (.lst ws) ->
  s.heap.IsList a its -> X.s_0.heap.objs.size <= it -> H it = none -> s.heap.get? it = some (GNX.itObj a 1) -> its[0]? = some v -> Q a ws H ->
  (∀ s'' : Shared, s''.heap.get? it = some (GNX.itObj a 1) -> s''.heap.IsList a its -> dJ (model X.prog X.w) A (FR (model X.prog X.w) A it a its (its.size - 1) s'') c' (k (.send .none)) fs' s'') -> F (.susp v false l k c' p fs') s
abbrev TY := TQ -> St -> Hp -> Prop
structure YSs (X : Cx) (gM : List Stmt) (t : TY) : Prop where
 run : ∀ (A : Around) (F : BD) (c : Code) (fs : List Frame) (K : Flow -> Sem PySem.Fin) (J : Value -> Sem PySem.Fin) (gd : Bool -> Bool) (lv : List Value -> List Value) (s : Shared) (σ : St) (H : Hp) (Q : TQ), GCt X A c fs gd -> GKt X A F c fs K J Q -> Inv X [] σ H s -> t Q σ H ->
  dJ (model X.prog X.w) A F c ((execs gM X.env).wrap K J gd lv) fs s
section
variable {X : Cx} {st : Stmt} {rest : List Stmt} {e : Expr} {te : TE} {yp pos : Pos}
theorem Ju {t u : TY} (h : YSs X rest t) (i : ∀ Q σ H, u Q σ H -> t Q σ H) : YSs X rest u := ⟨fun A F c fs K J gd lv s σ H Q g k I q => h.run A F c fs K J gd lv s σ H Q g k I (i Q σ H q)⟩
theorem Om {t : TS} {u : TY} (a : PS X st t) (b : YSs X rest u) : YSs X (st :: rest) (fun Q σ H => t { nx := fun σ' H' => u Q σ' H', rt := fun _ _ => False } σ H) := by
 refine ⟨fun A F c fs K J gd lv s σ H Q g k I q => ?_⟩
 rw [execs_cons_wrap];refine vV ?_
 rw [g.over];refine wpAny_mono (a.run [] s σ H _ I q) (fun f s' hs => ?_) fun x s' hx => k.exc x s' hx
 cases f with
 | next =>
  obtain ⟨σ', H', I', q'⟩ := hs;exact b.run A F c fs K J gd lv s' σ' H' Q g k I' q'
 | brk => obtain ⟨_, _, _, q'⟩ := hs; exact q'.elim
 | cont => obtain ⟨_, _, _, q'⟩ := hs; exact q'.elim
 | ret u => obtain ⟨_, _, _, _, _, q'⟩ := hs; exact q'.elim
theorem ys_yf (he : PE X e te) (hc : X.A.handled = none) (hi : interactive X.env = false := by rfl) : YSs X [.Expr (.YieldFrom e yp) pos] (fun Q σ H => te σ H fun x H1 => ∃ a xs, x = .ref a /\ H1 a = some (.lst xs) /\ Q a xs H1) := by
 refine ⟨fun A F c fs K J gd lv s σ H Q g k I ht => ?_⟩
 rw [execs_cons_wrap, exec_Expr X.env _ pos hi rfl]
 show dJ _ _ _ c (.at pos fun _ => ((eval e X.env >>= fun v => (standAt yp >>= fun _ => yieldFrom X.env v)) >>= fun x => dropValue (.YieldFrom e yp) pos x).wrap _ J gd lv) fs s
 refine RQ ?_
 refine KA ?_
 rw [g.over];refine wpAny_mono (he.run [] s σ H _ I ht) (fun v s1 hv => ?_) fun x s' hx => k.exc x s' hx
 obtain ⟨x, H1, I1, r1, a, xs, ex, ha, hq⟩ := hv;subst ex;obtain rfl : v = Value.ref a := r1;obtain ⟨its, rits, ht, hlen⟩ := I1.list (.inl (.inl ha));have hl := ht.isList;have hne' : ¬ ((Value.type "list" == Value.type "coroutine") = true) := by decide
 refine RQ ?_
 show dJ _ _ _ c ((yieldFrom X.env (.ref a)).wrap (fun b => (dropValue (.YieldFrom e yp) pos b).wrap _ J gd lv) J gd lv) fs s1
 unfold yieldFrom;refine Bl (wpAny_typeOf hl.typeIs ?_)
 rw [if_neg hne'];refine Bl (wpAny_holding ?_)
 rw [g.over];refine wpAny_pyIter_list hl ?_
 refine Ox fun p => ?_
 have ksz : ∀ b o, s1.heap.get? b = some o -> b ≠ s1.heap.objs.size := fun b o e => Jz (Heap.lt_size e)
 have kp : ∀ b o, s1.heap.get? b = some o -> (s1.heap.push (GNX.itObj a 0)).get? b = some o := fun b o e => Heap.get?_push_of_some _ e
 have I2 : Inv X [] σ H1 { s1 with heap := s1.heap.push (GNX.itObj a 0) } := I1.kept (t' := s1.toks) kp
 have hit : (s1.heap.push (GNX.itObj a 0)).get? s1.heap.objs.size = some (GNX.itObj a 0) := Heap.get?_push_size _ rfl
 have hl2 : (s1.heap.push (GNX.itObj a 0)).IsList a its.toArray := hl.push _;have hn : H1 s1.heap.objs.size = none := I1.hok.fresh (bV _);have turned : ∀ h', Heap.SameBut s1.heap.objs.size (s1.heap.push (GNX.itObj a 0)) h' -> Inv X [] σ H1 { s1 with heap := h' } := fun h' hs =>
  Inv.turned (s := { s1 with heap := s1.heap.push (GNX.itObj a 0) }) I2 (t' := s1.toks) (it := s1.heap.objs.size) (fun b o hb eb => hs.extBut b o hb eb) hn (K1 I1.lt) (.inr I1.sz) (fun y c hy => by
   obtain ⟨v, o, ho, _⟩ := I1.cell y c hy;exact ksz c o ho) fun p hp => ksz p.1 _ (I1.pin p hp).1
 have sp2 : ∀ F : Frame -> Frame, True := fun _ => trivial
 have hlen2 : its.toArray.size = xs.length := by
  have := rits.length;simp only [sI];omega
 have hsplit : ∀ (kk : Result -> Sem PySem.Fin) (l : List Value), splitAtGen (.ret kk none (gd false) l c p [] :: fs) = none := fun kk l => by
  show (splitAtGen fs).map _ = none
  rw [g.split]; rfl
 have hguard : ∀ (kk : Result -> Sem PySem.Fin) (l : List Value), (Frame.ret kk none (gd false) l c p [] :: fs).any Frame.guarded = false := fun kk l => by
  show (gd false || fs.any Frame.guarded) = false
  rw [g.gd, g.guard]; rfl
 have hhand : ∀ (kk : Result -> Sem PySem.Fin) (l : List Value), (A.over (Hc s1.heap.objs.size) (.ret kk none (gd false) l c p [] :: fs)).handled = none := fun kk l => by
  show (A.over c fs).handled = none
  rw [g.over]; exact hc
 by_cases hz : xs = []
 ·subst hz
  refine Ll (a := a) (its := its.toArray) (j := 0) (hhand _ _) hit hl2 (Array.getElem?_eq_none (by rw [hlen2]; exact bV 0)) fun h' hk => ?_
  refine Ir (.ok (.ret .none)) (k.fin F _ (k.end0 a σ H1 _ ?_ ha hq))
  refine Inv.turned (s := { s1 with heap := s1.heap.push (GNX.itObj a 0) }) I2 (t' := s1.toks) (it := s1.heap.objs.size) (fun b o hb eb => hk b o hb eb) hn (K1 I1.lt) (.inr I1.sz) (fun y c hy => by
   obtain ⟨v, o, ho, _⟩ := I1.cell y c hy;exact ksz c o ho) fun p hp => ksz p.1 _ (I1.pin p hp).1
 ·have hpos : 0 < its.toArray.size := by
   rw [hlen2];cases xs with
   | nil => exact absurd rfl hz
   | cons _ _ => simp
  obtain ⟨x, hx⟩ : ∃ x, its.toArray[0]? = some x := ⟨its.toArray[0], by simp [hpos]⟩
  refine Iq (a := a) (its := its.toArray) (j := 0) (hsplit _ _) (hguard _ _) hit hl2 hx fun h' l kk p' q1 hs hq' hres => ?_
  have hne : a ≠ s1.heap.objs.size := by obtain ⟨o, ho, _⟩ := hl; exact ksz a o ho
  refine k.first x l kk _ p' _ s1.heap.objs.size a its.toArray xs σ H1 _ hq' (turned h' hs) ha ?_ I1.sz hn q1 hx hq fun s'' q2 hl3 => ?_
  ·exact hl2.extBut hs.extBut hne
  ·refine hres _ s'' q2 (On (hsplit _ _) (hguard _ _) (hhand _ _) (fun F' s' hF' => Ir (.ok (.ret .none)) (k.fin F' s' hF')) (its.toArray.size - 1) (Nat.sub_le _ _) s'' ?_ hl3)
   have : its.toArray.size - (its.toArray.size - 1) = 1 := by omega
   rw [this]; exact q2
end
def UZ (P : Program) (w : World) (A : Around) (outer : List Env) (H : Hp) (sc : Shared) (Q : TQ) (E : XK) (ga : Addr) (g : Nat) : BD := fun e s' => match e with
 | .ret r => (r = .ok (.ret .none) /\ ∃ a H1, s'.os = sc.os /\ AllBare s'.gens /\ Un (frs outer) [] H H1 sc.heap s'.heap /\ HOk P w H1 s'.heap /\ H1 a = some (.lst []) /\ Q a [] H1) \/
   ∃ x, r = .error x /\ CX P w outer H sc E x s' /\ s'.heap.IsGen ga g
 | .susp v g0 l k c p fs => (End.susp v g0 l k c p fs).quiet = true /\ ∃ it a its ws H1, s'.os = sc.os /\ AllBare s'.gens /\ Un (frs outer) [] H H1 sc.heap s'.heap /\ HOk P w H1 s'.heap /\ H1 a = some (.lst ws) /\ s'.heap.IsList a its /\ sc.heap.objs.size <= it /\ H1 it = none /\
   s'.heap.get? it = some (GNX.itObj a 1) /\ its[0]? = some v /\ Q a ws H1 /\ s'.heap.IsGen ga g /\ H1 ga = none /\
   ∀ s'' : Shared, s''.heap.get? it = some (GNX.itObj a 1) -> s''.heap.IsList a its -> dJ (model P w) A (FR (model P w) A it a its (its.size - 1) s'') c (k (.send .none)) fs s''
def Ic (P : Program) (w : World) (k : Nat) (outer : List Env) (H : Hp) (s : Shared) (Q : TQ) (E : XK) (u : Value) (s' : Shared) : Prop :=
 ∃ (a : Addr) (g : Nat) (c : Code), u = .ref a /\ s.heap.objs.size <= a /\ a < s'.heap.objs.size /\ s'.heap.IsGen a g /\ s'.gens[g]? = some (.fresh c) /\ s'.os = s.os /\ AllBare s'.gens /\ s'.heap.NoLimit /\ (∀ b o, s.heap.get? b = some o -> s'.heap.get? b = some o) /\
  ∀ (A : Around) (s2 : Shared), Room k A -> A.frames = some outer -> (∀ b o, s'.heap.get? b = some o -> s2.heap.get? b = some o) -> s2.os = s.os -> AllBare s2.gens -> dJ (model P w) A (UZ P w A outer H s Q E a g) c ((model P w).den c) [] s2
abbrev SpT := List V -> Hp -> TQ -> XK -> Prop
structure GFnT (P : Program) (w : World) (K : aD) (mg : Str -> Option Value) (base : Heap) (k : Nat) (f : Addr) (fd : FuncData) (ps : List Str) (sp : SpT) : Prop where
 len : ∀ vs H Q E, sp vs H Q E -> vs.length = ps.length
 run : ∀ (A : Around) (outer : List Env) (s : Shared) (H : Hp) (args : Args) (us : List Value) (vs : List V) (Q : TQ) (E : XK), Room k A -> Env0 P w K mg base A outer s H -> BindsTo s fd args (ps.zip us) -> Vals vs us -> sp vs H Q E ->
  codeAny (model P w) A (.call (.ref f) args) (fun r s' => match r with | .ok (.ret u) => Ic P w k outer H s Q E u s' | _ => False) s
theorem Q8 {P : Program} {w : World} {K : aD} {mg : Str -> Option Value} {base : Heap} {k : Nat} {f : Addr} {name qual : Str} {params : Arguments} {body : List Stmt} {scope : Scope} {dV kV doc pm cdv ct oc : Value} {an od : Option Addr}
  {osl : Array (Option Value)} {N ps : List Str} {sp : SpT} (lk : K.lookup f = some ⟨oc, od, .func (cZ name qual params body scope dV kV doc pm an cdv ct), osl⟩) (hcd : PySem.W.codeIn K cdv qual = true) (S : GScope N ps scope)
  (len : ∀ vs H Q E, sp vs H Q E -> vs.length = ps.length)
  (hbody : ∀ (A : Around) (outer : List Env) (s : Shared) (H : Hp) (vs : List V) (Q : TQ) (E : XK) (pn : List (Addr × Obj)), Room k (A.deeper (envOfC qual scope s.heap.objs.size f cdv)) -> sp vs H Q E ->
   ∃ t, YSs (gcxOf P w K mg base N qual scope f cdv A outer s H E pn) body t /\ t Q (start N vs) H) :
  GFnT P w K mg base (k + 1) f (cZ name qual params body scope dV kV doc pm an cdv ct) ps sp := by
 refine ⟨len, fun A outer s H args us vs Q E hr e0 hb r hsp => ?_⟩
 have hl := len _ _ _ _ hsp;have KX : K.In s.heap := e0.mod.kin.keeps fun b o e => (e0.bs b o e).1
 have lim : s.heap.NoLimit := e0.mod.nolimit.keeps fun b o e => (e0.bs b o e).1
 have hkind : ∀ y ∈ ps.zip us, scope.names.lookup y.1 = some .local \/ (scope.names.lookup y.1 = some .cell /\ ((cellsFrom (s.heap.objs.size + 1) scope.names []).lookup y.1).isSome = true) := fun ⟨n, v⟩ hy => by
  rcases S.par n (List.of_mem_zip hy).1 with q | q
  ·exact .inl q
  ·exact .inr ⟨q, FP _ _ _ (.inl q)⟩
 refine codeAny_call_generator hr.depth (KX _ _ lk) rfl S.co S.gen rfl (K0 KX hcd) (hb _ _ _ _ ?_)
 refine wpAny_newFunctionEnv_cells S.kind hkind fun env he s1 x => ?_
 subst he;have lim1 : s1.heap.NoLimit := lim.keeps x.toInCall.keep;refine ⟨lim1, ?_⟩
 obtain ⟨h1, tk, es1, hk1⟩ := x.done;have os1 : s1.os = s.os := by rw [es1]
 have gen1 : s1.gens = s.gens := by rw [es1]
 have lt1 : s.heap.objs.size < s1.heap.objs.size := x.toInCall.ns.lt;have sz1 : s.heap.objs.size <= s1.heap.objs.size := wJ lt1;have kp1 : ∀ b o, s.heap.get? b = some o -> s1.heap.get? b = some o := x.toInCall.keep;have main : ∀ (go : Obj) (nm qn : Value) (tk2 : Nat), go.cls = .type "generator" -> go.data = .fields #[.int s1.gens.size 0, nm, qn] -> go.slots = #[] -> (∀ h : Heap, (h.push go).get? h.objs.size = some go) ->
   Ic P w (k + 1) outer H s Q E (.ref s1.heap.objs.size) { s1 with gens := s1.gens.push (.fresh (.func body (envOfC qual scope s.heap.objs.size f cdv))), toks := tk2, heap := s1.heap.push go } := by
  intro go nm qn tk2 hgc hgd0 hgs hgp;have hgen : ∀ h : Heap, h.get? s1.heap.objs.size = some go -> h.IsGen s1.heap.objs.size s1.gens.size := fun h e => ⟨go, nm, qn, e, hgc, hgd0, hgs⟩
  have hpushed : (s1.heap.push go).get? s1.heap.objs.size = some go := hgp _;refine ⟨s1.heap.objs.size, s1.gens.size, _, rfl, sz1, ?_, hgen _ hpushed, Array.getElem?_push_size .., os1, ?_, lim1.keeps fun b o e => Heap.get?_push_of_some _ e, fun b o e => Heap.get?_push_of_some _ (kp1 b o e), ?_⟩
  ·show _ < (s1.heap.push _).objs.size
   rw [Heap.size_push]; exact Co _
  ·exact AllBare.push (by rw [gen1]; exact e0.bare) rfl
  intro Aw s2 hrw hfr hk2 hos hba;have e0w : Env0 P w K mg base Aw outer s H := ⟨hfr, e0.mod, e0.bs, e0.bsz, e0.funs, e0.frf, e0.hok, e0.bare⟩;obtain ⟨t, ht, hq⟩ := hbody Aw outer s H vs Q E [(s1.heap.objs.size, go)] (hrw.deeper _) hsp;have I1 : Inv (gcxOf P w K mg base N qual scope f cdv Aw outer s H E []) [] (start N vs) H s1 := inv_startG S hrw.hd e0w hl r x;have kp2 : ∀ b o, s1.heap.get? b = some o -> s2.heap.get? b = some o := fun b o e => hk2 b o (Heap.get?_push_of_some _ e)
  have I2 : Inv (gcxOf P w K mg base N qual scope f cdv Aw outer s H E []) [] (start N vs) H s2 :=
   I1.call' (ch := []) (hos.trans os1.symm) (Un.kept kp2) (I1.hok.kept kp2) hba fun b z => by simp at z
  have hea : s2.heap.get? s1.heap.objs.size = some go := hk2 s1.heap.objs.size go hpushed;have I3 : Inv (gcxOf P w K mg base N qual scope f cdv Aw outer s H E [(s1.heap.objs.size, go)]) [] (start N vs) H s2 := Inv.pinnedG I2 fun p hp => by
   rw [cP] at hp;rw [bC.mp hp];exact ⟨hea, I1.hok.fresh (bV _), K1 lt1, I1.nofs (bV _), fun v q => by rw [hgd0] at q; cases q⟩
  have pinned : ∀ {s' : Shared} {σ' : L2.St} {H' : Hp}, Inv (gcxOf P w K mg base N qual scope f cdv Aw outer s H E [(s1.heap.objs.size, go)]) [] σ' H' s' -> s'.heap.IsGen s1.heap.objs.size s1.gens.size /\ H' s1.heap.objs.size = none := fun J =>
   ⟨hgen _ (J.pin (s1.heap.objs.size, go) (oU _ (bC.mpr rfl))).1, (J.pin (s1.heap.objs.size, go) (oU _ (bC.mpr rfl))).2.1⟩
  refine Ow ?_
  refine ht.run Aw _ _ [] _ _ id id s2 (start N vs) H Q ⟨over_func, rfl, rfl, rfl⟩ ⟨fun x' s' hx => ?_, fun F' s' hF => M8 (.ok (.ret .none)) hF, fun a σ' H' s' J ha q => ?_, fun v l kk c' p fs' it a its ws σ' H' s' hq' J ha hl' hit hn h1 h0 q hrest => ?_⟩ I3 hq
  ·refine vV ?_
   rw [over_func];refine wpAny_mono (show wpAny (model P w) (Aw.deeper (envOfC qual scope s.heap.objs.size f cdv)) (leaving (envOfC qual scope s.heap.objs.size f cdv) x') (fun _ s'' => CX P w outer H s E x' s'' /\ ∀ p ∈ [(s1.heap.objs.size, go)], s''.heap.get? p.1 = some p.2) (fun _ _ => False) s' from hx) (fun _ s'' q => ?_) fun _ s'' q => q.elim
   exact M8 (.error x') (.inr ⟨x', rfl, q.1, hgen _ (q.2 (s1.heap.objs.size, go) (bC.mpr rfl))⟩)
  ·exact .inl ⟨rfl, a, H', J.os, J.bare, J.base, J.hok, ha, q⟩
  ·exact ⟨hq', it, a, its, ws, H', J.os, J.bare, J.base, J.hok, ha, hl', hit, hn, h1, h0, q, (pinned J).1, (pinned J).2, hrest⟩
 exact main _ _ _ _ rfl rfl rfl fun h => Heap.get?_push_size _ rfl
section
variable {X : Cx} {pins : List (Addr × Obj)} {σ : St} {H : Hp} {s : Shared}
theorem Inv.stored {i : Nat} {x : Str} {v : V} {u : Value} {m : Str -> Option Value} {h' : Heap} {t' : Nat} (I : Inv X pins σ H s) (hN : X.N.Nodup) (hi : X.N[i]? = some x) (hk : X.env.scope.names.lookup x = some .local) (r : RelV v u)
  (hm : s.heap.Ns X.env.locals m) (hl : ∀ (i : Nat) (y : Str) (v : V), X.N[i]? = some y -> σ[i]? = some (some v) -> Vis X.env.scope y -> ∃ u, RelV v u /\ Look X.env s.heap m y u)
  (hn' : h'.Ns X.env.locals (fun y => if y = x then some u else m y)) (hs : Heap.SameBut X.env.locals s.heap h') : Inv X pins (σ.set i (some v)) H { s with heap := h', toks := t' } := by
 have hiσ : i < σ.length := by rw [I.len]; exact (aH.mp hi).1
 have cne := I.cne;obtain ⟨oL, _, _, hoL, _⟩ := id hm;have above : ∀ {b o}, X.s_0.heap.get? b = some o -> h'.get? b = s.heap.get? b := fun {b o} e => hs.2 b (Jz (Nat.lt_of_lt_of_le (Heap.lt_size e) I.ok.above))
 refine ⟨I.ok, I.os, I.bare, ⟨fun b o e n hb hx => (above e).trans (I.base.keep b o e n hb hx), fun b o e n hb hx => ?_, I.base.free, fun b o e hx => ?_, I.base.tups, I.base.frzs, I.base.tbls⟩, ⟨_, hn', fun j y v' e1 e2 e3 => ?_⟩, fun y c e => ?_, I.free, I.freeC, fun p hp => ?_, fun b ob e => ?_, by simpa using I.len⟩
 ·obtain ⟨sl, e1⟩ := I.base.slot b o e n hb hx
  exact ⟨sl, (above e).trans e1⟩
 ·obtain ⟨o', e1⟩ := I.base.there b o e hx
  exact ⟨o', (above e).trans e1⟩
 ·by_cases hj : j = i
  ·subst hj
   rw [hi] at e1; cases e1;rw [Il hiσ] at e2;cases e2;exact ⟨u, r, .inl ⟨hk, by simp⟩⟩
  ·rw [xT (Ne.symm hj)] at e2
   obtain ⟨u', r', q⟩ := hl j y v' e1 e2 e3;refine ⟨u', r', ?_⟩
   rcases q with ⟨k, e⟩ | ⟨k, c, e, z⟩
   ·refine .inl ⟨k, ?_⟩
    have : y ≠ x := fun e => hj (nodup_ix hN e1 (e ▸ hi))
    simp [this, e]
   ·exact .inr ⟨k, c, e, z.sameBut hs (cne y c e)⟩
 ·obtain ⟨w', z⟩ := I.cell y c e
  exact ⟨w', z.sameBut hs (cne y c e)⟩
 ·obtain ⟨e, n, ne, nf, d⟩ := I.pin p hp
  exact ⟨(hs.2 p.1 ne).trans e, n, ne, nf, d⟩
 ·refine (I.hok b ob e).stay (fun c w' hc q => (hs.2 c ?_).trans q) (fun _ q => q) fun _ _ q => q
  rintro rfl
  rcases hc with rfl | hc
  ·rw [I.free] at e; cases e
  ·rw [I.free] at hc; cases hc
theorem Inv.setG {g : Nat} {x : GenState} (I : Inv X pins σ H s) (hx : x.bare = true) : Inv X pins σ H (s.setGen g x) :=
 ⟨I.ok, I.os, allBare_setGen I.bare hx, I.base, I.loc, I.cell, I.free, I.freeC, I.pin, I.hok, I.len⟩
theorem Lv {H : Hp} {a : Addr} {o : HO} (h : H a = some o) : upd H a o = H := by
 funext b; unfold upd; split
 ·rename_i e; rw [e, h]
 ·rfl
end
structure PGenT (X : Cx) (k : Nat) (e : Expr) (tg : St -> Hp -> TQ -> Prop) (W : WX) : Prop where
 run : ∀ (pins : List (Addr × Obj)) (s : Shared) (σ : St) (H : Hp) (Q : TQ), Inv X pins σ H s -> tg σ H Q -> wpAny (model X.prog X.w) X.A (eval e X.env) (fun u s' => ∃ H1 sc, Inv X pins σ H1 sc /\ Ic X.prog X.w k X.stack H1 sc Q (WE W σ) u s') X.xe s
def qA (σ : St) (ix : Nat) (ws : List V) : St := match ws.getLast? with
 | none => σ
 | some z => σ.set ix (some z)
theorem Hm {σ : St} {ix : Nat} {ws : List V} {z : V} : (qA σ ix ws).set ix (some z) = qA σ ix (ws ++ [z]) := by
 unfold qA;rw [List.getLast?_append]
 cases ws.getLast? <;> simp
theorem MV {σ : St} {ix il : Nat} {ws : List V} (h : ix ≠ il) : (qA σ ix ws)[il]? = σ[il]? := by
 unfold qA;split
 ·rfl
 ·rw [xT h]
def RS (ix il : Nat) (tg : St -> Hp -> TQ -> Prop) : TS := fun D σ H => tg σ H fun a ws H1 => ∃ S xs, σ[il]? = some (some (.ref S)) /\ H1 S = some (.lst xs) /\ a ≠ S /\ xs.length + ws.length <= sizeLine /\ D.nx (qA σ ix ws) (upd H1 S (.lst (xs ++ ws)))
section
variable {X : Cx} {k : Nat} {x l : Str} {ix il : Nat} {iter : Expr} {tg : St -> Hp -> TQ -> Prop} {px pl px2 : Pos} {pa pc pe pos : Pos}
theorem LB {pins : List (Addr × Obj)} {σ : St} {H : Hp} {s : Shared} {S : Addr} {xs : List V} {z : V} {v itv : Value} {Q : Flow -> Shared -> Prop} {E1 E2 E3 : Value -> Shared -> Prop} (I : Inv X pins σ H s) (hN : X.N.Nodup) (hix : X.N[ix]? = some x) (hil : X.N[il]? = some l) (hne : ix ≠ il)
  (hlx : X.env.scope.names.lookup x = some .local) (hll : X.env.scope.names.lookup l = some .local) (hS : σ[il]? = some (some (.ref S))) (hH : H S = some (.lst xs)) (hlen : xs.length < sizeLine) (r : RelV z v)
  (hbase : attributeBase (.Name l pl) "append" X.env (eval (.Name l pl) X.env) = eval (.Name l pl) X.env)
  (hfew : ((backTo pc (starEach [.Name x px2] X.env)).all (fun x => !x.1) && (backToKw pc (keywordEach [] X.env)).all (fun x => x.1.isSome) && decide (([.Name x px2] : List Expr).length + ([] : List Keyword).length + (if ([] : List Keyword).isEmpty then 0 else 1) < 30)) = true)
  (hline : (pa.endLine == pc.line) = true) (htrees : backTo pc (starEach [.Name x px2] X.env) = [(false, eval (.Name x px2) X.env)]) (hdx : (x == ("__debug__" : Str)) = false) (hdl : (l == ("__debug__" : Str)) = false)
  (hsw : swapsWith (.Call (.Attribute (.Name l pl) "append" pa) [.Name x px2] [] pc) none pe.line X.env = pure false)
  (hQ : ∀ h' t', Inv X pins (σ.set ix (some z)) (upd H S (.lst (xs ++ [z]))) { s with heap := h', toks := t' } -> (∀ b o, b ≠ S -> b ≠ X.env.locals -> s.heap.get? b = some o -> h'.get? b = some o) -> Q .next { s with heap := h', toks := t' }) :
  wpAny (model X.prog X.w) X.A (letOwnedTupleGo (.Name x px) itv v) (fun _ s1 => wpAny (model X.prog X.w) X.A (assign (.Name x px) X.env v) (fun _ s2 =>
   wpAny (model X.prog X.w) X.A (execs [.Expr (.Call (.Attribute (.Name l pl) "append" pa) [.Name x px2] [] pc) pe] X.env) Q E3 s2) E2 s1) E1 s := by
 show wpAny _ _ (pure ()) _ _ s
 refine wpAny_pure ?_
 refine wpAny_assign_Name ?_
 obtain ⟨m, hm, hl⟩ := id I.loc;have hcls : (X.env.scope.kind == .class || (X.env.scope.kind == .module && X.env.locals != X.env.globals)) = false := by rw [I.ok.kind]; rfl
 refine wpAny_storeName_local hlx hm (fun h1 hn1 hs1 => ?_) hcls
 have I1 := I.stored (t' := s.toks + 1) hN hix hlx r hm hl hn1 hs1;have e1 : (σ.set ix (some z))[il]? = some (some (.ref S)) := by rw [xT hne]; exact hS
 have hiσ : ix < σ.length := by rw [I.len]; exact (aH.mp hix).1
 obtain ⟨m1, hm1, hl1⟩ := id I1.loc;obtain ⟨uS, rS, lS⟩ := hl1 il l _ hil e1 (.inl hll);obtain ⟨ux, rx, lx⟩ := hl1 ix x z hix (by rw [Il hiσ]) (.inl hlx)
 obtain rfl : uS = Value.ref S := rS;have mS : m1 l = some (.ref S) := by
  rcases lS with ⟨_, q⟩ | ⟨q, _⟩
  ·exact q
  ·have q' : X.env.scope.names.lookup l = some .cell \/ X.env.scope.names.lookup l = some .free := q
   rw [hll] at q';rcases q' with q' | q' <;> cases q'
 have mx : m1 x = some ux := by
  rcases lx with ⟨_, q⟩ | ⟨q, _⟩
  ·exact q
  ·have q' : X.env.scope.names.lookup x = some .cell \/ X.env.scope.names.lookup x = some .free := q
   rw [hlx] at q';rcases q' with q' | q' <;> cases q'
 obtain ⟨zl, its, n, rv, hlv, e⟩ := I1.lstM hH;refine wpAny_execs_cons (wpAny_Expr (wpAny_Call_append hbase hfew hline htrees ?_) I1.quiet hsw)
 refine wpAny_Name (wpAny_loadName_local I1.ok.kind hll hm1 mS ?_) hdl
 refine ⟨S, its.toArray, rfl, ⟨_, n, e, rfl, rfl, rfl⟩, ?_⟩
 refine wpAny_Name (wpAny_loadName_local I1.ok.kind hlx hm1 mx ?_) hdx
 refine call_meets F.slot_list_append ⟨_, e, rfl⟩ F.entry_list_append (F.args_list_append_2 _ _) (PySem.list_append S its.toArray n ux (by rw [sI]; omega)) ⟨e, ?_⟩
 refine wpAny_execs_nil (hQ _ _ (I1.lset (its' := its ++ [ux]) (t' := s.toks + 1) hH e (by simp) (rv.append (.cons rx .nil)) ?_) fun b o hb hL eb => ?_)
 ·rw [bL, List.length_singleton]
  omega
 ·exact (Heap.get?_update_other _ _ (Ne.symm hb)).trans ((hs1.2 b hL).trans eb)
end
def LJ (X : Cx) (pins : List (Addr × Obj)) (σ : St) (D : Ends) (ix il : Nat) (ga g : Nat) (m : Nat) (s : Shared) : Prop := ∃ (it a S : Addr) (its : Array Value) (ws xs : List V) (H1 : Hp) (j : Nat),
 m = its.size + 1 - j /\ j <= its.size /\ Vals ws its.toList /\ σ[il]? = some (some (.ref S)) /\ H1 a = some (.lst ws) /\ H1 S = some (.lst xs) /\ a ≠ S /\ xs.length + ws.length <= sizeLine /\ FpOk X pins H1 it /\ FpOk X pins H1 ga /\ it ≠ ga /\
 D.nx (qA σ ix ws) (upd H1 S (.lst (xs ++ ws))) /\ Inv X pins (qA σ ix (ws.take j)) (upd H1 S (.lst (xs ++ ws.take j))) s /\ s.heap.IsGen ga g /\ s.heap.get? it = some (GNX.itObj a j) /\ s.heap.IsList a its /\
 ∃ gs, s.gens[g]? = some gs /\ ∀ s'' : Shared, s''.heap.get? it = some (GNX.itObj a j) -> s''.heap.IsList a its -> Jw (model X.prog X.w) X.A.in1 (FR (model X.prog X.w) X.A.in1 it a its (its.size - j) s'') gs s''
section
variable {X : Cx} {k : Nat} {x l : Str} {ix il : Nat} {iter : Expr} {tg : St -> Hp -> TQ -> Prop} {W : WX} {px pl px2 : Pos} {pa pc pe pos : Pos} {pins : List (Addr × Obj)} {σ : St} {H H1 : Hp} {s : Shared} {D : Ends} {ga g m : Nat}
theorem take_snoc {α : Type} {ws : List α} {j : Nat} {z : α} (h : ws[j]? = some z) : ws.take j ++ [z] = ws.take (j + 1) := by
 rw [List.take_add_one, h]; rfl
theorem Gb {h : Heap} {a : Addr} {i1 i2 : Array Value} (a1 : h.IsList a i1) (a2 : h.IsList a i2) : i1 = i2 := by
 obtain ⟨o, e, c, n, d⟩ := a1;obtain ⟨o', e', c', n', d'⟩ := a2;rw [e] at e'; cases e';rw [d] at d'; cases d'; rfl
structure ForGT (X : Cx) (x l : Str) (ix il : Nat) (pl px2 : Pos) (pa pc pe : Pos) : Prop where
 nd : X.N.Nodup
 hix : X.N[ix]? = some x
 hil : X.N[il]? = some l
 ne : ix ≠ il
 lx : X.env.scope.names.lookup x = some .local
 ll : X.env.scope.names.lookup l = some .local
 base : attributeBase (.Name l pl) "append" X.env (eval (.Name l pl) X.env) = eval (.Name l pl) X.env
 few : ((backTo pc (starEach [.Name x px2] X.env)).all (fun x => !x.1) && (backToKw pc (keywordEach [] X.env)).all (fun x => x.1.isSome) && decide (([.Name x px2] : List Expr).length + ([] : List Keyword).length + (if ([] : List Keyword).isEmpty then 0 else 1) < 30)) = true
 line : (pa.endLine == pc.line) = true
 trees : backTo pc (starEach [.Name x px2] X.env) = [(false, eval (.Name x px2) X.env)]
 dx : (x == ("__debug__" : Str)) = false
 dl : (l == ("__debug__" : Str)) = false
 sw : swapsWith (.Call (.Attribute (.Name l pl) "append" pa) [.Name x px2] [] pc) none pe.line X.env = pure false
theorem Dw {it a S : Addr} {its : Array Value} {ws xs : List V} {j : Nat} {v itv : Value} {gs : GenState} {Q : Flow -> Shared -> Prop} {E1 E2 E3 : Value -> Shared -> Prop} (T : ForGT X x l ix il pl px2 pa pc pe)
  (hj : j < its.size) (rv : Vals ws its.toList) (hS : σ[il]? = some (some (.ref S))) (ha : H1 a = some (.lst ws)) (hHS : H1 S = some (.lst xs)) (hne : a ≠ S) (hsz : xs.length + ws.length <= sizeLine) (fit : FpOk X pins H1 it) (fga : FpOk X pins H1 ga) (hig : it ≠ ga)
  (hD : D.nx (qA σ ix ws) (upd H1 S (.lst (xs ++ ws)))) (I : Inv X pins (qA σ ix (ws.take j)) (upd H1 S (.lst (xs ++ ws.take j))) s) (hg : s.heap.IsGen ga g) (hit : s.heap.get? it = some (GNX.itObj a (j + 1))) (hl : s.heap.IsList a its) (hv : its[j]? = some v)
  (hgs : s.gens[g]? = some gs) (hgo : ∀ s'' : Shared, s''.heap.get? it = some (GNX.itObj a (j + 1)) -> s''.heap.IsList a its -> Jw (model X.prog X.w) X.A.in1 (FR (model X.prog X.w) X.A.in1 it a its (its.size - (j + 1)) s'') gs s'')
  (hQ : ∀ s', LJ X pins σ D ix il ga g (its.size + 1 - (j + 1)) s' -> Q .next s') :
  wpAny (model X.prog X.w) X.A (letOwnedTupleGo (.Name x px) itv v) (fun _ s1 => wpAny (model X.prog X.w) X.A (assign (.Name x px) X.env v) (fun _ s2 =>
   wpAny (model X.prog X.w) X.A (execs [.Expr (.Call (.Attribute (.Name l pl) "append" pa) [.Name x px2] [] pc) pe] X.env) Q E3 s2) E2 s1) E1 s := by
 have hlen : ws.length = its.size := by rw [rv.length]; simp
 obtain ⟨z, hz⟩ : ∃ z, ws[j]? = some z := ⟨ws[j]'(by omega), by rw [cJ]⟩
 obtain ⟨u, hu, ru⟩ := rv.get hz;have huv : u = v := by
  have : its.toList[j]? = some v := by simpa using hv
  rw [this] at hu; cases hu; rfl
 subst huv;have hSit : it ≠ S := fun e => by have := fit.1; rw [e, hHS] at this; cases this
 have hSga : ga ≠ S := fun e => by have := fga.1; rw [e, hHS] at this; cases this
 have haL : a ≠ X.env.locals := fun e => by
  have q := I.free;rw [upd_ne (show X.env.locals ≠ S from fun e2 => by have q2 := I.free; rw [e2, upd_same] at q2; cases q2)] at q
  rw [<- e, ha] at q; cases q
 refine LB (xs := xs ++ ws.take j) (z := z) I T.nd T.hix T.hil T.ne T.lx T.ll (by rw [MV T.ne]; exact hS) upd_same (by rw [bL, iE]; omega) ru T.base T.few T.line T.trees T.dx T.dl T.sw fun h' t' I' hk => hQ _ ?_
 rw [Hm, take_snoc hz, upd_upd, dG, take_snoc hz] at I';obtain ⟨og, nm, qn, eg, rg⟩ := hg;obtain ⟨ol, el, rl⟩ := hl;have hg' : h'.IsGen ga g := ⟨og, nm, qn, hk ga og hSga fga.2.1 eg, rg⟩;exact ⟨it, a, S, its, ws, xs, H1, j + 1, rfl, hj, rv, hS, ha, hHS, hne, hsz, fit, fga, hig, hD, I', hg', hk it _ hSit fit.2.1 hit, ⟨ol, hk a ol hne haL el, rl⟩, gs, hgs, hgo⟩
theorem Inv.like {s' : Shared} (I : Inv X pins σ H { s with heap := s'.heap, toks := s'.toks }) (ho : s'.os = s.os) (hb : AllBare s'.gens) : Inv X pins σ H s' :=
 ⟨I.ok, ho.trans I.os, hb, I.base, I.loc, I.cell, I.free, I.freeC, I.pin, I.hok, I.len⟩
theorem Pa (T : ForGT X x l ix il pl px2 pa pc pe) (hp : PassesOwn (model X.prog X.w) X.A X.env X.xe) (hr : Room (k + 2) X.A) (tk : Takes X W) (hns : ∀ σ, NoStop X.K (WE W σ)) (h : PGenT X k iter tg W)
  (hs : ∀ x, foldedSetIterable iter X.env x = pure x := by intro _; rfl) :
  PS X (.For (.Name x px) iter [.Expr (.Call (.Attribute (.Name l pl) "append" pa) [.Name x px2] [] pc) pe] [] pos) (RS ix il tg) := by
 refine ⟨fun pins s σ H D I h0 => ?_⟩
 refine wpAny_For (thn (h.run pins s σ H _ I h0) fun u s1 ⟨H0, sc, I0, hG⟩ => ?_) hs
 obtain ⟨ga, g, c, rfl, h1, h2, hgen, hgs, hos, hb, hl, hkp, wake⟩ := hG;refine wpAny_pyIter_gen hgen ?_
 have room1 : Room k X.A.in1 := ⟨hr.hd, by have := hr.dp; show X.A.depth + 3 * k + 5 < _; omega, by have := hr.un; show X.A.units + 1 + 16 * k + 200 < _; omega⟩
 have hdep : X.A.depth < recursionLimit := by have := hr.dp; omega
 refine codeAny_forLoop_any (fun m s' => (m = sizeLine + 2 /\ s' = s1) \/ (m < sizeLine + 2 /\ LJ X pins σ D ix il ga g m s')) ?_ (sizeLine + 2) (.inl ⟨rfl, rfl⟩)
 rintro m s3 (⟨rfl, rfl⟩ | ⟨hm, hJ⟩)
 ·have hw := wake X.A.in1 (s3.setGen g .running) room1 I0.ok.frames (fun b o e => e) hos (allBare_setGen hb rfl)
  have hgl : g < s3.gens.size := (Array.getElem?_eq_some_iff.mp hgs).1
  refine wpAny_passesOwn hp (wpAny_gsz (n := g + 1) hgl (Mr hr.hd hl hdep hgen hgs hw fun e s4 hF => ?_))
  cases e with
  | susp v g0 l0 k0 c0 p0 fs0 =>
   obtain ⟨hq, it, a, its, ws, H2, o1, b1, un, hok, ha, hls, hit1, hn, hget, hv, ⟨S, xs, q1, q2, q3, q4, q5⟩, hgen', hgan, hrest⟩ := hF;refine ⟨hq, fun hsz => ?_⟩
   have hsz1 : g < s4.gens.size := by
    have q : (s4.setGen g (End.susp v g0 l0 k0 c0 p0 fs0).genState).gens.size = s4.gens.size := setGen_size _ _ _;omega
   have I1 : Inv X pins σ H2 s4 := I0.call' (ch := []) o1 un hok b1 fun b z => by simp at z
   obtain ⟨its', rits, ht, hle⟩ := I1.list (.inl (.inl ha));obtain rfl := Gb hls ht.isList;have I2 := I1.setG (g := g) (End.bare_of_quiet hq);have fit : FpOk X pins H2 it := I0.fpOk hit1 hn;have fga : FpOk X pins H2 ga := I0.fpOk h1 hgan;have hpos : 0 < its'.toArray.size := by
    rcases Nat.eq_zero_or_pos its'.toArray.size with z | z
    ·rw [Array.getElem?_eq_none (by omega)] at hv; cases hv
    ·exact z
   have hig : it ≠ ga := fun z => by
    obtain ⟨og, nm, qn, eg, cg, _⟩ := hgen';rw [<- z, hget] at eg; cases eg; exact absurd (show Value.type "list_iterator" = Value.type "generator" from cg) (by decide)
   have hle2 : its'.toArray.size <= sizeLine := by
    have := rits.length; simp only [sI]; omega
   have I3 : Inv X pins (qA σ ix (ws.take 0)) (upd H2 S (.lst (xs ++ ws.take 0))) (s4.setGen g (End.susp v g0 l0 k0 c0 p0 fs0).genState) := by
    rw [List.take_zero, cP, Lv q2];exact I2
   refine Dw (j := 0) (gs := (End.susp v g0 l0 k0 c0 p0 fs0).genState) T hpos (by simpa using rits) q1 ha q2 q3 q4 fit fga hig q5 I3 hgen' hget hls hv (setGen_at hsz1) hrest fun s' hJ => ⟨_, ?_, .inr ⟨?_, hJ⟩⟩
   ·omega
   ·omega
  | ret r =>
   rcases hF with ⟨rfl, a, H2, o1, b1, un, hok, ha, S, xs, q1, q2, q3, q4, q5⟩ | ⟨x', rfl, hcx, hg1⟩
   ·refine .inl ⟨.inl rfl, fun h' hk _ => ?_⟩
    have I1 : Inv X pins σ H2 s4 := I0.call' (ch := []) o1 un hok b1 fun b z => by simp at z
    rw [cP, Lv q2] at q5;exact wpAny_execs_nil ⟨σ, H2, (I1.setG (g := g) (x := .finished) rfl).kept (t' := s4.toks) hk, q5⟩
   ·have kin : X.K.In s4.heap := by
     obtain ⟨a, B, H', cls, d, _, fl, _, ub, _⟩ := id hcx;refine I0.ok.mod.kin.keeps fun b o eb => fl.1 b o (ub.keep b o (I0.bs b o eb).1 (I0.bs b o eb).2 fun hm => ?_)
     rcases bM.mp (I0.stkSub b hm) with z | z
     ·have h1 := Heap.lt_size eb
      have h2 := cC I0.ok.bsz I0.ok.above;rw [z] at h1;exact absurd (Nat.lt_of_lt_of_le h1 h2) (Nat.lt_irrefl _)
     ·exact I0.ok.nofr eb z
    refine .inr ⟨x', rfl, hg1, notStop_of (hns σ) kin hcx, ?_⟩
    refine fun _ => passAt tk σ pins H0 sc x' _ I0 ?_
    obtain ⟨a, B, H', cls, d, z1, fl, z2, ub, z3, z4, z5, z6⟩ := hcx;exact ⟨a, B, H', cls, d, z1, fl, z2, ub, z3, z4, allBare_setGen z5 rfl, z6⟩
 ·obtain ⟨it, a, S, its, ws, xs, H2, j, rfl, hj, rv, hS, ha, hHS, hne, hsz, fit, fga, hig, hD, I2, hg2, hit2, hl2, gs, hgs2, hgo⟩ := hJ
  have hgo' := hgo (s3.setGen g .running) hit2 hl2;have hgl : g < s3.gens.size := (Array.getElem?_eq_some_iff.mp hgs2).1
  have hSit : it ≠ S := fun e => by have := fit.1; rw [e, hHS] at this; cases this
  have hnu : upd H2 S (.lst (xs ++ ws.take j)) it = none := by rw [upd_ne hSit]; exact fit.1
  have turned : ∀ s4 : Shared, KB it (s3.setGen g .running) s4 -> Inv X pins (qA σ ix (ws.take j)) (upd H2 S (.lst (xs ++ ws.take j))) s4 := fun s4 kb =>
   Inv.like (Inv.turned (h' := s4.heap) (t' := s4.toks) I2 (fun b o hb e => kb.2.2 b o hb e) hnu fit.2.1 fit.2.2.2.1 fit.2.2.2.2.1 fit.2.2.2.2.2) kb.1 (by rw [kb.2.1]; exact allBare_setGen I2.bare rfl)
  refine wpAny_passesOwn hp (wpAny_gsz (n := g + 1) hgl (Mr hr.hd I2.nolimit hdep hg2 hgs2 hgo' fun e s4 hF => ?_))
  by_cases hjn : j < its.size
  ·have er : its.size - j = (its.size - (j + 1)) + 1 := by omega
   have e1 : its.size - (its.size - (j + 1) + 1) = j := by omega
   have e2 : its.size - (its.size - (j + 1)) = j + 1 := by omega
   rw [er] at hF;cases e with
   | ret r => exact hF.elim
   | susp v g0 l0 k0 c0 p0 fs0 =>
    obtain ⟨hq, hv, kb, hget, hrest⟩ := hF;rw [e1] at hv;rw [e2] at hget hrest;refine ⟨hq, fun hsz' => ?_⟩
    have hsz1 : g < s4.gens.size := by
     have q : (s4.setGen g (End.susp v g0 l0 k0 c0 p0 fs0).genState).gens.size = s4.gens.size := setGen_size _ _ _;omega
    have I3 := (turned s4 kb).setG (g := g) (End.bare_of_quiet hq);obtain ⟨og, nm, qn, eg, rg⟩ := hg2;obtain ⟨ol, el, rl⟩ := hl2;have hait : a ≠ it := fun z => by have := fit.1; rw [<- z, ha] at this; cases this
    refine Dw (j := j) (gs := (End.susp v g0 l0 k0 c0 p0 fs0).genState) T hjn rv hS ha hHS hne hsz fit fga hig hD I3 ⟨og, nm, qn, kb.2.2 ga og (Ne.symm hig) eg, rg⟩ hget ⟨ol, kb.2.2 a ol hait el, rl⟩ hv (setGen_at hsz1) hrest fun s' hJ => ⟨_, ?_, .inr ⟨?_, hJ⟩⟩
    ·omega
    ·omega
  ·have ej : j = its.size := by omega
   subst ej;rw [Nat.sub_self] at hF;obtain ⟨rfl, kb⟩ := hF;have hw : ws.take its.size = ws := vT (by rw [rv.length]; simp)
   refine .inl ⟨.inl rfl, fun h' hk _ => ?_⟩
   have I3 := ((turned s4 kb).setG (g := g) (x := .finished) rfl).kept (t' := s4.toks) hk;rw [hw] at I3;exact wpAny_execs_nil ⟨_, _, I3, hD⟩
end
end L2
namespace PH
open PySem PySem.Spec PyProof.Rows L2
section
variable {X : Cx} {W : WX} {e a : Expr} {es : List Expr} {rest gM : List Stmt} {st : Stmt} {pos p yp : Pos} {x kw : Str} {K : aD} {ma me : FE} {mas : FA} {B : Addr -> Prop} {φ φ' : List Addr} {S S' : aO} {H H' : Hp} {σ : L2.St} {Q : TQ} {m : FS} {n : Jx} {D : Ends} {EX : XK}
def FinY (K : aD) (W : WX) (Q : TQ) (B : Addr -> Prop) (φ : List Addr) (S : aO) (H : Hp) (r : Res (List PH.D)) : Prop := match r with
 | .ok zs S' => ∀ φ' a ws H', GInv K B φ' S' H' -> Ext φ S H φ' S' H' -> H' a = some (.lst ws) -> ¬ lZ B φ' S' a -> RepL K (lZ B φ' S') H' zs ws -> Q a ws H'
 | .err e S' => ∀ φ' σ' c x H', GInv K B φ' S' H' -> Ext φ S H φ' S' H' -> UW K B φ' S' H' e c x -> W c x σ' H'
 | .stuck => False
theorem FinY.ext {r : Res (List PH.D)} (f : FinY K W Q B φ S H r) (e : Ext φ S H φ' S' H') : FinY K W Q B φ' S' H' r := by
 cases r with
 | ok d S1 => exact fun φ1 a v H1 I1 X h nb r => f φ1 a v H1 I1 (e.trans X) h nb r
 | err x S1 => exact fun φ1 σ1 c x H1 I1 X r => f φ1 σ1 c x H1 I1 (e.trans X) r
 | stuck => exact f
def rdY (K : aD) (W : WX) (m : Jx) : TY := fun Q σ H => ∃ B φ S ρ, GInv K B φ S H /\ RepE K B φ S H ρ σ /\ FinY K W Q B φ S H (m ρ S)
def NA (n : Jx) (o : Out) : Res (List PH.D) := match o with
 | .next ρ' S' => n ρ' S'
 | .err e _ S' => .err e S'
 | _ => .stuck
def Dd (m : FS) (n : Jx) : Jx := fun ρ S => NA n (m ρ S)
theorem Ez (a : PS X st (lD X.K (fun c x _ H => EX c x H) m)) (b : YSs X rest (rdY X.K (fun c x _ H => EX c x H) n)) : YSs X (st :: rest) (rdY X.K (fun c x _ H => EX c x H) (Dd m n)) := Ju (Om a b) fun Q σ H h => by
 obtain ⟨B, φ, S, ρ, I, E, f⟩ := h;refine ⟨B, φ, S, ρ, I, E, ?_⟩
 unfold Dd at f;cases q : m ρ S with
 | next ρ' S' => rw [q] at f; exact fun φ' σ' H' I' X' E' => ⟨B, φ', S', ρ', I', E', FinY.ext f X'⟩
 | ret d S' => rw [q] at f; exact f.elim
 | brk ρ' S' => rw [q] at f; exact f.elim
 | cnt ρ' S' => rw [q] at f; exact f.elim
 | err e' ρ' S' => rw [q] at f; exact fun φ' σ' c x H' I' X' E' r => f φ' σ' c x H' I' X' r
 | stuck => rw [q] at f; exact f.elim
theorem fy_yf (he : PE X e (cW X.K (fun c x _ H => EX c x H) me)) (hc : X.A.handled = none) (hi : interactive X.env = false := by rfl) : YSs X [.Expr (.YieldFrom e yp) pos] (rdY X.K (fun c x _ H => EX c x H) (mYf me)) := Ju (ys_yf he hc hi) fun Q σ H h => by
 obtain ⟨B, φ, S, ρ, I, E, f⟩ := h;refine ⟨B, φ, S, ρ, I, E, ?_⟩
 unfold mYf at f;cases q : me ρ S with
 | stuck => rw [q] at f; exact f.elim
 | err x' S' => rw [q] at f; exact fun φ' c x H' I' X' r => f φ' σ c x H' I' X' r
 | ok x' S' =>
  rw [q] at f;intro φ' v H' I' X' r;have f : FinY X.K (fun c x _ H => EX c x H) Q B φ S H (kYf x' S') := f
  unfold kYf at f;split at f
  ·rename_i zs
   split at f
   ·rename_i hz
    obtain ⟨b, ws, rfl, nb, hb, rl⟩ := r;exact ⟨b, ws, rfl, hb, f φ' b ws H' I' X' hb nb rl⟩
   ·exact f.elim
  ·exact f.elim
def KI (K : aD) (md : Li) : SpT := fun vs H Q E => ∃ B φ S ds, GInv K B φ S H /\ RepVs K B φ S H ds vs /\ FinY K (fun c x _ H => E c x H) Q B φ S H (md ds S)
def RJ (P : Program) (w : World) (K : aD) (mg : Str -> Option Value) (base : Heap) (k : Nat) (x : Str) (ps : List Str) (n : Nat) (kw : Str) (sp : SpT) : Prop :=
 ∃ fd, GFnT P w K mg base k (He.ga K x) fd ps sp /\ mg x = some (.ref (He.ga K x)) /\ gW K (.ref (He.ga K x)) = true /\ KBn K fd ps n [kw] (fun us ws => us ++ ws) (fun vs zs => vs ++ zs)
def RK (K : aD) (cs : List Str) : Prop := ∀ c ∈ cs, nS K (.ref (He.ga K c)) (.type "StopIteration") = some false
theorem Sl {K : aD} {cs : List Str} (h : nsB K cs = true) : RK K cs := fun c hc => of_decide_eq_true (cD.mp h c hc)
def wNS (K : aD) (W : WX) : WX := fun c d σ H => W c d σ H /\ nS K c (.type "StopIteration") = some false
def tGKT (K : aD) (W : WX) (n : Nat) (md : Li) (mas : FA) (ma : FE) : L2.St -> Hp -> TQ -> Prop := fun σ H Q => Ef K W mas σ H fun vs H1 => tCons (cW K W ma) tNil σ H1 fun zs H2 => vs.length = n /\ zs.length = 1 /\ KI K md (vs ++ zs) H2 Q (WE (wNS K W) σ)
theorem Pc {j k nn : Nat} {ps : List Str} {md : Li} {kpos : Pos} (F : RJ X.prog X.w X.K X.mg X.base j x ps nn kw (KI X.K md)) (hr : Room k X.A) (ha : PA X (e :: es) (Ef X.K W mas)) (hv : PE X a (cW X.K W ma)) (hjk : j <= k) (hg : Gl X x) (hdb : (x == ("__debug__" : Str)) = false)
  (hall : (backToKw pos (keywordEach [⟨some kw, a, kpos⟩] X.env)).all (·.1.isSome) = true) (hks : (backToKw pos (keywordEach [⟨some kw, a, kpos⟩] X.env)).filterMap (·.1) = [kw])
  (he : starEach (e :: es) X.env = (false, eval e X.env) :: starEach es X.env) (hpl : ((backTo pos (starEach (e :: es) X.env)).any (·.1) || (backToKw pos (keywordEach [⟨some kw, a, kpos⟩] X.env)).any (·.1.isNone)) = false) :
  PGenT X j (.Call (.Name x p) (e :: es) [⟨some kw, a, kpos⟩] pos) (tGKT X.K W nn md mas ma) (wNS X.K W) := by
 obtain ⟨fd, F, hm, hk, hb⟩ := F;refine ⟨fun pins s σ H Q I h => ?_⟩
 refine wpAny_Call_Name_kw (ld_glob I hg hm ?_ hdb)
 refine Ik (h₀ := X.base) I.ok.mod.kin hk hall (thn (ha.run pos pins s σ H _ I h) fun us s1 ⟨vs, H1, I1, r, q⟩ => ?_) hpl he
 refine thn ((pk_cons hv pk_nil : PK X [⟨some kw, a, kpos⟩] _).run pos pins s1 σ H1 _ I1 q) fun ws s2 ⟨zs, H2, I2, rz, l1, l2, q2⟩ => ⟨I2.kIn, ?_⟩
 rw [hks];have r2 := hb.rel r rz;refine wpAny_call (codeAny_mono (F.run X.A X.stack s2 H2 ⟨us, [kw].zip ws⟩ (us ++ ws) (vs ++ zs) Q _ (hr.mono hjk) I2.env0 (hb.to s2 us ws I2.kIn (r.length.symm.trans l1) (rz.length.symm.trans l2)) r2 q2) fun r s' hq => ?_)
 cases r with
 | error e => exact False.elim hq
 | ok fl =>
  cases fl with
  | ret u => exact ⟨H2, s2, I2, hq⟩
  | next => exact False.elim hq
  | brk => exact False.elim hq
  | cont => exact False.elim hq
def E9 (ρ : Ev) (ix : Nat) (zs : List PH.D) : Ev := match zs.getLast? with
 | none => ρ
 | some z => ρ.set ix (some (.dat z))
theorem DR {Bk : Addr -> Prop} : ∀ {zs : List PH.D} {ws : List L2.V}, RepL K Bk H zs ws -> (zs.getLast? = none /\ ws.getLast? = none) \/ ∃ d v, zs.getLast? = some d /\ ws.getLast? = some v /\ Rep K Bk H d v
 | [], _, h => by
  cases h; exact .inl ⟨rfl, rfl⟩
 | d :: ds, _, ⟨v, ws, rfl, h1, h2⟩ => by
  refine .inr ?_
  rcases DR h2 with ⟨q1, q2⟩ | ⟨d', v', q1, q2, r⟩
  ·exact ⟨d, v, by rw [rK, q1]; rfl, by rw [rK, q2]; rfl, h1⟩
  ·exact ⟨d', v', by rw [rK, q1]; rfl, by rw [rK, q2]; rfl, r⟩
theorem RepE.last {ρ : Ev} {ix : Nat} {zs : List PH.D} {ws : List L2.V} (E : RepE K B φ S H ρ σ) (r : RepL K (lZ B φ S) H zs ws) : RepE K B φ S H (E9 ρ ix zs) (qA σ ix ws) := by
 unfold E9 qA;rcases DR r with ⟨q1, q2⟩ | ⟨d', v', q1, q2, r⟩
 ·rw [q1, q2]; exact E
 ·rw [q1, q2]; exact E.set (d := .dat d') r ix
def GQ (cs : List Str) (ix il : Nat) (ρ : Ev) (r : Res (List PH.D)) : Out := match r with
 | .ok zs S3 => (match ρ[il]? with
  | some (some (.cel c)) => (match S3[c]? with
   | some (.lst xs) => if xs.length + zs.length <= sizeLine then .next (E9 ρ ix zs) (S3.set c (.lst (xs ++ zs))) else .stuck
   | _ => .stuck)
  | _ => .stuck)
 | .err e S3 => if e.cls ∈ cs then .err e ρ S3 else .stuck
 | .stuck => .stuck
def En (cs : List Str) (ix il : Nat) (md : Li) (ρ : Ev) (ds : List Vl) (d : Vl) (S2 : aO) : Out := GQ cs ix il ρ (md (ds ++ [d]) S2)
def Eo (cs : List Str) (ix il n : Nat) (md : Li) (ma : FE) (ρ : Ev) (ds : List Vl) (S1 : aO) : Out := if ds.length = n then (ma ρ S1).toS ρ (En cs ix il md ρ ds) else .stuck
def JL (cs : List Str) (ix il n : Nat) (md : Li) (mas : FA) (ma : FE) : FS := fun ρ S => (mas ρ S).toS ρ (Eo cs ix il n md ma ρ)
theorem MI {cs : List Str} {ix il nn : Nat} {md : Li} (N : RK K cs) (h : lD K W (JL cs ix il nn md mas ma) D σ H) : RS ix il (tGKT K W nn md mas ma) D σ H := by
 obtain ⟨B, φ, S, ρ, I, E, f⟩ := h;refine cG I E f fun φ' S' ds vs H1 I1 X1 E1 r1 f1 => ?_
 unfold Eo at f1;split at f1
 case isFalse => exact f1.elim
 rename_i hl;refine cG I1 E1 f1 fun φ2 S2 d v H2 I2 X2 E2 r2 f2 => ?_
 refine ⟨by rw [r1.len]; exact hl, rfl, B, φ2, S2, ds ++ [d], I2, RepVs.snoc (r1.ext X2 I1) r2, ?_⟩
 unfold En GQ at f2;cases q : md (ds ++ [d]) S2 with
 | stuck => rw [q] at f2; exact f2.elim
 | err e S3 =>
  rw [q] at f2;dsimp only at f2;split at f2
  ·rename_i hc
   exact fun φ3 σ' c x H3 I3 X3 rx => ⟨f2 φ3 σ c x H3 I3 X3 (E2.ext X3 I2) rx, by rw [rx.1]; exact N _ hc⟩
  ·exact f2.elim
 | ok zs S3 =>
  rw [q] at f2;dsimp only at f2;intro φ3 a ws H3 I3 X3 ha nb rl;cases q1 : ρ[il]? with
  | none => rw [q1] at f2; exact f2.elim
  | some o =>
   rw [q1] at f2;cases o with
   | none => exact f2.elim
   | some vl =>
    cases vl with
    | dat _ => exact f2.elim
    | cels _ => exact f2.elim
    | scr _ => exact f2.elim
    | tc _ => exact f2.elim
    | cel c =>
     dsimp only at f2;obtain ⟨v2, hv2, ad, rfl, hφ⟩ := E2.2 il _ q1;have hφ3 := X3.ids _ _ hφ;cases q2 : S3[c]? with
     | none => rw [q2] at f2; exact f2.elim
     | some cl =>
      rw [q2] at f2;cases cl with
      | lst xs =>
       dsimp only at f2;split at f2
       ·rename_i hz
        obtain ⟨vs2, h2, l⟩ := I3.ok c _ ad q2 hφ3;have hne : a ≠ ad := fun e => nb (.inr ⟨c, _, q2, by simp, by rw [e]; exact hφ3⟩)
        have X4 := Ext.put (H := H3) (o := .lst (vs2 ++ ws)) (x := .lst (xs ++ zs)) q2 (by simp) hφ3 (by simp)
        have I4 : GInv K B φ3 (S3.set c (.lst (xs ++ zs))) (upd H3 ad (.lst (vs2 ++ ws))) := I3.put q2 (by simp) hφ3 (by simp) ⟨_, upd_same, X4.repL I3 (l.append rl)⟩
        exact ⟨ad, vs2, hv2, h2, hne, by rw [l.len, rl.len]; exact hz, f2 φ3 _ _ I4 (X3.trans X4) (RepE.last ((E2.ext X3 I2).ext X4 I3) (X4.repL I3 rl))⟩
       ·exact f2.elim
      | dead => exact f2.elim
      | ins _ _ => exact f2.elim
      | dct _ => exact f2.elim
      | lv _ => exact f2.elim
      | dki _ _ => exact f2.elim
      | dkt _ _ => exact f2.elim
theorem Qk {j k nn ix il : Nat} {ps cs : List Str} {md : Li} {kpos px pl px2 : Pos} {pa pc pe spos : Pos} {z l : Str} (T : ForGT X z l ix il pl px2 pa pc pe) (N : RK X.K cs) (tk : Takes X W) (hp : PassesOwn (model X.prog X.w) X.A X.env X.xe)
  (F : RJ X.prog X.w X.K X.mg X.base j x ps nn kw (KI X.K md)) (hr : Room k X.A) (ha : PA X (e :: es) (Ef X.K W mas)) (hv : PE X a (cW X.K W ma)) (hjk : j + 2 <= k := by decide) (hg : Gl X x := by rfl) (hdb : (x == ("__debug__" : Str)) = false := by decide)
  (hall : (backToKw pos (keywordEach [⟨some kw, a, kpos⟩] X.env)).all (·.1.isSome) = true := by rfl) (hks : (backToKw pos (keywordEach [⟨some kw, a, kpos⟩] X.env)).filterMap (·.1) = [kw] := by rfl)
  (he : starEach (e :: es) X.env = (false, eval e X.env) :: starEach es X.env := by rfl) (hpl : ((backTo pos (starEach (e :: es) X.env)).any (·.1) || (backToKw pos (keywordEach [⟨some kw, a, kpos⟩] X.env)).any (·.1.isNone)) = false := by rfl)
  (hs : ∀ v, foldedSetIterable (.Call (.Name x p) (e :: es) [⟨some kw, a, kpos⟩] pos) X.env v = pure v := by intro _; rfl) :
  PS X (.For (.Name z px) (.Call (.Name x p) (e :: es) [⟨some kw, a, kpos⟩] pos) [.Expr (.Call (.Attribute (.Name l pl) "append" pa) [.Name z px2] [] pc) pe] [] spos) (lD X.K W (JL cs ix il nn md mas ma)) :=
 fM (Pa T hp (hr.mono hjk) (tk.imp fun _ _ _ _ h => h.1) (fun σ c d H h => h.2) (Pc F hr ha hv (by omega) hg hdb hall hks he hpl) hs) fun D σ H h => MI N h
end
section
variable {P : Program} {w : World} {K : aD} {mg : Str -> Option Value} {base : Heap}
theorem okGT {x kw : Str} {dv : L2.V} {st : Stmt} {N ps : List Str} {k n : Nat} {mb : Jx} (F : FnK K x st kw dv) (g : mg x = some (.ref (He.ga K x))) (S : GScope N ps (defScope st)) (hn : n + 1 = ps.length)
  (b1 : ∀ (kV doc pm : Value) (an : Option Addr) (cdv ct : Value) (us ws : List Value), us.length = n -> ws.length = 1 -> bindArgs (cZ x x (defArgs st) (defBody st) (defScope st) .none kV doc pm an cdv ct) ⟨us, [kw].zip ws⟩ = pure (ps.zip (us ++ ws)))
  (hbody : ∀ (cdv : Value) (A : Around) (outer : List Env) (s : Shared) (H : Hp) (E : XK) (pn : List (Addr × Obj)), Room k (A.deeper (envOfC x (defScope st) s.heap.objs.size (He.ga K x) cdv)) -> YSs (gcxOf P w K mg base N x (defScope st) (He.ga K x) cdv A outer s H E pn) (defBody st) (rdY K (fun c x _ H => E c x H) mb)) : RJ P w K mg base (k + 1) x ps n kw (KI K (MX N.length ps.length mb)) := by
 obtain ⟨fd, F⟩ := F;have kp := F.kp;obtain ⟨oc, od, dV, kV, doc, pm, an, cdv, ct, osl, rfl, lk, hcd, hD, hK⟩ := F.ex;have hlen : ∀ vs H Q E, KI K (MX N.length ps.length mb) vs H Q E -> vs.length = ps.length := fun vs H Q E ⟨B, φ, S, ds, I, r, f⟩ => by
  rw [r.len]
  by_cases h : ds.length = ps.length
  ·exact h
  ·unfold MX at f
   rw [if_neg h] at f;exact f.elim
 refine ⟨_, Q8 lk hcd S hlen fun A outer s H vs Q E pn hr hsp => ⟨_, hbody cdv A outer s H E pn hr, ?_⟩, g, kp, ⟨fun s us ws _ l1 l2 => ?_, fun r1 r2 => r1.append r2⟩⟩
 ·have hv := hlen _ _ _ _ hsp
  obtain ⟨B, φ, S, ds, I, r, f⟩ := hsp;refine ⟨B, φ, S, envOf N.length ds, I, H6 r, ?_⟩
  unfold MX at f;rw [if_pos (by rw [<- r.len]; exact hv)] at f
  exact f
 ·rcases hD with ⟨_, rfl⟩ | ⟨e, _⟩
  ·exact .of_eq (b1 kV doc pm an cdv ct us ws l1 l2)
  ·exact absurd rfl e
end
section
variable {ρ : Ev} {S : aO} {m : FS} {n : Jx} {me ma : FE} {mas : FA} {md : Li} {cs : List Str} {ix il nn : Nat}
theorem TZ : Dd m n ρ S = NA n (m ρ S) := rfl
theorem U8 : JL cs ix il nn md mas ma ρ S = (mas ρ S).toS ρ (Eo cs ix il nn md ma ρ) := rfl
theorem QS {x y z : Vl} : Eo cs ix il 3 md ma ρ [x, y, z] S = (ma ρ S).toS ρ (En cs ix il md ρ [x, y, z]) := rfl
theorem QR {x y z d : Vl} : En cs ix il md ρ [x, y, z] d S = GQ cs ix il ρ (md [x, y, z, d] S) := rfl
end
end PH
namespace PH
open PySem PySem.Spec PyProof PyProof.Rows L2
theorem Pk {n : Nat} {fa : List He.Fa} {fn : List He.DefD} {ts : List He.Tab} {ex : aD -> Bool} {g : Addr -> Option Obj} {s : Shared} (h : ∀ a, g a = s.heap.get? a) : Sk n fa fn ts ex g = (Rq n fa fn ts ex).obs s := by
 have e : g = s.heap.get? := funext h;rw [e] <;> rfl
section
variable {X : Cx} {W : WX}
theorem fI {i j pos} : PE X (.Constant (.int i) j pos) (cW X.K W (mC (.int i))) := O7 pe_int fun _ _ => rfl
theorem fS {x j pos} : PE X (.Constant (.str x) j pos) (cW X.K W (mC (.str x))) := O7 pe_str fun _ _ => rfl
theorem fB {b j pos} : PE X (.Constant (.bool b) j pos) (cW X.K W (mC (.bl b))) := O7 pe_bl fun _ _ => rfl
theorem fN {j pos} : PE X (.Constant .none j pos) (cW X.K W (mC .non)) := O7 pe_non fun _ _ => rfl
end
section
variable {P : Program} {w : World} {K : aD} {mg : Str -> Option Value} {base : Heap}
theorem jT {x : Str} {st : Stmt} {N ps : List Str} {k : Nat} {md : FD} {mb : FS} (F : qQ K x st) (g : mg x = some (.ref (He.ga K x))) (S : FnScope N ps (defScope st)) (R : Runs md N.length ps.length mb)
  (bnd : ∀ (kV doc pm : Value) (an : Option Addr) (cdv ct : Value) (us : List Value), us.length = ps.length -> bindArgs (cZ x x (defArgs st) (defBody st) (defScope st) .none kV doc pm an cdv ct) ⟨us, []⟩ = pure (ps.zip us))
  (hbody : ∀ (cdv : Value) (A : Around) (outer : List Env) (s : Shared) (H : Hp) (E : XK), Room k (A.deeper (envOfC x (defScope st) s.heap.objs.size (He.ga K x) cdv)) ->
   Takes (cxOf (L2.CX P w) P w K mg base N x (defScope st) (He.ga K x) cdv A outer s H E) (fun c x _ H => E c x H) -> N.Nodup ->
   PSs (cxOf (L2.CX P w) P w K mg base N x (defScope st) (He.ga K x) cdv A outer s H E) (defBody st) (lD K (fun c x _ H => E c x H) mb)) : sG P w K mg base (k + 1) x ps (spF K md) :=
 okF F g S R bnd fun cdv A outer s H E hr => hbody cdv A outer s H E hr (takes_of (X := cxOf (L2.CX P w) P w K mg base N x (defScope st) (He.ga K x) cdv A outer s H E) (E := E) rfl rfl rfl rfl) S.nd
theorem wR {C m q : Str} {st : Stmt} {N ps : List Str} {k : Nat} {md : FD} {mb : FS} (F : Hf K C m q st) (g : Meth K (He.ga K C) m (He.ma K (He.ga K C) m)) (S : FnScope N ps (defScope st)) (R : Runs md N.length ps.length mb)
  (bnd : ∀ (kV doc pm : Value) (an : Option Addr) (cdv ct : Value) (us : List Value), us.length = ps.length -> bindArgs (cZ m q (defArgs st) (defBody st) (defScope st) .none kV doc pm an cdv ct) ⟨us, []⟩ = pure (ps.zip us))
  (hbody : ∀ (cdv : Value) (A : Around) (outer : List Env) (s : Shared) (H : Hp) (E : XK), Room k (A.deeper (envOfC q (defScope st) s.heap.objs.size (He.ma K (He.ga K C) m) cdv)) ->
   Takes (cxOf (L2.CX P w) P w K mg base N q (defScope st) (He.ma K (He.ga K C) m) cdv A outer s H E) (fun c x _ H => E c x H) -> N.Nodup ->
   PSs (cxOf (L2.CX P w) P w K mg base N q (defScope st) (He.ma K (He.ga K C) m) cdv A outer s H E) (defBody st) (lD K (fun c x _ H => E c x H) mb)) : OkMX P w K mg base (k + 1) C m ps (spF K md) :=
 okFM F g S R bnd fun cdv A outer s H E hr => hbody cdv A outer s H E hr (takes_of (X := cxOf (L2.CX P w) P w K mg base N q (defScope st) (He.ma K (He.ga K C) m) cdv A outer s H E) (E := E) rfl rfl rfl rfl) S.nd
end
end PH
namespace PH
open PySem PySem.Spec PyProof.Rows L2
def oS : FS :=
 (bX (pH (m1 (fIsi "int") (aC 0)) (Mx (m1 (fIsi "bool") (aC 0)))))
def eY : FD := run 1 1 oS
def zW : FS :=
 (bX (pH (aY eY (aB (aC 0) aK)) (rA Lh Lh (mC (.int 0)) (aC 0) (mC (.int 1)))))
def vA : FD := run 1 1 zW
def lV : FE :=
 (pH (aY eY (aB (aC 4) aK)) (rA Lh Lh (aC 2) (aC 4) (aC 3)))
def jM : FS :=
 (aQ (bU (BS (oK (gQ (m1 (fIsi "tuple") (aC 0)))) (mB (aP fF (m1 eT (aC 0)) (mC (.int 0))))) (bX (mC (.bl false))) bK)
 (aQ (bU (BS (oK (gQ (m1 (fIsi "str") (aP bO (aC 0) (mC (.int 0)))))) (mB (m1 (gF true) (aP bO (aC 0) (mC (.int 0)))))) (bX (mC (.bl false))) bK)
 (aQ (bR (m1 Ab (aP bO (aC 0) (mC (.int 0)))) (.tp [1, 2, 3]))
 (aQ (bU (mB (aP FN (m1 eT (aC 0)) (aP (dA false) (aC 1) (mC (.int 1))))) (bX (mC (.bl false))) bK)
 (bX (m1 Gy (AB false (jQ (B7 false (aC 0) (gG (mC (.int 1))) pV)) (.nm 4) fX lV [4])))))))
def eZ : FD := run 5 1 jM
def qM : FS :=
 (aQ (bR (aP bO (aC 0) (mC (.int 0))) (.nm 1))
 (aQ (bU (BS (mB (aP fF (aC 1) (mC (.str "keep")))) (mB (aP fF (aC 1) (mC (.str "again"))))) (bX (cN false (aB (aP bO (aC 0) (mC (.int 1))) aK))) bK)
 (aQ (bU (mB (aP fF (aC 1) (mC (.str "either")))) (bX (cN false (aB (aP bO (aC 0) (mC (.int 1))) (aB (aP bO (aC 0) (mC (.int 2))) aK)))) bK)
 (aQ (bU (mB (aP fF (aC 1) (mC (.str "call")))) (bX (aP bO (aC 0) (mC (.int 3)))) bK)
 (bX (cN false aK))))))
def kQ : FD := run 2 1 qM
def nA : FS :=
 (aQ (bR (aP bO (aC 0) (mC (.int 0))) (.nm 2))
 (aQ (bU (BS (mB (aP fF (aC 2) (mC (.str "keep")))) (mB (aP fF (aC 2) (mC (.str "again"))))) (bX (cH (aB (aC 2) (aB (aP bO (aC 1) (mC (.int 0))) aK)))) bK)
 (aQ (bU (mB (aP fF (aC 2) (mC (.str "either")))) (bX (cH (aB (aC 2) (aB (aP bO (aC 1) (mC (.int 0))) (aB (aP bO (aC 1) (mC (.int 1))) aK))))) bK)
 (aQ (bU (mB (aP fF (aC 2) (mC (.str "call")))) (bX (cH (aB (aC 2) (aB (aP bO (aC 0) (mC (.int 1))) (aB (aP bO (aC 0) (mC (.int 2))) (aB (aC 1) aK)))))) bK)
 (bX (aC 0))))))
def mW : FD := run 3 2 nA
def iA (f_copied_block : FD) : FS :=
 (bX (aY mW (aB (aC 0) (aB (AB false (jQ (aY kQ (aB (aC 0) aK))) (.nm 1) fX (aY (f_copied_block) (aB (aC 1) aK)) [1]) aK))))
def lY (f_copied_statement : FD) : FS :=
 (bX (AB false (jQ (aC 0)) (.nm 1) fX (aY (f_copied_statement) (aB (aC 1) aK)) [1]))
def kJ : Nat -> FD × FD
 | 0 => (uI, uI)
 | n + 1 => let r := kJ n
  (run 2 1 (iA r.2), run 2 1 (lY r.1))
def gZ (n : Nat) : FD := (kJ n).1
def eO (n : Nat) : FD := (kJ n).2
def nC : FS :=
 (aQ (bU (gQ (aY eZ (aB (aC 0) aK))) (bX (mC (.bl true))) bK)
 (aQ (bU (BS (oK (gQ (m1 (fIsi "tuple") (aC 0)))) (BS (mB (aP Gw (m1 eT (aC 0)) (mC (.int 2)))) (oK (gQ (m1 (fIsi "str") (aP bO (aC 0) (mC (.int 0)))))))) (bX (mC (.bl false))) bK)
 (aQ (bR (aP bO (aC 0) (mC (.int 0))) (.nm 3))
 (aQ (bU (mB (aP fF (aC 3) (mC (.str "end")))) (bX (pH (aP fF (m1 eT (aC 0)) (mC (.int 2))) (aY vA (aB (aP bO (aC 0) (mC (.int 1))) aK)))) bK)
 (aQ (bU (mB (aP fF (aC 1) (mC (.int 3)))) (bX (mC (.bl false))) bK)
 (aQ (bU (BS (mB (aP fF (aC 3) (mC (.str "keep")))) (mB (aP fF (aC 3) (mC (.str "again"))))) (bX (pH (aP fF (m1 eT (aC 0)) (mC (.int 2))) (m1 (fIsi "list") (aP bO (aC 0) (mC (.int 1)))))) bK)
 (aQ (bU (mB (aP fF (aC 3) (mC (.str "either")))) (bX (pH (aP fF (m1 eT (aC 0)) (mC (.int 3))) (pH (m1 (fIsi "list") (aP bO (aC 0) (mC (.int 1)))) (m1 (fIsi "list") (aP bO (aC 0) (mC (.int 2))))))) bK)
 (aQ (bU (BS (mB (aP FN (aC 3) (mC (.str "call")))) (mB (aP FN (m1 eT (aC 0)) (mC (.int 4))))) (bX (mC (.bl false))) bK)
 (aQ (bU (BS (oK (gQ (aY eY (aB (aP bO (aC 0) (mC (.int 1))) aK)))) (oK (mB (rA Lh Gw (mC (.int 0)) (aP bO (aC 0) (mC (.int 1))) (aC 2))))) (bX (mC (.bl false))) bK)
 (aQ (bU (BS (oK (gQ (m1 (fIsi "bool") (aP bO (aC 0) (mC (.int 2)))))) (BS (oK (gQ (m1 (fIsi "list") (aP bO (aC 0) (mC (.int 3)))))) (mB (aP FN (m1 eT (aP bO (aC 0) (mC (.int 3)))) (mC (.int 2)))))) (bX (mC (.bl false))) bK)
 (bX (pH (m1 (fIsi "list") (aP bO (aP bO (aC 0) (mC (.int 3))) (mC (.int 0)))) (m1 (fIsi "list") (aP bO (aP bO (aC 0) (mC (.int 3))) (mC (.int 1))))))))))))))))
def jY : FD := run 4 3 nC
def fQ (f_first_fault : FD) : FS :=
 (iX [8, 9, 10] (aQ (bR (aY (f_first_fault) (aB (aC 9) (aB (aP (dA false) (aC 1) (mC (.int 1))) (aB (aC 2) (aB (aP (dA false) (aC 7) (cH (aB (aC 8) aK))) (aB (aC 4) aK)))))) (.tp [10, 4]))
 (bU (mB (aP (Cw true) (aC 10) (mC .non))) (bX (cH (aB (aC 10) (aB (aC 4) aK)))) bK)))
def kB (f_first_fault : FD) : FS :=
 (iX [5, 6, 7, 8, 9, 10] (aQ (bR (aP (dA false) (aC 3) (cH (aB (aC 5) aK))) (.nm 7))
 (aQ (bU (BS (mB (aP fF (aC 5) (mC (.int 8)))) (BS (mB (aP fF (aC 4) (mC (.int 12)))) (oK (gQ (aY jY (aB (aC 6) (aB (aC 1) (aB (aC 2) aK)))))))) (bX (cH (aB (aC 7) (aB (aC 4) aK)))) bK)
 (aQ (Km (fun x y => x + y) 4 (mC (.int 1)))
 (rR (De (aY kQ (aB (aC 6) aK))) (.tp [8, 9]) (fQ (f_first_fault)))))))
def nE (f_first_fault : FD) : FS :=
 (aQ (rR (De (aC 0)) (.tp [5, 6]) (kB (f_first_fault)))
 (bX (cH (aB (mC .non) (aB (aC 4) aK)))))
def dH : Nat -> FD
 | 0 => uI
 | n + 1 => run 11 5 (nE (dH n))
def dY : FS :=
 (iX [2, 3, 4, 5] (aQ (bU (oK (gQ (m1 (fIsi "list") (aC 3)))) (lG "NoBook" ["path", "procedure"] (aB (aC 2) (aB (cH aK) aK))) bK)
 (aQ (bR (aY (dH 10) (aB (aC 3) (aB (mC (.int 0)) (aB (m1 eT (aC 1)) (aB (cH aK) (aB (mC (.int 0)) aK)))))) (.tp [4, 5]))
 (bU (mB (aP (Cw true) (aC 4) (mC .non))) (lG "NoBook" ["path", "procedure"] (aB (aC 2) (aB (aC 4) aK))) bK))))
def qP : FS :=
 (aQ (bU (BS (oK (gQ (m1 (fIsi "list") (aC 1)))) (oK (mB (rA Lh Lh (mC (.int 1)) (m1 eT (aC 1)) (mC (.int 3)))))) (lG "NoBook" ["path", "procedure"] (aB (m1 xI (mC (.int 1))) (aB (cH aK) aK))) bK)
 (aQ (rR (De (aC 1)) (.tp [2, 3]) dY)
 (vC "Book" "own" (aC 0) (AB false (jQ (aC 1)) (.nm 3) fX (aY (eO 20) (aB (aC 3) aK)) [3]))))
def kT : FD := run 6 2 qP
def tM : FS :=
 (bX (m1 eT (fY "Book" "own" (aC 0))))
def pF : FD := run 1 1 tM
def nF : FS :=
 (bX (AB false (jQ (fY "Book" "own" (aC 0))) (.nm 1) fX (aY (eO 20) (aB (aC 1) aK)) [1]))
def mX : FD := run 2 1 nF
def zX : FS :=
 (bX (aP (dA true) (cN false (aB (mC (.int 0)) aK)) (Sr (AB false (jQ (B7 false (aC 0) pV (gG (mC (.int 63))))) (.nm 1) fX (m1 pX (aC 1)) [1]) (cN false (aB (mC (.int 0)) aK)))))
def yT : FD := run 2 1 zX
def A0 : FS :=
 (aQ (kA (fun x y => x + y) (aC 0) (mC (.int 0)) (mC (.int 1)))
 (aQ (bR (aP (dA false) (mC (.int 1)) (aP wO (m1 pX (aP bO (aC 0) (mC (.int 0)))) (aP rB (m1 eT (aC 0)) (mC (.int 1))))) (.nm 2))
 (aQ (bR (m1 pX (aP bO (aC 0) (aC 2))) (.nm 3))
 (aQ (bU (mB (aP fGe (aC 3) (aP LD (mC (.int 10)) (mC (.int 18))))) (aQ (JJ (aP tZ (aC 3) (aC 1)) (aC 0) (aC 2))
 (bX (aP wO (aC 3) (aC 1)))) bK)
 (aQ (bR (aP wO (aP rW (m1 pX (aP (dA false) (aP (dA false) (aC 3) (aP rW (mC (.int 7919)) (aP bO (aC 0) (mC (.int 0))))) (mC (.int 1)))) (mC (.int 48271))) (mC (.int 2147483647))) (.nm 4))
 (aQ (bR (aP wO (aP rW (aC 4) (aP (dA false) (aP tZ (aC 4) (mC (.int 1009))) (mC (.int 69621)))) (mC (.int 2147483647))) (.nm 4))
 (aQ (bR (aP wO (aP rW (aC 4) (aP (dA false) (aP tZ (aC 4) (mC (.int 2003))) (mC (.int 40692)))) (mC (.int 2147483399))) (.nm 4))
 (bX (aP wO (aP tZ (aC 4) (mC (.int 11))) (aC 1))))))))))
def bY : FD := run 5 2 A0
def tK : FS :=
 (aQ (bU (mB (aP fF (aP bO (aC 0) (mC (.int 0))) (mC (.str "call")))) (bX (m1 (tY false) (aP bO (aC 0) (mC (.int 3))))) bK)
 (bX (AB false (jQ (B7 false (aC 0) (gG (mC (.int 1))) pV)) (.nm 1) (gQ (m1 (fIsi "list") (aC 1))) (aC 1) [1])))
def pE : FD := run 2 1 tK
def sA : FS :=
 (aQ (bU (mB (aP fF (aP bO (aC 0) (mC (.int 0))) (mC (.str "call")))) (bX (aP (dA false) (B7 false (aC 0) pV (gG (mC (.int 3)))) (cH (aB (aC 1) aK)))) bK)
 (aQ (bU (mB (aP fF (m1 eT (aC 1)) (mC (.int 0)))) (bX (aC 0)) bK)
 (bX (aP (dA false) (cH (aB (aP bO (aC 0) (mC (.int 0))) aK)) (m1 fTuple (aC 1))))))
def iG : FD := run 2 2 sA
def xK (f_L_copy : FD) : FE :=
 (aY iG (aB (aC 1) (aB (AB false (jQ (aY pE (aB (aC 1) aK))) (.nm 2) fX (aY (f_L_copy) (aB (aC 2) aK)) [2]) aK)))
def A1 (f_L_copy : FD) : FS :=
 (bX (AB false (jQ (aC 0)) (.nm 1) fX (xK (f_L_copy)) [1]))
def rQ : Nat -> FD
 | 0 => uI
 | n + 1 => run 3 1 (A1 (rQ n))
def tJ : FS :=
 (bX (AB false (jQ (aC 0)) (.nm 1) fX (aY (rQ 10) (aB (aC 1) aK)) [1]))
def sV : FD := run 2 1 tJ
def qO : FS :=
 (aQ (bR (cN false (aB (cN false (aB (mC (.int 0)) (aB (mC (.int 0)) (aB (mC (.int 0)) (aB (mC (.int 1)) (aB (mC (.int 1)) aK)))))) (aB (cN false (aB (mC (.int 0)) (aB (mC (.int 0)) (aB (mC (.int 2)) (aB (mC (.int 3)) (aB (mC (.int 1)) aK)))))) (aB (cN false (aB (mC (.int 0)) (aB (mC (.int 6)) (aB (mC (.int 7)) (aB (mC (.int 8)) (aB (mC (.int 8)) aK)))))) (aB (cN false (aB (mC (.int 0)) (aB (mC (.int 4)) (aB (mC (.int 5)) (aB (mC (.int 6)) (aB (mC (.int 7)) aK)))))) (aB (cN false (aB (mC (.int 0)) (aB (mC (.int 1)) (aB (mC (.int 3)) (aB (mC (.int 6)) (aB (mC (.int 8)) aK)))))) aK)))))) (.nm 2))
 (aQ (bR (aP (dA false) (aC 2) (cN false (aB (cN false (aB (mC (.int 0)) (aB (mC (.int 1)) (aB (mC (.int 2)) (aB (mC (.int 3)) (aB (mC (.int 4)) (aB (mC (.int 5)) (aB (mC (.int 6)) (aB (mC (.int 7)) (aB (mC (.int 8)) aK)))))))))) (aB (cN false (aB (mC (.int 1)) (aB (mC (.int 1)) (aB (mC (.int 2)) (aB (mC (.int 3)) (aB (mC (.int 4)) aK)))))) (aB (cN false (aB (mC (.int 5)) (aB (mC (.int 6)) (aB (mC (.int 7)) (aB (mC (.int 8)) (aB (mC (.int 8)) aK)))))) aK))))) (.nm 2))
 (aQ (bR (aP bO (aC 2) (aC 1)) (.nm 3))
 (aQ (bR (aP bO (aC 3) (aY bY (aB (aC 0) (aB (m1 eT (aC 3)) aK)))) (.nm 4))
 (aQ (bU (mB (aP fF (aC 4) (mC (.int 0)))) (aQ (bR (aP rB (aY bY (aB (aC 0) (aB (mC (.int 19)) aK))) (mC (.int 9))) (.nm 5))
 (bX (cH (aB (mC (.str "go")) (aB (aP bO (cN false (aB (aC 5) (aB (mC (.int 2)) (aB (aP rB (aP wO (m1 pX (aC 5)) (mC (.int 3))) (mC (.int 1))) (aB (mC (.int 1)) aK))))) (aY bY (aB (aC 0) (aB (mC (.int 4)) aK)))) aK))))) bK)
 (aQ (bU (mB (aP fF (aC 4) (mC (.int 1)))) (bX (cH (aB (mC (.str "turn")) (aB (aP (dA false) (mC (.int 1)) (aY bY (aB (aC 0) (aB (mC (.int 3)) aK)))) aK)))) bK)
 (aQ (bU (mB (aP fF (aC 4) (mC (.int 2)))) (bX (cH (aB (mC (.str "mirror")) aK))) bK)
 (aQ (bU (mB (aP fF (aC 4) (mC (.int 3)))) (bX (cH (aB (mC (.str "scale")) (aB (aP bO (cH (aB (m1 xI (mC (.int 1))) (aB (m1 xI (mC (.int 1))) (aB (m1 xI (mC (.int 1))) (aB (mC (.int 1)) (aB (mC (.int 1)) (aB (mC (.int 0)) (aB (mC (.int 2)) (aB (m1 xI (mC (.int 3))) aK))))))))) (aY bY (aB (aC 0) (aB (mC (.int 8)) aK)))) aK)))) bK)
 (aQ (bU (mB (aP Gw (aC 4) (mC (.int 6)))) (bX (cH (aB (aP bO (cH (aB (mC (.str "aim")) (aB (mC (.str "place")) aK))) (aP rB (aC 4) (mC (.int 4)))) (aB (aP rB (aY bY (aB (aC 0) (aB (mC (.int 19)) aK))) (mC (.int 9))) (aB (aP rB (aY bY (aB (aC 0) (aB (mC (.int 19)) aK))) (mC (.int 9))) aK))))) bK)
 (bX (cH (aB (aP bO (cH (aB (mC (.str "mark")) (aB (mC (.str "return")) (aB (mC (.str "exchange")) aK)))) (aP rB (aC 4) (mC (.int 6)))) aK))))))))))))
def iW : FD := run 6 2 qO
def zY : FS :=
 (aQ (bR (aP (dA false) (mC (.int 1)) (aY bY (aB (aC 0) (aB (mC (.int 3)) aK)))) (.nm 2))
 (aQ (bR (aY bY (aB (aC 0) (aB (mC (.int 4)) aK))) (.nm 3))
 (aQ (bU (mB (aP fF (aC 1) (mC (.int 6)))) (bR (aP (dA false) (mC (.int 1)) (aP wO (aC 3) (mC (.int 2)))) (.nm 3)) bK)
 (aQ (bU (mB (aP fF (aC 1) (mC (.int 7)))) (bR (mC (.int 3)) (.nm 3)) bK)
 (aQ (bR (cN false (aB (cN false (aB (cH (aB (mC (.str "go")) (aB (aC 2) aK))) (aB (cH (aB (mC (.str "go")) (aB (m1 xI (aC 2)) aK))) aK))) (aB (cN false (aB (cH (aB (mC (.str "turn")) (aB (aC 2) aK))) (aB (cH (aB (mC (.str "turn")) (aB (aP rB (mC (.int 4)) (aC 2)) aK))) aK))) (aB (cN false (aB (cH (aB (mC (.str "mirror")) aK)) (aB (cH (aB (mC (.str "mirror")) aK)) aK))) aK)))) (.nm 4))
 (bX (aP bO (aP (dA false) (aC 4) (cN false (aB (cN false (aB (cH (aB (mC (.str "exchange")) aK)) (aB (cH (aB (mC (.str "exchange")) aK)) aK))) aK))) (aC 3))))))))
def rP : FD := run 5 2 zY
def kO (f_L_piece : FD) : FS :=
 (iX [7] (bU (mB (aP E6 (aP bO (aC 3) (mC (.int 0))) (mC (.int 0)))) (bR (aP (dA false) (aC 6) (aY (f_L_piece) (aB (aC 0) (aB (aC 1) (aB (aC 2) (aB (aC 3) (aB (aC 4) (aB (aC 5) aK)))))))) (.nm 6)) bK))
def wI (f_L_piece : FD) : FS :=
 (aQ (bR (cN false aK) (.nm 6))
 (aQ (rR (iY (aY bY (aB (aC 0) (aB (mC (.int 3)) aK)))) (.nm 7) (kO (f_L_piece)))
 (bX (aC 6))))
def wH (f_L_block : FD) (f_L_piece : FD) : FS :=
 (aQ (bR (aY bY (aB (aC 0) (aB (mC (.int 17)) aK))) (.nm 6))
 (aQ (bU (B9 (mB (aP E6 (aC 6) (mC (.int 6)))) (B9 (mB (aP Gw (aC 6) (mC (.int 15)))) (mB (aP E6 (aC 2) (mC (.int 2)))))) (bR (aP wO (aC 6) (mC (.int 6))) (.nm 6)) bK)
 (aQ (bU (B9 (mB (aP fF (aC 6) (mC (.int 6)))) (mB (aP Gw (aP bO (aC 3) (mC (.int 0))) (mC (.int 2))))) (bR (mC (.int 0)) (.nm 6)) bK)
 (aQ (bU (B9 (mB (aP E6 (aC 6) (mC (.int 10)))) (B9 (mB (aP Gw (aC 6) (mC (.int 15)))) (BS (mB (aP Gw (aP bO (aC 4) (mC (.int 0))) (mC (.int 1)))) (mB (aP fGe (aC 5) (aP bO (aC 4) (mC (.int 1)))))))) (bR (mC (.int 0)) (.nm 6)) bK)
 (aQ (kA (fun x y => x - y) (aC 3) (mC (.int 0)) (mC (.int 1)))
 (aQ (bU (mB (aP Gw (aC 6) (mC (.int 6)))) (bX (cN false (aB (aY iW (aB (aC 0) (aB (aC 1) aK))) aK))) bK)
 (aQ (bU (mB (aP fF (aC 6) (mC (.int 6)))) (aQ (kA (fun x y => x - y) (aC 3) (mC (.int 0)) (mC (.int 1)))
 (aQ (bR (aY rP (aB (aC 0) (aB (aC 1) aK))) (.nm 7))
 (aQ (bR (cN false aK) (.nm 8))
 (aQ (bU (mB (aP E6 (aP bO (aC 3) (mC (.int 0))) (mC (.int 0)))) (bR (aY (f_L_piece) (aB (aC 0) (aB (aC 1) (aB (aC 2) (aB (aC 3) (aB (aC 4) (aB (aC 5) aK))))))) (.nm 8)) bK)
 (bX (aP (dA false) (aP (dA false) (B7 false (aC 7) pV (gG (mC (.int 1)))) (aC 8)) (B7 false (aC 7) (gG (mC (.int 1))) pV))))))) bK)
 (aQ (bU (mB (aP Gw (aC 6) (mC (.int 9)))) (aQ (bR (aY (f_L_block) (aB (aC 0) (aB (aC 1) (aB (aP (dA false) (aC 2) (mC (.int 1))) (aB (aC 3) (aB (aC 4) (aB (mC (.int 0)) aK))))))) (.nm 9))
 (bX (cN false (aB (cH (aB (mC (.str "either")) (aB (aC 9) (aB (aY (f_L_block) (aB (aC 0) (aB (aC 1) (aB (aP (dA false) (aC 2) (mC (.int 1))) (aB (aC 3) (aB (aC 4) (aB (aC 5) aK))))))) aK)))) aK)))) bK)
 (aQ (bU (mB (aP fF (aC 6) (mC (.int 9)))) (bX (cN false (aB (cH (aB (mC (.str "again")) (aB (aY (f_L_block) (aB (aC 0) (aB (aC 1) (aB (aP (dA false) (aC 2) (mC (.int 1))) (aB (aC 3) (aB (aC 4) (aB (mC (.int 0)) aK))))))) aK))) aK))) bK)
 (aQ (bU (mB (aP fF (aC 6) (mC (.int 10)))) (bX (cN false (aB (cH (aB (mC (.str "keep")) (aB (aY (f_L_block) (aB (aC 0) (aB (aC 1) (aB (aP (dA false) (aC 2) (mC (.int 1))) (aB (aC 3) (aB (aC 4) (aB (aC 5) aK))))))) aK))) aK))) bK)
 (aQ (bU (mB (aP E6 (aC 6) (mC (.int 14)))) (bX (cN false (aB (cH (aB (mC (.str "end")) (aB (aY bY (aB (aC 0) (aB (mC (.int 2)) aK))) aK))) aK))) bK)
 (aQ (kA (fun x y => x - y) (aC 4) (mC (.int 0)) (mC (.int 1)))
 (aQ (bR (aP (dA false) (aC 5) (aY bY (aB (aC 0) (aB (aP rB (aP bO (aC 4) (mC (.int 1))) (aC 5)) aK)))) (.nm 10))
 (aQ (bR (aP fF (aY bY (aB (aC 0) (aB (mC (.int 3)) aK))) (mC (.int 0))) (.nm 11))
 (aQ (bR (aY (f_L_block) (aB (aC 0) (aB (aC 1) (aB (aP (dA false) (aC 2) (mC (.int 1))) (aB (aC 3) (aB (aC 4) (aB (aC 5) aK))))))) (.nm 9))
 (bX (cN false (aB (cH (aB (mC (.str "call")) (aB (aC 10) (aB (aC 11) (aB (cN false (aB (aC 9) (aB (aY (f_L_block) (aB (aC 0) (aB (aC 1) (aB (aP (dA false) (aC 2) (mC (.int 1))) (aB (aC 3) (aB (aC 4) (aB (aC 5) aK))))))) aK))) aK))))) aK))))))))))))))))))
def AW : Nat -> FD × FD
 | 0 => (uI, uI)
 | n + 1 => let r := AW n
  (run 8 6 (wI r.2), run 12 6 (wH r.1 r.2))
def vZ (n : Nat) : FD := (AW n).1
def kS (n : Nat) : FD := (AW n).2
def tL : FS :=
 (aQ (kA (fun x y => x - y) (aC 2) (mC (.int 0)) (mC (.int 4)))
 (aQ (kA (fun x y => x - y) (aC 3) (mC (.int 0)) (mC (.int 1)))
 (aQ (bR (aY bY (aB (aC 0) (aB (aP bO (aC 3) (mC (.int 1))) aK))) (.nm 4))
 (aQ (bR (aP fF (aY bY (aB (aC 0) (aB (mC (.int 3)) aK))) (mC (.int 0))) (.nm 5))
 (aQ (bR (aY bY (aB (aC 0) (aB (mC (.int 2)) aK))) (.nm 6))
 (aQ (bR (cN false (aB (aY iW (aB (aC 0) (aB (aC 1) aK))) (aB (aY iW (aB (aC 0) (aB (aC 1) aK))) aK))) (.nm 7))
 (aQ (bU (mB (aP fF (aY bY (aB (aC 0) (aB (mC (.int 2)) aK))) (mC (.int 0)))) (bR (aY rP (aB (aC 0) (aB (aC 1) aK))) (.nm 7)) bK)
 (aQ (bR (cN false (aB (cN false aK) (aB (cN false (aB (aP bO (aC 7) (mC (.int 0))) (aB (cH (aB (mC (.str "call")) (aB (aC 4) (aB (aC 5) (aB (cN false (aB (cN false aK) (aB (cN false aK) aK))) aK))))) (aB (aP bO (aC 7) (mC (.int 1))) aK)))) aK))) (.nm 8))
 (bX (cN false (aB (cH (aB (mC (.str "either")) (aB (aP bO (aC 8) (aC 6)) (aB (aP bO (aC 8) (aP rB (mC (.int 1)) (aC 6))) aK)))) aK)))))))))))
def sW : FD := run 9 4 tL
def kG : FS :=
 (iX [7] (bU (mB (aP E6 (aP bO (aC 2) (mC (.int 0))) (mC (.int 0)))) (bR (aP (dA false) (aC 6) (aY (kS 30) (aB (aC 0) (aB (aC 1) (aB (mC (.int 0)) (aB (aC 2) (aB (aC 3) (aB (aC 4) aK)))))))) (.nm 6)) bK))
def A3 : FS :=
 (aQ (bR (aY bY (aB (aC 0) (aB (mC (.int 6)) aK))) (.nm 5))
 (aQ (bR (cN false aK) (.nm 6))
 (aQ (bU (B9 (mB (aP fF (aY bY (aB (aC 0) (aB (mC (.int 2)) aK))) (mC (.int 0)))) (B9 (mB (aP E6 (aP bO (aC 2) (mC (.int 0))) (mC (.int 3)))) (mB (aP E6 (aP bO (aC 3) (mC (.int 0))) (mC (.int 0)))))) (bR (aY sW (aB (aC 0) (aB (aC 1) (aB (aC 2) (aB (aC 3) aK))))) (.nm 6)) bK)
 (aQ (rR (iY (aP (dA false) (mC (.int 1)) (aY bY (aB (aC 0) (aB (mC (.int 4)) aK))))) (.nm 7) kG)
 (aQ (bR (cN false (aB (cN false (aB (cH (aB (mC (.str "either")) (aB (cN false (aB (cH (aB (mC (.str "end")) (aB (mC (.int 1)) aK))) aK)) (aB (cN false aK) aK)))) aK)) (aB (cN false (aB (cH (aB (mC (.str "end")) (aB (mC (.int 1)) aK))) aK)) aK))) (.nm 8))
 (aQ (bU (BS (mB (aP fF (aC 5) (mC (.int 1)))) (mB (aP fF (aC 5) (mC (.int 3))))) (bX (aP (dA false) (aC 6) (aP bO (aC 8) (aP tZ (aC 5) (mC (.int 2)))))) bK)
 (aQ (bU (mB (aP fF (aC 5) (mC (.int 2)))) (bX (aP (dA false) (aP bO (aC 8) (mC (.int 0))) (aC 6))) bK)
 (bX (aC 6)))))))))
def vB : FD := run 9 5 A3
def mN : FS :=
 (iX [8, 9, 10] (aQ (bR (cN true (aB (aP rB (aP rB (aC 2) (mC (.int 2))) (m1 pX (aP E6 (aC 5) (mC (.int 2))))) aK)) (.nm 9))
 (aQ (bR (aP (dA false) (aC 8) (mC (.int 1))) (.nm 10))
 (aQ (bU (gQ (aC 4)) (bR (mC (.int 0)) (.nm 10)) bK)
 (dQ (kI (aC 7) (aY vB (aB (aC 0) (aB (aC 3) (aB (aC 9) (aB (aC 6) (aB (aC 10) aK))))))))))))
def A2 : FS :=
 (aQ (bR (aY bY (aB (aC 0) (aB (mC (.int 6)) aK))) (.nm 3))
 (aQ (bR (aP fF (aY bY (aB (aC 0) (aB (mC (.int 8)) aK))) (mC (.int 0))) (.nm 4))
 (aQ (bR (aP (dA false) (mC (.int 1)) (aY bY (aB (aC 0) (aB (aC 1) aK)))) (.nm 5))
 (aQ (bR (cN true (aB (mC (.int 4)) (aB (aC 5) aK))) (.nm 6))
 (aQ (bR (cN true aK) (.nm 7))
 (aQ (rR (iY (aC 5)) (.nm 8) mN)
 (bX (yW (aC 7)))))))))
def yU : FD := Ct 11 3 A2
def jE : FS :=
 (iX [4, 5] (aQ (bU (BS (oK (gQ (aY eY (aB (aC 5) aK)))) (oK (mB (rA Lh Gw (mC (.int 0)) (aC 5) (m1 eT (aC 3)))))) (bX (mC .non)) bK)
 (bU (mB (aP fF (aP wO (aC 4) (mC (.int 2))) (mC (.int 0)))) (aQ (bR (aP bO (aC 3) (aC 5)) (.nm 2))
 (bR (aY kQ (aB (aC 2) aK)) (.nm 3))) (bR (aP bO (aC 3) (aC 5)) (.nm 3)))))
def kE : FS :=
 (bX (pH (aY eY (aB (aC 1) aK)) (rA Lh Gw (mC (.int 0)) (aC 1) (m1 (E5 "Book" pF) (aC 0)))))
def kD : FD := run 2 2 kE
theorem BE {x0 x1 : Vl} {S : aO} : kD [x0, x1] S = cE (kE [some x0, some x1] S) := (rfl)
def zV : FS :=
 (bX (pH (m1 (fIsi "tuple") (aC 0)) (pH (aP fF (m1 eT (aC 0)) (mC (.int 6))) (m1 Gy (AB false (jQ (aC 0)) (.nm 1) fX (aY eY (aB (aC 1) aK)) [1])))))
def rO : FD := run 2 1 zV
def kY : FS :=
 (iX [9] (mPar 4 5 (m1 xI (aC 5)) (aC 4)))
def tH : FS :=
 (aQ (bR (aC 0) (.tp [2, 3, 4, 5, 6, 7]))
 (aQ (bR (aP bO (aC 1) (mC (.int 0))) (.nm 8))
 (aQ (bU (mB (aP fF (aC 8) (mC (.str "go")))) (bX (cH (aB (aP (dA false) (aC 2) (aP rW (aP bO (aC 1) (mC (.int 1))) (aC 4))) (aB (aP (dA false) (aC 3) (aP rW (aP bO (aC 1) (mC (.int 1))) (aC 5))) (aB (aC 4) (aB (aC 5) (aB (aC 6) (aB (aC 7) aK)))))))) bK)
 (aQ (bU (mB (aP fF (aC 8) (mC (.str "turn")))) (aQ (rR (iY (aP bO (aC 1) (mC (.int 1)))) (.nm 9) kY)
 (bX (cH (aB (aC 2) (aB (aC 3) (aB (aC 4) (aB (aC 5) (aB (aC 6) (aB (aC 7) aK))))))))) bK)
 (aQ (bU (mB (aP fF (aC 8) (mC (.str "mirror")))) (bX (cH (aB (aC 2) (aB (aC 3) (aB (aC 4) (aB (m1 xI (aC 5)) (aB (aC 6) (aB (aC 7) aK)))))))) bK)
 (aQ (bU (mB (aP fF (aC 8) (mC (.str "scale")))) (bX (cH (aB (aC 2) (aB (aC 3) (aB (aP rW (aP bO (aC 1) (mC (.int 1))) (aC 4)) (aB (aP rW (aP bO (aC 1) (mC (.int 1))) (aC 5)) (aB (aC 6) (aB (aC 7) aK)))))))) bK)
 (aQ (bU (mB (aP fF (aC 8) (mC (.str "aim")))) (bX (cH (aB (aC 2) (aB (aC 3) (aB (aP bO (aC 1) (mC (.int 1))) (aB (aP bO (aC 1) (mC (.int 2))) (aB (aC 6) (aB (aC 7) aK)))))))) bK)
 (aQ (bU (mB (aP fF (aC 8) (mC (.str "place")))) (bX (cH (aB (aP bO (aC 1) (mC (.int 1))) (aB (aP bO (aC 1) (mC (.int 2))) (aB (aC 4) (aB (aC 5) (aB (aC 6) (aB (aC 7) aK)))))))) bK)
 (aQ (bU (mB (aP fF (aC 8) (mC (.str "mark")))) (bX (cH (aB (aC 2) (aB (aC 3) (aB (aC 4) (aB (aC 5) (aB (aC 2) (aB (aC 3) aK)))))))) bK)
 (aQ (bU (mB (aP fF (aC 8) (mC (.str "return")))) (bX (cH (aB (aC 6) (aB (aC 7) (aB (aC 4) (aB (aC 5) (aB (aC 6) (aB (aC 7) aK)))))))) bK)
 (bX (cH (aB (aC 6) (aB (aC 7) (aB (aC 4) (aB (aC 5) (aB (aC 2) (aB (aC 3) aK))))))))))))))))))
def kH : FD := run 10 2 tH
def zL : FE :=
 (m1 pX (aP fF (aP wO (aC 0) (mC (.int 8))) (mC (.int 0))))
def xP : FS :=
 (bX (AB false (iY (mC (.int 49))) (.nm 0) fX zL [0]))
def sS : FD := run 1 0 xP
def rD : FE :=
 (aP rB (aP bO (aC 5) (aC 6)) (aP bO (aC 1) (aC 6)))
def mU : FS :=
 (iX [3, 4, 5] (aQ (bR (m1 fTuple (AB false (iY (mC (.int 6))) (.nm 6) fX (m1 pX (aP fF (aC 6) (aC 3))) [6])) (.nm 4))
 (aQ (bR (aY kH (aB (aC 4) (aB (aC 0) aK))) (.nm 5))
 (dQ (kI (aC 2) (aP (dA false) (cN false (aB (mC (.int 0)) aK)) (AB false (iY (mC (.int 6))) (.nm 6) fX rD [6])))))))
def vS : FS :=
 (aQ (bU (oK (gQ (aY eZ (aB (aC 0) aK)))) (vD "NoCommand") bK)
 (aQ (bR (aY kH (aB (cH (aB (mC (.int 0)) (aB (mC (.int 0)) (aB (mC (.int 0)) (aB (mC (.int 0)) (aB (mC (.int 0)) (aB (mC (.int 0)) aK))))))) (aB (aC 0) aK))) (.nm 1))
 (aQ (bR (cN true (aB (cN false (aB (mC (.int 1)) (Rg (aC 1) aK))) aK)) (.nm 2))
 (aQ (rR (iY (mC (.int 6))) (.nm 3) mU)
 (bX (Ss false (iY (mC (.int 7))) (.nm 7) fX (iY (mC (.int 7))) (.nm 8) fX (aP bO (aP bO (aC 2) (aC 8)) (aC 7)) [7, 8] [8]))))))
def qC : FD := Ct 9 1 vS
def kZ : FS :=
 (iX [5, 6] (aQ (bR (aP bO (aC 1) (aP (dA false) (aP rW (mC (.int 7)) (aC 3)) (aC 5))) (.nm 6))
 (bU (mB (aP FN (aC 6) (mC (.int 0)))) (bR (AB false (Pr (aC 4) (B7 false (aC 0) (gG (aP rW (mC (.int 7)) (aC 5))) (gG (aP (dA false) (aP rW (mC (.int 7)) (aC 5)) (mC (.int 7)))))) (.tp [7, 8]) fX (aP (dA false) (aC 7) (aP rW (aC 6) (aC 8))) [7, 8]) (.nm 4)) bK)))
def oF : FS :=
 (iX [3, 4, 5, 6] (aQ (bR (cN false (aB (mC (.int 0)) (aB (mC (.int 0)) (aB (mC (.int 0)) (aB (mC (.int 0)) (aB (mC (.int 0)) (aB (mC (.int 0)) (aB (mC (.int 0)) aK)))))))) (.nm 4))
 (aQ (rR (iY (mC (.int 7))) (.nm 5) kZ)
 (bR (aP (dA false) (aC 2) (aC 4)) (.nm 2)))))
def xQ : FS :=
 (aQ (bR (cN false aK) (.nm 2))
 (aQ (rR (iY (mC (.int 7))) (.nm 3) oF)
 (bX (aC 2))))
def sU : FD := run 9 2 xQ
def rG : FS :=
 (aQ (bR (aP bO (aC 0) (mC (.int 0))) (.nm 1))
 (aQ (bR (AB false (jQ (B7 false (aY sS aK) (gG (mC (.int 7))) (gG (mC (.int 35))))) (.nm 3) fX (aP rW (aC 1) (aC 3)) [3]) (.nm 2))
 (bX (aP (dA false) (aP (dA false) (B7 false (aC 0) pV (gG (mC (.int 7)))) (aC 2)) (B7 false (aC 0) (gG (mC (.int 35))) pV)))))
def qZ : FD := run 4 1 rG
def jO : FS :=
 (aQ (vC "Execution" "own" (aC 0) (aC 1))
 (aQ (vC "Execution" "bits" (aC 0) (aC 2))
 (aQ (vC "Execution" "taken" (aC 0) (mC (.int 0)))
 (aQ (vC "Execution" "deeds" (aC 0) (cN true aK))
 (aQ (vC "Execution" "stack" (aC 0) (cN true aK))
 (aQ (vC "Execution" "active" (aC 0) (Pt (jQ (aC 1)) (.nm 3) [3]))
 (vC "Execution" "ended" (aC 0) (mC (.int 0)))))))))
def gP : FD := run 4 3 jO
def gU : FS :=
 (aQ (bU (mB (aP fF (fY "Execution" "taken" (aC 0)) (m1 eT (fY "Execution" "bits" (aC 0))))) (lG "NoRun" ["index"] (aB (fY "Execution" "taken" (aC 0)) aK)) bK)
 (aQ (Df (fun x y => x + y) "Execution" "taken" (aC 0) (mC (.int 1)))
 (bX (aP bO (fY "Execution" "bits" (aC 0)) (aP rB (fY "Execution" "taken" (aC 0)) (mC (.int 1)))))))
def dP : FD := run 1 1 gU
def gD : FS :=
 (aQ (bR (aP bO (fY "Execution" "active" (aC 0)) (aC 1)) (.nm 3))
 (aQ (bU (B9 (mB (aP E6 (m1 eT (aC 3)) (mC (.int 0)))) (mB (aP fF (aP bO (aC 3) (m1 xI (mC (.int 1)))) (fY "Execution" "taken" (aC 0))))) (lG "NoRun" ["index"] (aB (m1 xI (mC (.int 2))) aK)) bK)
 (aQ (dQ (kI (aP bO (fY "Execution" "active" (aC 0)) (aC 1)) (fY "Execution" "taken" (aC 0))))
 (aQ (dQ (kI (fY "Execution" "stack" (aC 0)) (cH (aB (mC (.str "call")) (aB (aC 1) (aB (aC 2) aK))))))
 (dQ (kI (fY "Execution" "stack" (aC 0)) (cH (aB (mC (.str "list")) (aB (aP bO (fY "Execution" "own" (aC 0)) (aC 1)) (aB (mC (.int 0)) aK))))))))))
def dZ : FD := run 4 3 gD
def iR : FS :=
 (aQ (dQ (m1 rV (aP bO (fY "Execution" "active" (aC 0)) (aC 1))))
 (aQ (bU (mB (aP (Cw false) (aC 2) (mC .non))) (aQ (vC "Execution" "ended" (aC 0) (aC 3))
 (bX (mC .non))) bK)
 (aQ (bU (gQ (aP bO (aC 2) (mC (.int 2)))) (dQ (kI (fY "Execution" "deeds" (aC 0)) (cH (aB (mC (.str "close")) aK)))) bK)
 (dQ (kI (fY "Execution" "stack" (aC 0)) (cH (aB (mC (.str "list")) (aB (aP bO (aP bO (aC 2) (mC (.int 3))) (aC 3)) (aB (mC (.int 0)) aK)))))))))
def fW : FD := run 4 4 iR
def dO : FS :=
 (aQ (bU (mB (aP fF (aP bO (aC 2) (mC (.int 0))) (mC (.str "close")))) (dQ (kI (fY "Execution" "deeds" (aC 0)) (aC 2))) bK)
 (bR (m1 rV (fY "Execution" "stack" (aC 0))) (.nm 2)))
def iB : FS :=
 (aQ (bR (m1 rV (fY "Execution" "stack" (aC 0))) (.nm 2))
 (aQ (AO 1000000 (mB (aP FN (aP bO (aC 2) (mC (.int 0))) (mC (.str "call")))) dO)
 (dQ (pG "Execution" "leave" fW (aC 0) (aB (aP bO (aC 2) (mC (.int 1))) (aB (aP bO (aC 2) (mC (.int 2))) (aB (aC 1) aK)))))))
def hC : FD := run 3 2 iB
def iS : FS :=
 (aQ (bR (aP bO (aC 1) (mC (.int 0))) (.nm 2))
 (bU (gQ (aY eZ (aB (aC 1) aK))) (dQ (kI (fY "Execution" "deeds" (aC 0)) (aC 1))) (bU (mB (aP fF (aC 2) (mC (.str "keep")))) (aQ (dQ (kI (fY "Execution" "deeds" (aC 0)) (cH (aB (mC (.str "open")) aK))))
 (aQ (dQ (kI (fY "Execution" "stack" (aC 0)) (cH (aB (mC (.str "close")) aK))))
 (dQ (kI (fY "Execution" "stack" (aC 0)) (cH (aB (mC (.str "list")) (aB (aP bO (aC 1) (mC (.int 1))) (aB (mC (.int 0)) aK)))))))) (bU (mB (aP fF (aC 2) (mC (.str "either")))) (dQ (kI (fY "Execution" "stack" (aC 0)) (cH (aB (mC (.str "list")) (aB (aP bO (aC 1) (aP (dA false) (mC (.int 1)) (pG "Execution" "take" dP (aC 0) aK))) (aB (mC (.int 0)) aK)))))) (bU (mB (aP fF (aC 2) (mC (.str "again")))) (dQ (kI (fY "Execution" "stack" (aC 0)) (cH (aB (mC (.str "again")) (aB (aP bO (aC 1) (mC (.int 1))) aK))))) (bU (mB (aP fF (aC 2) (mC (.str "call")))) (aQ (bU (gQ (aP bO (aC 1) (mC (.int 2)))) (dQ (kI (fY "Execution" "deeds" (aC 0)) (cH (aB (mC (.str "open")) aK)))) bK)
 (dQ (pG "Execution" "enter" dZ (aC 0) (aB (aP bO (aC 1) (mC (.int 1))) (aB (aC 1) aK))))) (dQ (pG "Execution" "unwind" hC (aC 0) (aB (aP bO (aC 1) (mC (.int 1))) aK)))))))))
def iN : FD := run 3 2 iS
def jN : FS :=
 (aQ (bR (m1 rV (fY "Execution" "stack" (aC 0))) (.nm 1))
 (bU (mB (aP fF (aP bO (aC 1) (mC (.int 0))) (mC (.str "list")))) (bU (mB (aP Gw (aP bO (aC 1) (mC (.int 2))) (m1 eT (aP bO (aC 1) (mC (.int 1)))))) (aQ (dQ (kI (fY "Execution" "stack" (aC 0)) (cH (aB (mC (.str "list")) (aB (aP bO (aC 1) (mC (.int 1))) (aB (aP (dA false) (aP bO (aC 1) (mC (.int 2))) (mC (.int 1))) aK))))))
 (dQ (pG "Execution" "begin" iN (aC 0) (aB (aP bO (aP bO (aC 1) (mC (.int 1))) (aP bO (aC 1) (mC (.int 2)))) aK)))) bK) (bU (mB (aP fF (aP bO (aC 1) (mC (.int 0))) (mC (.str "close")))) (dQ (kI (fY "Execution" "deeds" (aC 0)) (aC 1))) (bU (mB (aP fF (aP bO (aC 1) (mC (.int 0))) (mC (.str "again")))) (bU (mB (aP fF (pG "Execution" "take" dP (aC 0) aK) (mC (.int 1)))) (aQ (dQ (kI (fY "Execution" "stack" (aC 0)) (aC 1)))
 (dQ (kI (fY "Execution" "stack" (aC 0)) (cH (aB (mC (.str "list")) (aB (aP bO (aC 1) (mC (.int 1))) (aB (mC (.int 0)) aK))))))) bK) (dQ (pG "Execution" "leave" fW (aC 0) (aB (aP bO (aC 1) (mC (.int 1))) (aB (aP bO (aC 1) (mC (.int 2))) (aB (mC (.int 0)) aK)))))))))
def jF : FD := run 2 1 jN
def gL : FS :=
 (iX [3, 4] (bU (oK (gQ (aY vA (aB (aC 4) aK)))) (lG "NoRun" ["index"] (aB (aC 3) aK)) bK))
def eL : FS :=
 (dQ (pG "Execution" "step" jF (aC 5) aK))
def lX : FS :=
 (aQ (bU (oK (gQ (aY kD (aB (aC 0) (aB (aC 1) aK))))) (vD "NoProcedure") bK)
 (aQ (bU (oK (gQ (m1 (fIsi "list") (aC 2)))) (lG "NoRun" ["index"] (aB (m1 xI (mC (.int 1))) aK)) bK)
 (aQ (rR (De (aC 2)) (.tp [3, 4]) gL)
 (aQ (bR (JK true "Execution" gP (aB (pG "Book" "bodies" mX (aC 0) aK) (aB (aC 2) aK))) (.nm 5))
 (aQ (dQ (pG "Execution" "enter" dZ (aC 5) (aB (aC 1) (aB (mC .non) aK))))
 (aQ (AO 1000000 (mB (aP E6 (m1 eT (fY "Execution" "stack" (aC 5))) (mC (.int 0)))) eL)
 (aQ (bU (mB (aP Gw (fY "Execution" "taken" (aC 5)) (m1 eT (aC 2)))) (lG "NoRun" ["index"] (aB (fY "Execution" "taken" (aC 5)) aK)) bK)
 (bX (cH (aB (fY "Execution" "ended" (aC 5)) (aB (yW (fY "Execution" "deeds" (aC 5))) aK)))))))))))
def dB : FD := Ct 6 3 lX
def eR : FS :=
 (iX [4] (bU (mB (aP fF (aP bO (aC 4) (mC (.int 0))) (mC (.str "open")))) (dQ (kI (aC 3) (B7 false (aC 1) pV (gG (mC (.int 4)))))) (bU (mB (aP fF (aP bO (aC 4) (mC (.int 0))) (mC (.str "close")))) (bR (aP (dA false) (m1 rV (aC 3)) (B7 false (aC 1) (gG (mC (.int 4))) pV)) (.nm 1)) (aQ (bR (aY kH (aB (aC 1) (aB (aC 4) aK))) (.nm 1))
 (dQ (kI (aC 2) (aC 1)))))))
def nD : FS :=
 (aQ (bR (cN true aK) (.nm 2))
 (aQ (bR (cN true aK) (.nm 3))
 (aQ (rR (jQ (aC 0)) (.nm 4) eR)
 (bX (cH (aB (yW (aC 2)) (aB (aC 1) aK)))))))
def jZ : FD := Ct 5 2 nD
def Jt : FS :=
 (aQ (bR (aY dB (aB (aC 0) (aB (aC 1) (aB (aC 2) aK)))) (.tp [4, 5]))
 (aQ (bU (oK (gQ (aY rO (aB (aC 3) aK)))) (vD "NoPen") bK)
 (aQ (bR (aY jZ (aB (aC 5) (aB (aC 3) aK))) (.tp [6, 7]))
 (bX (cH (aB (aC 4) (aB (aC 7) (aB (m1 eT (aC 6)) aK))))))))
def GB : FD := run 8 4 Jt
def iT : FS :=
 (iX [8] (bU (mB (aP fF (aP bO (aC 8) (mC (.int 0))) (mC (.str "open")))) (aQ (dQ (kI (aC 6) (aC 5)))
 (bR (aY sS aK) (.nm 5))) (bU (mB (aP fF (aP bO (aC 8) (mC (.int 0))) (mC (.str "close")))) (bR (aY sU (aB (m1 rV (aC 6)) (aB (aY qZ (aB (aC 5) aK)) aK))) (.nm 5)) (aQ (bR (aY sU (aB (aC 5) (aB (aY qC (aB (aC 8) aK)) aK))) (.nm 5))
 (Km (fun x y => x + y) 7 (mC (.int 1)))))))
def tI : FS :=
 (aQ (bR (aY bY (aB (aC 0) (aB (mC (.int 3)) aK))) (.nm 1))
 (aQ (bU (mB (aP fF (aC 1) (mC (.int 0)))) (bX (aP rB (aY bY (aB (aC 0) (aB (mC (.int 9)) aK))) (mC (.int 4)))) bK)
 (aQ (kA (fun x y => x + y) (aC 0) (mC (.int 0)) (mC (.int 1)))
 (aQ (bR (aP (dA false) (mC (.int 1)) (aP wO (m1 pX (aP bO (aC 0) (mC (.int 0)))) (aP rB (m1 eT (aC 0)) (mC (.int 1))))) (.nm 2))
 (aQ (bR (aP wO (m1 pX (aP (dA false) (aP rW (aP bO (aC 0) (aC 2)) (mC (.int 48271))) (aP rW (aP bO (aC 0) (mC (.int 0))) (mC (.int 69621))))) (aP LD (mC (.int 10)) (mC (.int 40)))) (.nm 3))
 (aQ (bU (mB (aP fF (aY bY (aB (aC 0) (aB (mC (.int 2)) aK))) (mC (.int 0)))) (bX (aC 3)) bK)
 (bX (aP rB (mC (.int 5)) (aC 3)))))))))
def mQ : FD := run 4 1 tI
def Bb : FS :=
 (aQ (bR (AB false (iY (mC (.int 6))) (.nm 2) fX (aY mQ (aB (aC 0) aK)) [2]) (.nm 1))
 (bX (cH (aB (aP bO (aC 1) (mC (.int 0))) (aB (aP bO (aC 1) (mC (.int 1))) (aB (aP bO (aC 1) (mC (.int 2))) (aB (aP bO (aC 1) (mC (.int 3))) (aB (aP bO (aC 1) (mC (.int 4))) (aB (aP bO (aC 1) (mC (.int 5))) aK)))))))))
def BQ : FD := run 3 1 Bb
theorem Oe {x0 : Vl} {S : aO} : rO [x0] S = cE (zV [some x0, none] S) := (rfl)
theorem Ig {x0 x1 : Vl} {S : aO} : kH [x0, x1] S = cE (tH [some x0, some x1, none, none, none, none, none, none, none, none] S) := (rfl)
theorem Ie {S : aO} : sS [] S = cE (xP [none] S) := (rfl)
theorem HV {x0 : Vl} {S : aO} : qC [x0] S = trunc S.length (cE (vS [some x0, none, none, none, none, none, none, none, none] S)) := (rfl)
theorem Ih {x0 x1 : Vl} {S : aO} : sU [x0, x1] S = cE (xQ [some x0, some x1, none, none, none, none, none, none, none] S) := (rfl)
theorem Cz {x0 : Vl} {S : aO} : qZ [x0] S = cE (rG [some x0, none, none, none] S) := (rfl)
theorem Ah {x0 x1 x2 : Vl} {S : aO} : gP [x0, x1, x2] S = cE (jO [some x0, some x1, some x2, none] S) := (rfl)
theorem sD {x0 : Vl} {S : aO} : dP [x0] S = cE (gU [some x0] S) := (rfl)
theorem qR {x0 x1 x2 : Vl} {S : aO} : dZ [x0, x1, x2] S = cE (gD [some x0, some x1, some x2, none] S) := (rfl)
theorem A8 {x0 x1 x2 x3 : Vl} {S : aO} : fW [x0, x1, x2, x3] S = cE (iR [some x0, some x1, some x2, some x3] S) := (rfl)
theorem xS {x0 x1 : Vl} {S : aO} : hC [x0, x1] S = cE (iB [some x0, some x1, none] S) := (rfl)
theorem A9 {x0 x1 : Vl} {S : aO} : iN [x0, x1] S = cE (iS [some x0, some x1, none] S) := (rfl)
theorem Ag {x0 : Vl} {S : aO} : jF [x0] S = cE (jN [some x0, none] S) := (rfl)
theorem Cm {x0 x1 x2 : Vl} {S : aO} : dB [x0, x1, x2] S = trunc S.length (cE (lX [some x0, some x1, some x2, none, none, none] S)) := (rfl)
theorem Cy {x0 x1 : Vl} {S : aO} : jZ [x0, x1] S = trunc S.length (cE (nD [some x0, some x1, none, none, none] S)) := (rfl)
theorem E_ran {x0 x1 x2 x3 : Vl} {S : aO} : GB [x0, x1, x2, x3] S = cE (Jt [some x0, some x1, some x2, some x3, none, none, none, none] S) := (rfl)
theorem Ii {x0 : Vl} {S : aO} : mQ [x0] S = cE (tI [some x0, none, none, none] S) := (rfl)
theorem RN {x0 : Vl} {S : aO} : BQ [x0] S = cE (Bb [some x0, none, none] S) := (rfl)
def Bc : FS :=
 (aQ (bR (aP dC (aC 0) (mC (.str "bits"))) (.nm 2))
 (aQ (bU (mB (aP fF (aP dC (aC 0) (mC (.str "taken"))) (m1 eT (aC 2)))) (aQ (bU (mB (aP fF (aP dC (aC 0) (mC (.str "extra"))) (mC (.int 0)))) (bX (mC (.int 2))) bK)
 (aQ (Ap Gv (aC 0) (mC (.str "extra")) (mC (.int 1)))
 (dQ (kI (aC 2) (m1 pX (pH (aP fF (aP bO (aC 1) (mC (.int 0))) (mC (.str "either"))) (aP OA (mC (.str "call")) (m1 Cv (aP bO (aC 1) (mC (.int 1))))))))))) bK)
 (aQ (Ap Gz (aC 0) (mC (.str "taken")) (mC (.int 1)))
 (bX (aP bO (aC 2) (aP rB (aP dC (aC 0) (mC (.str "taken"))) (mC (.int 1))))))))
def BR : FD := run 3 2 Bc
def gC : FS :=
 (aQ (bR (aP bO (aC 1) (mC (.int 0))) (.nm 2))
 (aQ (bU (BS (mB (aP fF (aC 2) (mC (.str "either")))) (mB (aP fF (aC 2) (mC (.str "again"))))) (aQ (bR (aY BR (aB (aC 0) (aB (aC 1) aK))) (.nm 3))
 (aQ (bU (mB (aP fF (aC 3) (mC (.int 2)))) (bX (mC .non)) bK)
 (aQ (bU (mB (aP fF (aC 2) (mC (.str "either")))) (bX (aP bO (aC 1) (aP (dA false) (mC (.int 1)) (aC 3)))) bK)
 (bX (aP bO (cN false (aB (cN false aK) (aB (aP (dA false) (aP bO (aC 1) (mC (.int 1))) (cN false (aB (aC 1) aK))) aK))) (aC 3)))))) bK)
 (aQ (bU (mB (aP fF (aC 2) (mC (.str "keep")))) (aQ (dQ (kI (aP dC (aC 0) (mC (.str "deeds"))) (cH (aB (mC (.str "hold")) aK))))
 (bX (aP (dA false) (aP bO (aC 1) (mC (.int 1))) (cN false (aB (cH (aB (mC (.str "shut")) aK)) aK))))) bK)
 (aQ (bU (mB (aP fF (aC 2) (mC (.str "call")))) (aQ (bU (mB (aP (fIn false) (cH (aB (aP bO (aC 1) (mC (.int 1))) (aB (aP dC (aC 0) (mC (.str "taken"))) aK))) (aP dC (aC 0) (mC (.str "opens"))))) (bX (mC .non)) bK)
 (aQ (dQ (kI (aP dC (aC 0) (mC (.str "opens"))) (cH (aB (aP bO (aC 1) (mC (.int 1))) (aB (aP dC (aC 0) (mC (.str "taken"))) aK)))))
 (aQ (Ap IU (aC 0) (mC (.str "deeds")) (B7 false (cN false (aB (cH (aB (mC (.str "hold")) aK)) aK)) pV (gG (m1 pX (aP bO (aC 1) (mC (.int 2)))))))
 (bX (aP (dA false) (aP bO (aP dC (aC 0) (mC (.str "bodies"))) (aP bO (aC 1) (mC (.int 1)))) (cN false (aB (cH (aB (mC (.str "out")) (aB (aC 1) (aB (mC (.int 0)) aK)))) aK))))))) bK)
 (aQ (bU (mB (aP fF (aC 2) (mC (.str "end")))) (aQ (bR (aP dC (aC 0) (mC (.str "todo"))) (.nm 4))
 (aQ (bR (Su (AB false (jQ (aC 4)) (.nm 6) fX (aP bO (aC 6) (mC (.int 0))) [6]) (mC (.str "out"))) (.nm 5))
 (aQ (Ap IU (aC 0) (mC (.str "deeds")) (AB false (jQ (B7 false (aC 4) pV (gG (aC 5)))) (.nm 6) (mB (aP fF (aP bO (aC 6) (mC (.int 0))) (mC (.str "shut")))) (aC 6) [6]))
 (aQ (CD (aC 0) (mC (.str "todo")) (B7 false (aC 4) (gG (aP (dA false) (aC 5) (mC (.int 1)))) pV))
 (bX (cN false (aB (cH (aB (mC (.str "out")) (aB (aP bO (aP bO (aC 4) (aC 5)) (mC (.int 1))) (aB (aP bO (aC 1) (mC (.int 1))) aK)))) aK))))))) bK)
 (aQ (bU (mB (aP fF (aC 2) (mC (.str "out")))) (aQ (dQ (m1 rV (aP dC (aC 0) (mC (.str "opens")))))
 (aQ (CD (aC 0) (mC (.str "way")) (aP bO (aC 1) (mC (.int 2))))
 (aQ (Ap IU (aC 0) (mC (.str "deeds")) (B7 false (cN false (aB (cH (aB (mC (.str "shut")) aK)) aK)) pV (gG (m1 pX (aP bO (aP bO (aC 1) (mC (.int 1))) (mC (.int 2)))))))
 (bX (aP bO (aP bO (aP bO (aC 1) (mC (.int 1))) (mC (.int 3))) (aP bO (aC 1) (mC (.int 2)))))))) bK)
 (aQ (dQ (kI (aP dC (aC 0) (mC (.str "deeds"))) (aC 1)))
 (bX (cN false aK)))))))))
def iV : FD := run 7 2 gC
def eM : FS :=
 (iX [5, 6, 7] (bU (mB (aP E6 (m1 eT (aP dC (aC 4) (mC (.str "todo")))) (mC (.int 0)))) (aQ (bR (aP bO (aP dC (aC 4) (mC (.str "todo"))) (mC (.int 0))) (.nm 6))
 (aQ (CD (aC 4) (mC (.str "todo")) (B7 false (aP dC (aC 4) (mC (.str "todo"))) (gG (mC (.int 1))) pV))
 (aQ (bR (aY iV (aB (aC 4) (aB (aC 6) aK))) (.nm 7))
 (aQ (bU (B9 (mB (aP (Cw false) (aC 7) (mC .non))) (mB (aP fF (aP bO (aC 6) (mC (.int 0))) (mC (.str "call"))))) (bX (cH (aB (mC (.str "never")) (aB (m1 xI (mC (.int 2))) (aB (yW (aP dC (aC 4) (mC (.str "deeds")))) (aB (yW (aP dC (aC 4) (mC (.str "bits")))) aK)))))) bK)
 (aQ (bU (mB (aP (Cw false) (aC 7) (mC .non))) (bX (cH (aB (mC (.str "short")) (aB (m1 eT (aP dC (aC 4) (mC (.str "bits")))) (aB (yW (aP dC (aC 4) (mC (.str "deeds")))) (aB (yW (aP dC (aC 4) (mC (.str "bits")))) aK)))))) bK)
 (CD (aC 4) (mC (.str "todo")) (aP (dA false) (aC 7) (aP dC (aC 4) (mC (.str "todo")))))))))) bK))
def Ba : FS :=
 (aQ (bR (Kl [("bodies", (aC 0)), ("bits", (m1 (tY true) (aC 2))), ("extra", (aC 3)), ("taken", (mC (.int 0))), ("way", (mC (.int 0))), ("deeds", (cN true aK)), ("opens", (cN true aK))]) (.nm 4))
 (aQ (CD (aC 4) (mC (.str "todo")) (cN false (aB (cH (aB (mC (.str "call")) (aB (aC 1) (aB (mC (.bl false)) (aB (cN false (aB (cN false aK) (aB (cN false aK) aK))) aK))))) aK)))
 (aQ (rR (iY (mC (.int 3000))) (.nm 5) eM)
 (aQ (bU (mB (aP E6 (m1 eT (aP dC (aC 4) (mC (.str "todo")))) (mC (.int 0)))) (bX (cH (aB (mC (.str "long")) (aB (mC (.int 0)) (aB (cN false aK) (aB (cN false aK) aK)))))) bK)
 (aQ (bU (mB (aP Gw (aP dC (aC 4) (mC (.str "taken"))) (m1 eT (aP dC (aC 4) (mC (.str "bits")))))) (bX (cH (aB (mC (.str "rest")) (aB (aP dC (aC 4) (mC (.str "taken"))) (aB (yW (aP dC (aC 4) (mC (.str "deeds")))) (aB (yW (aP dC (aC 4) (mC (.str "bits")))) aK)))))) bK)
 (bX (cH (aB (mC (.str "run")) (aB (aP dC (aC 4) (mC (.str "way"))) (aB (yW (aP dC (aC 4) (mC (.str "deeds")))) (aB (yW (aP dC (aC 4) (mC (.str "bits")))) aK)))))))))))
def vY : FD := Ct 8 4 Ba
def A4 : FS :=
 (bX (AB false (iY (aY bY (aB (aC 0) (aB (aP (dA false) (aC 1) (mC (.int 1))) aK)))) (.nm 2) fX (aY bY (aB (aC 0) (aB (mC (.int 2)) aK))) [2]))
def yV : FD := run 3 2 A4
def qN : FS :=
 (aQ (bR (aY yV (aB (aC 0) (aB (aC 3) aK))) (.nm 5))
 (aQ (bR (aY vY (aB (aC 1) (aB (aC 2) (aB (aC 5) (aB (aC 4) aK))))) (.nm 6))
 (aQ (bU (mB (aP fF (aP bO (aC 6) (mC (.int 0))) (mC (.str "rest")))) (aQ (bR (B7 false (aC 5) pV (gG (aP bO (aC 6) (mC (.int 1))))) (.nm 5))
 (bR (aY vY (aB (aC 1) (aB (aC 2) (aB (aC 5) (aB (aC 4) aK))))) (.nm 6))) bK)
 (bX (aC 6)))))
def kR : FD := run 7 5 qN
theorem RP {x0 x1 : Vl} {S : aO} : BR [x0, x1] S = cE (Bc [some x0, some x1, none] S) := (rfl)
theorem jD {x0 x1 : Vl} {S : aO} : iV [x0, x1] S = cE (gC [some x0, some x1, none, none, none, none, none] S) := (rfl)
theorem RM {x0 x1 x2 x3 : Vl} {S : aO} : vY [x0, x1, x2, x3] S = trunc S.length (cE (Ba [some x0, some x1, some x2, some x3, none, none, none, none] S)) := (rfl)
theorem Og {x0 x1 : Vl} {S : aO} : yV [x0, x1] S = cE (A4 [some x0, some x1, none] S) := (rfl)
theorem HX {x0 x1 x2 x3 x4 : Vl} {S : aO} : kR [x0, x1, x2, x3, x4] S = cE (qN [some x0, some x1, some x2, some x3, some x4, none, none] S) := (rfl)
def qL : FS :=
 (bU (oK (gQ (aY rO (aB (aC 0) aK)))) (vD "NoPen") bK)
def qD : FD := run 1 1 qL
def BZ : FS :=
 (aQ (dQ (aY qD (aB (aC 0) aK)))
 (aQ (bU (oK (gQ (aY eZ (aB (aC 1) aK)))) (vD "NoCommand") bK)
 (bX (aY kH (aB (aC 0) (aB (aC 1) aK))))))
def BP : FD := run 2 2 BZ
def sJ (f_L_open : FD) : FS :=
 (iX [2, 3] (aQ (bR (AB false (jQ (aY pE (aB (aC 2) aK))) (.nm 4) fX (aY (f_L_open) (aB (aC 4) aK)) [4]) (.nm 3))
 (bU (mB (aP fF (aP bO (aC 2) (mC (.int 0))) (mC (.str "keep")))) (dQ (kI (aC 1) (cH (aB (mC (.str "either")) (aB (aP bO (aC 3) (mC (.int 0))) (aB (cN false aK) aK)))))) (bU (mB (aP fF (aP bO (aC 2) (mC (.int 0))) (mC (.str "call")))) (dQ (kI (aC 1) (cH (aB (mC (.str "call")) (aB (aP bO (aC 2) (mC (.int 1))) (aB (mC (.bl false)) (aB (aC 3) aK))))))) (dQ (kI (aC 1) (aY iG (aB (aC 2) (aB (aC 3) aK)))))))))
def zZ (f_L_open : FD) : FS :=
 (aQ (bR (cN true aK) (.nm 1))
 (aQ (rR (jQ (aC 0)) (.nm 2) (sJ (f_L_open)))
 (bX (yW (aC 1)))))
def nN : Nat -> FD
 | 0 => uI
 | n + 1 => Ct 5 1 (zZ (nN n))
def wG : Jx :=
 (Dd (bR (aY dB (aB (aC 0) (aB (aC 1) (aB (aC 2) aK)))) (.tp [4, 5]))
 (Dd (bU (oK (gQ (aY rO (aB (aC 3) aK)))) (vD "NoPen") bK)
 (Dd (bR (aY jZ (aB (aC 5) (aB (aC 3) aK))) (.tp [6, 7]))
 (mYf (aC 6)))))
def vX : Li := MX 8 4 wG
def nH : FS :=
 (iX [13] (aQ (bU (mB (aP FN (aP bO (aC 10) (aC 13)) (aY BP (aB (aC 12) (aB (aP bO (aP bO (aC 7) (mC (.int 2))) (aC 13)) aK))))) (bX (mC (.bl false))) bK)
 (bR (aP bO (aC 10) (aC 13)) (.nm 12))))
def nG : FS :=
 (iX [4, 5, 6, 7, 8, 9, 10, 11, 12, 13] (aQ (bR (aY bY (aB (aC 1) (aB (m1 eT (aC 2)) aK))) (.nm 5))
 (aQ (bR (aY BQ (aB (aC 1) aK)) (.nm 6))
 (aQ (bR (aY kR (aB (aC 1) (aB (aC 2) (aB (aC 5) (aB (mC (.int 10)) (aB (mC (.int 14)) aK)))))) (.nm 7))
 (bU (mB (aP fF (aP bO (aC 7) (mC (.int 0))) (mC (.str "run")))) (aQ (bR (m1 (tY false) (aP bO (aC 7) (mC (.int 3)))) (.nm 8))
 (aQ (bR (Hw 3 GB (aB (aC 3) (aB (aC 5) (aB (aC 8) aK))) (aC 6)) (.nm 9))
 (aQ (bR (cN true aK) (.nm 10))
 (aQ (JL ["NoBook", "NoCommand", "NoPath", "NoPen", "NoProcedure", "NoRun"] 11 10 3 vX (aB (aC 3) (aB (aC 5) (aB (aC 8) aK))) (aC 6))
 (aQ (bU (BS (mB (aP FN (m1 eT (aC 10)) (aP bO (aC 9) (mC (.int 2))))) (BS (mB (aP FN (m1 eT (aC 10)) (m1 eT (aP bO (aC 7) (mC (.int 2)))))) (mB (aP FN (aP bO (aP (dA false) (cN false (aB (aC 6) aK)) (aC 10)) (m1 eT (aC 10))) (aP bO (aC 9) (mC (.int 1))))))) (bX (mC (.bl false))) bK)
 (aQ (bR (aC 6) (.nm 12))
 (rR (iY (m1 eT (aC 10))) (.nm 13) nH))))))) bK)))))
def rZ : FS :=
 (aQ (bR (aY yT (aB (aC 0) aK)) (.nm 1))
 (aQ (bR (AB false (jQ (aY yU (aB (aC 1) (aB (mC (.int 3)) (aB (mC (.int 7)) aK))))) (.nm 14) fX (aY (nN 10) (aB (aC 14) aK)) [14]) (.nm 2))
 (aQ (bR (JK false "Book" kT (aB (aY sV (aB (aC 2) aK)) aK)) (.nm 3))
 (aQ (rR (iY (aP Dz (mC (.int 6)) (m1 eT (aC 1)))) (.nm 4) nG)
 (bX (mC (.bl true)))))))
def m_law_k56 : FD := Ct 15 1 rZ
theorem HW {x0 : Vl} {S : aO} : qD [x0] S = cE (qL [some x0] S) := (rfl)
theorem RL {x0 x1 : Vl} {S : aO} : BP [x0, x1] S = cE (BZ [some x0, some x1] S) := (rfl)
theorem Of {n : Nat} {x0 : Vl} {S : aO} : nN (n + 1) [x0] S = trunc S.length (cE ((zZ (nN n)) [some x0, none, none, none, none] S)) := (rfl)
theorem Lc {x0 x1 x2 x3 : Vl} {S : aO} : vX [x0, x1, x2, x3] S = wG [some x0, some x1, some x2, some x3, none, none, none, none] S := (rfl)
theorem Ld {x0 : Vl} {S : aO} : m_law_k56 [x0] S = trunc S.length (cE (rZ [some x0, none, none, none, none, none, none, none, none, none, none, none, none, none, none] S)) := (rfl)
end PH
namespace PHZ
open PH PySem PySem.Spec PyProof.Rows L2
theorem Cr : FnScope ["value"] ["value"] (defScope sM) := ⟨rfl, rfl, rfl, by decide +kernel, rfl, by decide +kernel, by decide +kernel⟩
theorem KO : FnScope ["value"] ["value"] (defScope Bw) := ⟨rfl, rfl, rfl, by decide +kernel, rfl, by decide +kernel, by decide +kernel⟩
theorem KN : FnScope ["value", "number"] ["value"] (defScope yH) := ⟨rfl, rfl, rfl, by decide +kernel, rfl, by decide +kernel, by decide +kernel⟩
theorem Cs : FnScope ["value", "many", "low", "high", "number"] ["value"] (defScope oH) := ⟨rfl, rfl, rfl, by decide +kernel, rfl, by decide +kernel, by decide +kernel⟩
theorem Fh : FnScope ["pen", "command", "x", "y", "u", "v", "p", "q", "word", "step"] ["pen", "command"] (defScope xB) := ⟨rfl, rfl, rfl, by decide +kernel, rfl, by decide +kernel, by decide +kernel⟩
theorem EY : FnScope ["pen"] ["pen"] (defScope uO) := ⟨rfl, rfl, rfl, by decide +kernel, rfl, by decide +kernel, by decide +kernel⟩
theorem MN : FnScope ["pen", "command"] ["pen", "command"] (defScope Ed) := ⟨rfl, rfl, rfl, by decide +kernel, rfl, by decide +kernel, by decide +kernel⟩
theorem EZ : FnScope ["statement", "word"] ["statement"] (defScope uP) := ⟨rfl, rfl, rfl, by decide +kernel, rfl, by decide +kernel, by decide +kernel⟩
theorem Bq : FnScope ["statement", "blocks", "word"] ["statement", "blocks"] (defScope qU) := ⟨rfl, rfl, rfl, by decide +kernel, rfl, by decide +kernel, by decide +kernel⟩
theorem tP : FnScope ["block", "statement"] ["block"] (defScope lB) := ⟨rfl, rfl, rfl, by decide +kernel, rfl, by decide +kernel, by decide +kernel⟩
theorem oC : FnScope ["statement", "block"] ["statement"] (defScope gY) := ⟨rfl, rfl, rfl, by decide +kernel, rfl, by decide +kernel, by decide +kernel⟩
theorem Br : FnScope ["value", "level", "many", "word"] ["value", "level", "many"] (defScope qV) := ⟨rfl, rfl, rfl, by decide +kernel, rfl, by decide +kernel, by decide +kernel⟩
theorem uM : FnScope ["block", "level", "many", "path", "met", "at", "statement", "here", "number", "inner", "fault"] ["block", "level", "many", "path", "met"] (defScope qX) := ⟨rfl, rfl, rfl, by decide +kernel, rfl, by decide +kernel, by decide +kernel⟩
theorem Eb : FnScope ["self", "bodies", "procedure", "body", "fault", "met"] ["self", "bodies"] (defScope kP) := ⟨rfl, rfl, rfl, by decide +kernel, rfl, by decide +kernel, by decide +kernel⟩
theorem Fn : FnScope ["self"] ["self"] (defScope pB) := ⟨rfl, rfl, rfl, by decide +kernel, rfl, by decide +kernel, by decide +kernel⟩
theorem Bv : FnScope ["self", "body"] ["self"] (defScope iJ) := ⟨rfl, rfl, rfl, by decide +kernel, rfl, by decide +kernel, by decide +kernel⟩
theorem AH : FnScope ["book", "procedure"] ["book", "procedure"] (defScope nV) := ⟨rfl, rfl, rfl, by decide +kernel, rfl, by decide +kernel, by decide +kernel⟩
theorem yG : FnScope ["self", "bodies", "bits", "body"] ["self", "bodies", "bits"] (defScope fG) := ⟨rfl, rfl, rfl, by decide +kernel, rfl, by decide +kernel, by decide +kernel⟩
theorem yE : FnScope ["self"] ["self"] (defScope gN) := ⟨rfl, rfl, rfl, by decide +kernel, rfl, by decide +kernel, by decide +kernel⟩
theorem wZ : FnScope ["self", "procedure", "statement", "earlier"] ["self", "procedure", "statement"] (defScope fT) := ⟨rfl, rfl, rfl, by decide +kernel, rfl, by decide +kernel, by decide +kernel⟩
theorem wY : FnScope ["self", "procedure", "statement", "way"] ["self", "procedure", "statement", "way"] (defScope fR) := ⟨rfl, rfl, rfl, by decide +kernel, rfl, by decide +kernel, by decide +kernel⟩
theorem wK : FnScope ["self", "way", "task"] ["self", "way"] (defScope fH) := ⟨rfl, rfl, rfl, by decide +kernel, rfl, by decide +kernel, by decide +kernel⟩
theorem xA : FnScope ["self", "statement", "word"] ["self", "statement"] (defScope fU) := ⟨rfl, rfl, rfl, by decide +kernel, rfl, by decide +kernel, by decide +kernel⟩
theorem yF : FnScope ["self", "task"] ["self"] (defScope gO) := ⟨rfl, rfl, rfl, by decide +kernel, rfl, by decide +kernel, by decide +kernel⟩
theorem B6 : FnScope ["book", "procedure", "bits", "index", "bit", "execution"] ["book", "procedure", "bits"] (defScope pA) := ⟨rfl, rfl, rfl, by decide +kernel, rfl, by decide +kernel, by decide +kernel⟩
theorem Bs : FnScope ["deeds", "pen", "pens", "held", "deed"] ["deeds", "pen"] (defScope qW) := ⟨rfl, rfl, rfl, by decide +kernel, rfl, by decide +kernel, by decide +kernel⟩
theorem sc_ran : FnScope ["book", "procedure", "bits", "pen", "way", "deeds", "pens", "last"] ["book", "procedure", "bits", "pen"] (defScope DO) := ⟨rfl, rfl, rfl, by decide +kernel, rfl, by decide +kernel, by decide +kernel⟩
theorem KQ : FnScope ["_law_script", "_law_cell"] ["_law_script"] (defScope yJ) := ⟨rfl, rfl, rfl, by decide +kernel, rfl, by decide +kernel, by decide +kernel⟩
theorem KS : FnScope ["_law_pool_here", "_law_many", "_law_at", "_law_cell", "_law_number_here"] ["_law_pool_here", "_law_many"] (defScope C0) := ⟨rfl, rfl, rfl, by decide +kernel, rfl, by decide +kernel, by decide +kernel⟩
theorem Ea : FnScope ["_law_pool_here", "_law_mood", "_law_menus", "_law_menu", "_law_kind", "_law_far"] ["_law_pool_here", "_law_mood"] (defScope uQ) := ⟨rfl, rfl, rfl, by decide +kernel, rfl, by decide +kernel, by decide +kernel⟩
theorem KR : FnScope ["_law_pool_here", "_law_mood", "_law_k", "_law_kind", "_law_rows"] ["_law_pool_here", "_law_mood"] (defScope Bz) := ⟨rfl, rfl, rfl, by decide +kernel, rfl, by decide +kernel, by decide +kernel⟩
theorem Bt : FnScope ["_law_pool_here", "_law_mood", "_law_level", "_law_room", "_law_calls", "_law_low", "_law_kind", "_law_pair_here", "_law_inner", "_law_one", "_law_goal", "_law_saved"] ["_law_pool_here", "_law_mood", "_law_level", "_law_room", "_law_calls", "_law_low"] (defScope AJ) := ⟨rfl, rfl, rfl, by decide +kernel, rfl, by decide +kernel, by decide +kernel⟩
theorem Bu : FnScope ["_law_pool_here", "_law_mood", "_law_level", "_law_room", "_law_calls", "_law_low", "_law_block_here", "_law_turn"] ["_law_pool_here", "_law_mood", "_law_level", "_law_room", "_law_calls", "_law_low"] (defScope AK) := ⟨rfl, rfl, rfl, by decide +kernel, rfl, by decide +kernel, by decide +kernel⟩
theorem Fm : FnScope ["_law_pool_here", "_law_mood", "_law_room", "_law_calls", "_law_goal", "_law_saved", "_law_at", "_law_pair_here", "_law_rows"] ["_law_pool_here", "_law_mood", "_law_room", "_law_calls"] (defScope xD) := ⟨rfl, rfl, rfl, by decide +kernel, rfl, by decide +kernel, by decide +kernel⟩
theorem KW : FnScope ["_law_pool_here", "_law_mood", "_law_room", "_law_calls", "_law_low", "_law_ending", "_law_body_here", "_law_turn", "_law_rows"] ["_law_pool_here", "_law_mood", "_law_room", "_law_calls", "_law_low"] (defScope C3) := ⟨rfl, rfl, rfl, by decide +kernel, rfl, by decide +kernel, by decide +kernel⟩
theorem KU : FnScope ["_law_pool_here", "_law_most", "_law_size", "_law_mood", "_law_wild", "_law_many", "_law_calls", "_law_bodies", "_law_procedure", "_law_room", "_law_low"] ["_law_pool_here", "_law_most", "_law_size"] (defScope C1) := ⟨rfl, rfl, rfl, by decide +kernel, rfl, by decide +kernel, by decide +kernel⟩
theorem Fi : FnScope ["_law_pool_here", "_law_small", "_law_at", "_law_number_here"] ["_law_pool_here"] (defScope xC) := ⟨rfl, rfl, rfl, by decide +kernel, rfl, by decide +kernel, by decide +kernel⟩
theorem MO : FnScope ["_law_pool_here", "_law_begin", "_law_k"] ["_law_pool_here"] (defScope BL) := ⟨rfl, rfl, rfl, by decide +kernel, rfl, by decide +kernel, by decide +kernel⟩
theorem sc_L_bit : FnScope ["_law_state", "_law_task_here", "_law_bits_here"] ["_law_state", "_law_task_here"] (defScope BM) := ⟨rfl, rfl, rfl, by decide +kernel, rfl, by decide +kernel, by decide +kernel⟩
theorem sc_L_task : FnScope ["_law_state", "_law_task_here", "_law_word", "_law_bit_here", "_law_todo", "_law_at", "_law_waits"] ["_law_state", "_law_task_here"] (defScope rN) := ⟨rfl, rfl, rfl, by decide +kernel, rfl, by decide +kernel, by decide +kernel⟩
theorem sc_L_run : FnScope ["_law_bodies", "_law_procedure", "_law_bits_here", "_law_extra", "_law_state", "_law_turn", "_law_task_here", "_law_block_here"] ["_law_bodies", "_law_procedure", "_law_bits_here", "_law_extra"] (defScope BK) := ⟨rfl, rfl, rfl, by decide +kernel, rfl, by decide +kernel, by decide +kernel⟩
theorem KY : FnScope ["_law_pool_here", "_law_many", "_law_k"] ["_law_pool_here", "_law_many"] (defScope yM) := ⟨rfl, rfl, rfl, by decide +kernel, rfl, by decide +kernel, by decide +kernel⟩
theorem Fl : FnScope ["_law_statement", "_law_item"] ["_law_statement"] (defScope sO) := ⟨rfl, rfl, rfl, by decide +kernel, rfl, by decide +kernel, by decide +kernel⟩
theorem KP : FnScope ["_law_statement", "_law_blocks_here"] ["_law_statement", "_law_blocks_here"] (defScope By) := ⟨rfl, rfl, rfl, by decide +kernel, rfl, by decide +kernel, by decide +kernel⟩
theorem DN : FnScope ["_law_block_here", "_law_row", "_law_inner"] ["_law_block_here"] (defScope yL) := ⟨rfl, rfl, rfl, by decide +kernel, rfl, by decide +kernel, by decide +kernel⟩
theorem Fj : FnScope ["_law_bodies", "_law_body_here"] ["_law_bodies"] (defScope sN) := ⟨rfl, rfl, rfl, by decide +kernel, rfl, by decide +kernel, by decide +kernel⟩
theorem sc_L_steered : FnScope ["_law_pool_here", "_law_bodies", "_law_procedure", "_law_many", "_law_extra", "_law_bits_here", "_law_found"] ["_law_pool_here", "_law_bodies", "_law_procedure", "_law_many", "_law_extra"] (defScope pZ) := ⟨rfl, rfl, rfl, by decide +kernel, rfl, by decide +kernel, by decide +kernel⟩
theorem DM : FnScope ["_law_block_here", "_law_result", "_law_statement", "_law_blocks_here", "_law_inner"] ["_law_block_here"] (defScope yK) := ⟨rfl, rfl, rfl, by decide +kernel, rfl, by decide +kernel, by decide +kernel⟩
theorem sc_trace_T : GScope ["book", "procedure", "bits", "pen", "way", "deeds", "pens", "last"] ["book", "procedure", "bits", "pen"] (defScope oW) := ⟨rfl, rfl, rfl, by decide +kernel, rfl, by decide +kernel, by decide +kernel⟩
theorem sc_law_k56 : FnScope ["_law_script", "_law_pool_here", "_law_bodies", "_law_book_here", "_law_step", "_law_procedure", "_law_begin", "_law_found", "_law_bits_here", "_law_told", "_law_pens", "_law_behind", "_law_before", "_law_at", "_law_body_here"] ["_law_script"] (defScope rM) := ⟨rfl, rfl, rfl, by decide +kernel, rfl, by decide +kernel, by decide +kernel⟩
theorem Hl : FnScope ["self", "procedure", "path"] ["self", "procedure", "path"] (defScope rL) := ⟨rfl, rfl, rfl, by decide +kernel, rfl, by decide +kernel, by decide +kernel⟩
theorem KM : FnScope ["self", "index"] ["self", "index"] (defScope uL) := ⟨rfl, rfl, rfl, by decide +kernel, rfl, by decide +kernel, by decide +kernel⟩
structure Txt (w : World) (K : aD) (mg : Str -> Option Value) : Prop where
 n_isinstance : mg "isinstance" = none
 n_int : mg "int" = none
 n_bool : mg "bool" = none
 n_tuple : mg "tuple" = none
 n_len : mg "len" = none
 n_all : mg "all" = none
 n_str : mg "str" = none
 lim : Lim K
 k_LIMITS : ∃ es n, KDict K w (He.ga K "LIMITS") es n
 g_LIMITS : mg "LIMITS" = some (.ref (He.ga K "LIMITS"))
 n_range : mg "range" = none
 x_NoPen : XcF K mg "NoPen"
 x_NoCommand : XcF K mg "NoCommand"
 i_DEEPEST : ∃ t, mg "DEEPEST" = some (.int 3 t)
 n_list : mg "list" = none
 n_enumerate : mg "enumerate" = none
 i_MOST_IN_LIST : ∃ t, mg "MOST_IN_LIST" = some (.int 8 t)
 i_MOST_IN_PROCEDURE : ∃ t, mg "MOST_IN_PROCEDURE" = some (.int 12 t)
 i_MOST_PROCEDURES : ∃ t, mg "MOST_PROCEDURES" = some (.int 3 t)
 xa_NoBook : XaF K mg "NoBook" ["procedure", "path"]
 fx_NoBook : Hf K "NoBook" "__init__" "NoBook.__init__" rL
 c_Book : Cls K (He.ga K "Book")
 a_Book_own : NoAttr K (He.ga K "Book") "own"
 c_Execution : Cls K (He.ga K "Execution")
 a_Execution_own : NoAttr K (He.ga K "Execution") "own"
 a_Execution_bits : NoAttr K (He.ga K "Execution") "bits"
 a_Execution_taken : NoAttr K (He.ga K "Execution") "taken"
 a_Execution_deeds : NoAttr K (He.ga K "Execution") "deeds"
 a_Execution_stack : NoAttr K (He.ga K "Execution") "stack"
 a_Execution_active : NoAttr K (He.ga K "Execution") "active"
 a_Execution_ended : NoAttr K (He.ga K "Execution") "ended"
 xa_NoRun : XaF K mg "NoRun" ["index"]
 fx_NoRun : Hf K "NoRun" "__init__" "NoRun.__init__" uL
 x_NoProcedure : XcF K mg "NoProcedure"
 T_Execution : ClF K mg "Execution"
 T_Book : ClF K mg "Book"
 n_min : mg "min" = none
 ns : RK K ["NoBook", "NoCommand", "NoPath", "NoPen", "NoProcedure", "NoRun"]
 G_is_integer : mg "is_integer" = some (.ref (He.ga K "is_integer"))
 f_is_integer : qQ K "is_integer" sM
 G_is_bit : mg "is_bit" = some (.ref (He.ga K "is_bit"))
 f_is_bit : qQ K "is_bit" Bw
 G_is_pen : mg "is_pen" = some (.ref (He.ga K "is_pen"))
 f_is_pen : qQ K "is_pen" yH
 G_is_command : mg "is_command" = some (.ref (He.ga K "is_command"))
 f_is_command : qQ K "is_command" oH
 G_executed : mg "executed" = some (.ref (He.ga K "executed"))
 f_executed : qQ K "executed" xB
 G_check_pen : mg "check_pen" = some (.ref (He.ga K "check_pen"))
 f_check_pen : qQ K "check_pen" uO
 G_moved : mg "moved" = some (.ref (He.ga K "moved"))
 f_moved : qQ K "moved" Ed
 G_blocks_of : mg "blocks_of" = some (.ref (He.ga K "blocks_of"))
 f_blocks_of : qQ K "blocks_of" uP
 G_with_blocks : mg "with_blocks" = some (.ref (He.ga K "with_blocks"))
 f_with_blocks : qQ K "with_blocks" qU
 G_copied_block : mg "copied_block" = some (.ref (He.ga K "copied_block"))
 f_copied_block : qQ K "copied_block" lB
 G_copied_statement : mg "copied_statement" = some (.ref (He.ga K "copied_statement"))
 f_copied_statement : qQ K "copied_statement" gY
 G_well_formed : mg "well_formed" = some (.ref (He.ga K "well_formed"))
 f_well_formed : qQ K "well_formed" qV
 G_first_fault : mg "first_fault" = some (.ref (He.ga K "first_fault"))
 f_first_fault : qQ K "first_fault" qX
 M_Book_init : Meth K (He.ga K "Book") "__init__" (He.ma K (He.ga K "Book") "__init__")
 f_Book_init : Hf K "Book" "__init__" "Book.__init__" kP
 M_Book_len : Meth K (He.ga K "Book") "__len__" (He.ma K (He.ga K "Book") "__len__")
 f_Book_len : Hf K "Book" "__len__" "Book.__len__" pB
 M_Book_bodies : Meth K (He.ga K "Book") "bodies" (He.ma K (He.ga K "Book") "bodies")
 f_Book_bodies : Hf K "Book" "bodies" "Book.bodies" iJ
 G_has_procedure : mg "has_procedure" = some (.ref (He.ga K "has_procedure"))
 f_has_procedure : qQ K "has_procedure" nV
 M_Execution_init : Meth K (He.ga K "Execution") "__init__" (He.ma K (He.ga K "Execution") "__init__")
 f_Execution_init : Hf K "Execution" "__init__" "Execution.__init__" fG
 M_Execution_take : Meth K (He.ga K "Execution") "take" (He.ma K (He.ga K "Execution") "take")
 f_Execution_take : Hf K "Execution" "take" "Execution.take" gN
 M_Execution_enter : Meth K (He.ga K "Execution") "enter" (He.ma K (He.ga K "Execution") "enter")
 f_Execution_enter : Hf K "Execution" "enter" "Execution.enter" fT
 M_Execution_leave : Meth K (He.ga K "Execution") "leave" (He.ma K (He.ga K "Execution") "leave")
 f_Execution_leave : Hf K "Execution" "leave" "Execution.leave" fR
 M_Execution_unwind : Meth K (He.ga K "Execution") "unwind" (He.ma K (He.ga K "Execution") "unwind")
 f_Execution_unwind : Hf K "Execution" "unwind" "Execution.unwind" fH
 M_Execution_begin : Meth K (He.ga K "Execution") "begin" (He.ma K (He.ga K "Execution") "begin")
 f_Execution_begin : Hf K "Execution" "begin" "Execution.begin" fU
 M_Execution_step : Meth K (He.ga K "Execution") "step" (He.ma K (He.ga K "Execution") "step")
 f_Execution_step : Hf K "Execution" "step" "Execution.step" gO
 G_executed_run : mg "executed_run" = some (.ref (He.ga K "executed_run"))
 f_executed_run : qQ K "executed_run" pA
 G_pens_behind : mg "pens_behind" = some (.ref (He.ga K "pens_behind"))
 f_pens_behind : qQ K "pens_behind" qW
 G_ran : mg "ran" = some (.ref (He.ga K "ran"))
 f_ran : FnK K "ran" DO "pen" (.ref (He.ga K "HOME"))
 G_L_pool : mg "_law_pool" = some (.ref (He.ga K "_law_pool"))
 f_L_pool : qQ K "_law_pool" yJ
 G_L_draw : mg "_law_draw" = some (.ref (He.ga K "_law_draw"))
 f_L_draw : qQ K "_law_draw" C0
 G_L_command : mg "_law_command" = some (.ref (He.ga K "_law_command"))
 f_L_command : qQ K "_law_command" uQ
 G_L_pair : mg "_law_pair" = some (.ref (He.ga K "_law_pair"))
 f_L_pair : qQ K "_law_pair" Bz
 G_L_piece : mg "_law_piece" = some (.ref (He.ga K "_law_piece"))
 f_L_piece : qQ K "_law_piece" AJ
 G_L_block : mg "_law_block" = some (.ref (He.ga K "_law_block"))
 f_L_block : qQ K "_law_block" AK
 G_L_around : mg "_law_around" = some (.ref (He.ga K "_law_around"))
 f_L_around : qQ K "_law_around" xD
 G_L_body : mg "_law_body" = some (.ref (He.ga K "_law_body"))
 f_L_body : qQ K "_law_body" C3
 G_L_book : mg "_law_book" = some (.ref (He.ga K "_law_book"))
 f_L_book : qQ K "_law_book" C1
 G_L_number : mg "_law_number" = some (.ref (He.ga K "_law_number"))
 f_L_number : qQ K "_law_number" xC
 G_L_pen : mg "_law_pen" = some (.ref (He.ga K "_law_pen"))
 f_L_pen : qQ K "_law_pen" BL
 G_L_bit : mg "_law_bit" = some (.ref (He.ga K "_law_bit"))
 f_L_bit : qQ K "_law_bit" BM
 G_L_task : mg "_law_task" = some (.ref (He.ga K "_law_task"))
 f_L_task : qQ K "_law_task" rN
 G_L_run : mg "_law_run" = some (.ref (He.ga K "_law_run"))
 f_L_run : qQ K "_law_run" BK
 G_L_bits : mg "_law_bits" = some (.ref (He.ga K "_law_bits"))
 f_L_bits : qQ K "_law_bits" yM
 G_L_blocks : mg "_law_blocks" = some (.ref (He.ga K "_law_blocks"))
 f_L_blocks : qQ K "_law_blocks" sO
 G_L_with : mg "_law_with" = some (.ref (He.ga K "_law_with"))
 f_L_with : qQ K "_law_with" By
 G_L_copy : mg "_law_copy" = some (.ref (He.ga K "_law_copy"))
 f_L_copy : qQ K "_law_copy" yL
 G_L_copies : mg "_law_copies" = some (.ref (He.ga K "_law_copies"))
 f_L_copies : qQ K "_law_copies" sN
 G_L_steered : mg "_law_steered" = some (.ref (He.ga K "_law_steered"))
 f_L_steered : qQ K "_law_steered" pZ
 G_L_open : mg "_law_open" = some (.ref (He.ga K "_law_open"))
 f_L_open : qQ K "_law_open" yK
 G_trace_T : mg "trace" = some (.ref (He.ga K "trace"))
 f_trace_T : FnK K "trace" oW "pen" (.ref (He.ga K "HOME"))
 G_law_k56 : mg "law" = some (.ref (He.ga K "law"))
 f_law_k56 : qQ K "law" rM
section
variable {P : Program} {w : World} {K : aD} {mg : Str -> Option Value} {base : Heap}
theorem xa_NoBook (T : Txt w K mg) : XcA P w K mg base 1 "NoBook" ["self", "procedure", "path"] (SN (He.ga K "NoBook") "procedure" "path") :=
 Mq (m := "__init__") T.xa_NoBook T.fx_NoBook Hl ME (fun _ _ _ _ _ _ us hl => match us, hl with | [_, _, _], _ => rfl) fun cdv A outer s H vs Q E hr hsp => by
  obtain ⟨a, y, z, e, ha, h⟩ := hsp;subst e;exact ⟨_, (pss_cons (ps_ost (cv 0) (cv 1)) (pss_one (ps_ost (cv 0) (cv 2)))), rd_X2 T.xa_NoBook (by simp) (by simp) ha (fun _ _ => rfl) h⟩
theorem xa_NoRun (T : Txt w K mg) : XcA P w K mg base 1 "NoRun" ["self", "index"] (SO (He.ga K "NoRun") "index") :=
 Mq (m := "__init__") T.xa_NoRun T.fx_NoRun KM MF (fun _ _ _ _ _ _ us hl => match us, hl with | [_, _], _ => rfl) fun cdv A outer s H vs Q E hr hsp => by
  obtain ⟨a, y, e, ha, h⟩ := hsp;subst e;exact ⟨_, (pss_one (ps_ost (cv 0) (cv 1))), rd_X1 T.xa_NoRun (by simp) ha (fun _ _ => rfl) h⟩
theorem jX (T : Txt w K mg) : sG P w K mg base 1 "is_integer" ["value"] (spF K eY) :=
 jT (k := 0) T.f_is_integer T.G_is_integer Cr (Runs.plain (n := 1) (np := 1)) (fun _ _ _ _ _ _ us hl => match us, hl with | [_], _ => rfl) fun _ _ _ _ _ _ hr tk nd => by
  unfold oS;exact (aI (aW (nY (mM (T := "int") T.n_isinstance T.n_int (fv 0)) (pe_one (UJ (mM (T := "bool") T.n_isinstance T.n_bool (fv 0)))))))
theorem DW (T : Txt w K mg) : sG P w K mg base 2 "is_bit" ["value"] (spF K vA) :=
 jT (k := 1) T.f_is_bit T.G_is_bit KO (Runs.plain (n := 1) (np := 1)) (fun _ _ _ _ _ _ us hl => match us, hl with | [_], _ => rfl) fun _ _ _ _ _ _ hr tk nd => by
  unfold zW;exact (aI (aW (nY (aZ (jX T) hr tk (aA (fv 0) aG)) (pe_one (F3 uT Fp uT Fp fI (fv 0) fI)))))
theorem AM (T : Txt w K mg) : sG P w K mg base 2 "is_pen" ["value"] (spF K rO) :=
 jT (k := 1) T.f_is_pen T.G_is_pen KN (Runs.plain (n := 2) (np := 1)) (fun _ _ _ _ _ _ us hl => match us, hl with | [_], _ => rfl) fun _ _ _ _ _ _ hr tk nd => by
  unfold zV;exact (aI (aW (nY (mM (T := "tuple") T.n_isinstance T.n_tuple (fv 0)) (nY (wU (bG hr.units) s_eq (eQ T.n_len (fv 0)) fI) (pe_one (Rx T.n_all (zJ (own := [("number", 1)]) (t := (.nm 1)) rfl nd (iK (fv 0)) (blkOk_by (own := [("number", 1)]) (N := ["value", "number"]) (sc := defScope yH) (by decide +kernel)) (fun _ _ _ _ _ => (pg_name (i := 1) nd rfl (.inl rfl))) (fun _ _ _ _ _ => gK) (fun _ _ _ _ _ => (aZ (jX T) hr takes0 (aA (fv 1) aG))))))))))
theorem qY (T : Txt w K mg) : sG P w K mg base 2 "is_command" ["value"] (spF K eZ) :=
 jT (k := 1) T.f_is_command T.G_is_command Cs (Runs.plain (n := 5) (np := 1)) (fun _ _ _ _ _ _ us hl => match us, hl with | [_], _ => rfl) fun _ _ _ _ _ _ hr tk nd => by
  unfold jM lV;exact (aE (bH (PW.pt (lT (hZ (fJ (mM (T := "tuple") T.n_isinstance T.n_tuple (fv 0)))) (pw_or1 (aU (bG hr.units) s_eq (eQ T.n_len (fv 0)) fI)))) (aI (aW fB)) aS)
  (aE (bH (PW.pt (lT (hZ (fJ (mM (T := "str") T.n_isinstance T.n_str (bJ (fv 0) fI)))) (pw_or1 (L9 T.lim T.k_LIMITS T.g_LIMITS (bJ (fv 0) fI))))) (aI (aW fB)) aS)
  (aE (vJ (t := (.tp [1, 2, 3])) (f_lim T.lim T.k_LIMITS T.g_LIMITS (bJ (fv 0) fI)) (pg_tup rfl (pgs_cons (pg_name (i := 1) nd rfl (.inl rfl)) (pgs_cons (pg_name (i := 2) nd rfl (.inr rfl)) (pgs_cons (pg_name (i := 3) nd rfl (.inr rfl)) pgs_nil)))))
  (aE (bH (aU (sP hr.units) Ec (eQ T.n_len (fv 0)) (cS bT dF (fv 1) fI)) (aI (aW fB)) aS)
  (aI (aW (Rx T.n_all (zJ (own := [("number", 4)]) (t := (.nm 4)) rfl nd (iK (zI (fv 0) (iP fI) iQ)) (blkOk_by (own := [("number", 4)]) (N := ["value", "many", "low", "high", "number"]) (sc := defScope oH) (by decide +kernel)) (fun _ _ _ _ _ => (pg_name (i := 4) nd rfl (.inl rfl))) (fun _ _ _ _ _ => gK) (fun _ _ _ _ _ => (nY (aZ (jX T) hr takes0 (aA (fv 4) aG)) (pe_one (F3 uT Fp uT Fp (fv 2) (fv 4) (fv 3)))))))))))))
theorem An (T : Txt w K mg) : sG P w K mg base 1 "executed" ["pen", "command"] (spF K kH) :=
 jT (k := 0) T.f_executed T.G_executed Fh (Runs.plain (n := 10) (np := 2)) (fun _ _ _ _ _ _ us hl => match us, hl with | [_, _], _ => rfl) fun _ _ _ _ _ _ hr tk nd => by
  unfold tH kY;exact (aE (vJ (t := (.tp [2, 3, 4, 5, 6, 7])) (fv 0) (pg_tup rfl (pgs_cons (pg_name (i := 2) nd rfl (.inl rfl)) (pgs_cons (pg_name (i := 3) nd rfl (.inl rfl)) (pgs_cons (pg_name (i := 4) nd rfl (.inl rfl)) (pgs_cons (pg_name (i := 5) nd rfl (.inl rfl)) (pgs_cons (pg_name (i := 6) nd rfl (.inl rfl)) (pgs_cons (pg_name (i := 7) nd rfl (.inl rfl)) pgs_nil))))))))
  (aE (bA (i := 8) nd rfl (.inl rfl) (bJ (fv 1) fI))
  (aE (bH (aU (bG hr.units) s_eq (fv 8) fS) (aI (aW (bS (aA (cS bT dF (fv 2) (cS mV wQ (bJ (fv 1) fI) (fv 4))) (aA (cS bT dF (fv 3) (cS mV wQ (bJ (fv 1) fI) (fv 5))) (aA (fv 4) (aA (fv 5) (aA (fv 6) (aA (fv 7) aG))))))))) aS)
  (aE (bH (aU (bG hr.units) s_eq (fv 8) fS) (aE (mT (t := (.nm 9)) (passes_of rfl) rfl (oR (by rfl) T.n_range (bJ (fv 1) fI)) (pg_name (i := 9) nd rfl (.inl rfl)) (gR [9] (aI (UG (i := 4) (j := 5) (by rfl) nd rfl rfl (by decide) rfl rfl (tW (fv 5)) (fv 4) (by rfl)))))
  (aI (aW (bS (aA (fv 2) (aA (fv 3) (aA (fv 4) (aA (fv 5) (aA (fv 6) (aA (fv 7) aG)))))))))) aS)
  (aE (bH (aU (bG hr.units) s_eq (fv 8) fS) (aI (aW (bS (aA (fv 2) (aA (fv 3) (aA (fv 4) (aA (tW (fv 5)) (aA (fv 6) (aA (fv 7) aG))))))))) aS)
  (aE (bH (aU (bG hr.units) s_eq (fv 8) fS) (aI (aW (bS (aA (fv 2) (aA (fv 3) (aA (cS mV wQ (bJ (fv 1) fI) (fv 4)) (aA (cS mV wQ (bJ (fv 1) fI) (fv 5)) (aA (fv 6) (aA (fv 7) aG))))))))) aS)
  (aE (bH (aU (bG hr.units) s_eq (fv 8) fS) (aI (aW (bS (aA (fv 2) (aA (fv 3) (aA (bJ (fv 1) fI) (aA (bJ (fv 1) fI) (aA (fv 6) (aA (fv 7) aG))))))))) aS)
  (aE (bH (aU (bG hr.units) s_eq (fv 8) fS) (aI (aW (bS (aA (bJ (fv 1) fI) (aA (bJ (fv 1) fI) (aA (fv 4) (aA (fv 5) (aA (fv 6) (aA (fv 7) aG))))))))) aS)
  (aE (bH (aU (bG hr.units) s_eq (fv 8) fS) (aI (aW (bS (aA (fv 2) (aA (fv 3) (aA (fv 4) (aA (fv 5) (aA (fv 2) (aA (fv 3) aG))))))))) aS)
  (aE (bH (aU (bG hr.units) s_eq (fv 8) fS) (aI (aW (bS (aA (fv 6) (aA (fv 7) (aA (fv 4) (aA (fv 5) (aA (fv 6) (aA (fv 7) aG))))))))) aS)
  (aI (aW (bS (aA (fv 6) (aA (fv 7) (aA (fv 4) (aA (fv 5) (aA (fv 2) (aA (fv 3) aG)))))))))))))))))))
theorem Ej (T : Txt w K mg) : sG P w K mg base 3 "check_pen" ["pen"] (spF K qD) :=
 jT (k := 2) T.f_check_pen T.G_check_pen EY (Runs.plain (n := 1) (np := 1)) (fun _ _ _ _ _ _ us hl => match us, hl with | [_], _ => rfl) fun _ _ _ _ _ _ hr tk nd => by
  unfold qL;exact (aI (bH (hZ (fJ (aZ (AM T) hr tk (aA (fv 0) aG)))) (aI (vH T.x_NoPen tk)) aS))
theorem Mm (T : Txt w K mg) : sG P w K mg base 4 "moved" ["pen", "command"] (spF K BP) :=
 jT (k := 3) T.f_moved T.G_moved MN (Runs.plain (n := 2) (np := 2)) (fun _ _ _ _ _ _ us hl => match us, hl with | [_, _], _ => rfl) fun _ _ _ _ _ _ hr tk nd => by
  unfold BZ;exact (aE (cR (aZ (Ej T) hr tk (aA (fv 0) aG)))
  (aE (bH (hZ (fJ (aZ (qY T) hr tk (aA (fv 1) aG)))) (aI (vH T.x_NoCommand tk)) aS)
  (aI (aW (aZ (An T) hr tk (aA (fv 0) (aA (fv 1) aG)))))))
theorem yP (T : Txt w K mg) : sG P w K mg base 1 "blocks_of" ["statement"] (spF K kQ) :=
 jT (k := 0) T.f_blocks_of T.G_blocks_of EZ (Runs.plain (n := 2) (np := 1)) (fun _ _ _ _ _ _ us hl => match us, hl with | [_], _ => rfl) fun _ _ _ _ _ _ hr tk nd => by
  unfold qM;exact (aE (bA (i := 1) nd rfl (.inl rfl) (bJ (fv 0) fI))
  (aE (bH (PW.pt (lT (aU (bG hr.units) s_eq (fv 1) fS) (pw_or1 (aU (bG hr.units) s_eq (fv 1) fS)))) (aI (aW (cA (aA (bJ (fv 0) fI) aG)))) aS)
  (aE (bH (aU (bG hr.units) s_eq (fv 1) fS) (aI (aW (cA (aA (bJ (fv 0) fI) (aA (bJ (fv 0) fI) aG))))) aS)
  (aE (bH (aU (bG hr.units) s_eq (fv 1) fS) (aI (aW (bJ (fv 0) fI))) aS)
  (aI (aW (cA aG)))))))
theorem C8 (T : Txt w K mg) : sG P w K mg base 1 "with_blocks" ["statement", "blocks"] (spF K mW) :=
 jT (k := 0) T.f_with_blocks T.G_with_blocks Bq (Runs.plain (n := 3) (np := 2)) (fun _ _ _ _ _ _ us hl => match us, hl with | [_, _], _ => rfl) fun _ _ _ _ _ _ hr tk nd => by
  unfold nA;exact (aE (bA (i := 2) nd rfl (.inl rfl) (bJ (fv 0) fI))
  (aE (bH (PW.pt (lT (aU (bG hr.units) s_eq (fv 2) fS) (pw_or1 (aU (bG hr.units) s_eq (fv 2) fS)))) (aI (aW (bS (aA (fv 2) (aA (bJ (fv 1) fI) aG))))) aS)
  (aE (bH (aU (bG hr.units) s_eq (fv 2) fS) (aI (aW (bS (aA (fv 2) (aA (bJ (fv 1) fI) (aA (bJ (fv 1) fI) aG)))))) aS)
  (aE (bH (aU (bG hr.units) s_eq (fv 2) fS) (aI (aW (bS (aA (fv 2) (aA (bJ (fv 0) fI) (aA (bJ (fv 0) fI) (aA (fv 1) aG))))))) aS)
  (aI (aW (fv 0)))))))
theorem nL (T : Txt w K mg) : ∀ n, (sG P w K mg base (1 + n + 1) "copied_statement" ["statement"] (spF K (gZ n))) /\ (sG P w K mg base (1 + n + 1) "copied_block" ["block"] (spF K (eO n)))
 | 0 => ⟨sR T.f_copied_statement T.G_copied_statement oC (fun _ _ _ _ _ _ us hl => match us, hl with | [_], _ => rfl), sR T.f_copied_block T.G_copied_block tP (fun _ _ _ _ _ _ us hl => match us, hl with | [_], _ => rfl)⟩
 | n + 1 => by
  have ih := nL T n;have ih_copied_statement := ih.1;have ih_copied_block := ih.2;refine ⟨?_, ?_⟩
  ·exact jT (k := 1 + n + 1) T.f_copied_statement T.G_copied_statement oC (Runs.plain (n := 2) (np := 1)) (fun _ _ _ _ _ _ us hl => match us, hl with | [_], _ => rfl) fun _ _ _ _ _ _ hr tk nd => by
    unfold iA;exact (aI (aW (aZ (C8 T) hr tk (aA (fv 0) (aA (zJ (own := [("block", 1)]) (t := (.nm 1)) rfl nd (iK (aZ (yP T) hr tk (aA (fv 0) aG) (by omega))) (blkOk_by (own := [("block", 1)]) (N := ["statement", "block"]) (sc := defScope gY) (by decide +kernel)) (fun _ _ _ _ _ => (pg_name (i := 1) nd rfl (.inl rfl))) (fun _ _ _ _ _ => gK) (fun _ _ _ _ _ => (aZ ih_copied_block hr takes0 (aA (fv 1) aG) (by omega)))) aG)) (by omega))))
  ·exact jT (k := 1 + n + 1) T.f_copied_block T.G_copied_block tP (Runs.plain (n := 2) (np := 1)) (fun _ _ _ _ _ _ us hl => match us, hl with | [_], _ => rfl) fun _ _ _ _ _ _ hr tk nd => by
    unfold lY;exact (aI (aW (zJ (own := [("statement", 1)]) (t := (.nm 1)) rfl nd (iK (fv 0)) (blkOk_by (own := [("statement", 1)]) (N := ["block", "statement"]) (sc := defScope lB) (by decide +kernel)) (fun _ _ _ _ _ => (pg_name (i := 1) nd rfl (.inl rfl))) (fun _ _ _ _ _ => gK) (fun _ _ _ _ _ => (aZ ih_copied_statement hr takes0 (aA (fv 1) aG) (by omega))))))
theorem tS (T : Txt w K mg) (n : Nat) : sG P w K mg base (1 + n + 1) "copied_block" ["block"] (spF K (eO n)) := (nL T n).2
theorem C9 (T : Txt w K mg) : sG P w K mg base 3 "well_formed" ["value", "level", "many"] (spF K jY) :=
 jT (k := 2) T.f_well_formed T.G_well_formed Br (Runs.plain (n := 4) (np := 3)) (fun _ _ _ _ _ _ us hl => match us, hl with | [_, _, _], _ => rfl) fun _ _ _ _ _ _ hr tk nd => by
  unfold nC;exact (aE (bH (fJ (aZ (qY T) hr tk (aA (fv 0) aG))) (aI (aW fB)) aS)
  (aE (bH (PW.pt (lT (hZ (fJ (mM (T := "tuple") T.n_isinstance T.n_tuple (fv 0)))) (lT (aU mP AI (eQ T.n_len (fv 0)) fI) (pw_or1 (hZ (fJ (mM (T := "str") T.n_isinstance T.n_str (bJ (fv 0) fI)))))))) (aI (aW fB)) aS)
  (aE (bA (i := 3) nd rfl (.inl rfl) (bJ (fv 0) fI))
  (aE (bH (aU (bG hr.units) s_eq (fv 3) fS) (aI (aW (nY (wU (bG hr.units) s_eq (eQ T.n_len (fv 0)) fI) (pe_one (aZ (DW T) hr tk (aA (bJ (fv 0) fI) aG)))))) aS)
  (aE (bH (aU (bG hr.units) s_eq (fv 1) (F2 T.i_DEEPEST)) (aI (aW fB)) aS)
  (aE (bH (PW.pt (lT (aU (bG hr.units) s_eq (fv 3) fS) (pw_or1 (aU (bG hr.units) s_eq (fv 3) fS)))) (aI (aW (nY (wU (bG hr.units) s_eq (eQ T.n_len (fv 0)) fI) (pe_one (mM (T := "list") T.n_isinstance T.n_list (bJ (fv 0) fI)))))) aS)
  (aE (bH (aU (bG hr.units) s_eq (fv 3) fS) (aI (aW (nY (wU (bG hr.units) s_eq (eQ T.n_len (fv 0)) fI) (nY (mM (T := "list") T.n_isinstance T.n_list (bJ (fv 0) fI)) (pe_one (mM (T := "list") T.n_isinstance T.n_list (bJ (fv 0) fI))))))) aS)
  (aE (bH (PW.pt (lT (aU (sP hr.units) Ec (fv 3) fS) (pw_or1 (aU (sP hr.units) Ec (eQ T.n_len (fv 0)) fI)))) (aI (aW fB)) aS)
  (aE (bH (PW.pt (lT (hZ (fJ (aZ (jX T) hr tk (aA (bJ (fv 0) fI) aG)))) (pw_or1 (hZ (Gm uT Fp mP AI fI (bJ (fv 0) fI) (fv 2)))))) (aI (aW fB)) aS)
  (aE (bH (PW.pt (lT (hZ (fJ (mM (T := "bool") T.n_isinstance T.n_bool (bJ (fv 0) fI)))) (lT (hZ (fJ (mM (T := "list") T.n_isinstance T.n_list (bJ (fv 0) fI)))) (pw_or1 (aU (sP hr.units) Ec (eQ T.n_len (bJ (fv 0) fI)) fI))))) (aI (aW fB)) aS)
  (aI (aW (nY (mM (T := "list") T.n_isinstance T.n_list (bJ (bJ (fv 0) fI) fI)) (pe_one (mM (T := "list") T.n_isinstance T.n_list (bJ (bJ (fv 0) fI) fI))))))))))))))))
theorem uY (T : Txt w K mg) : ∀ n, sG P w K mg base (3 + n + 1) "first_fault" ["block", "level", "many", "path", "met"] (spF K (dH n))
 | 0 => sR T.f_first_fault T.G_first_fault uM (fun _ _ _ _ _ _ us hl => match us, hl with | [_, _, _, _, _], _ => rfl)
 | n + 1 => by
  have ih_first_fault := uY T n;exact jT (k := 3 + n + 1) T.f_first_fault T.G_first_fault uM (Runs.plain (n := 11) (np := 5)) (fun _ _ _ _ _ _ us hl => match us, hl with | [_, _, _, _, _], _ => rfl) fun _ _ _ _ _ _ hr tk nd => by
   unfold nE kB fQ;exact (aE (mT (t := (.tp [5, 6])) (passes_of rfl) rfl (BX (by rfl) T.n_enumerate (fv 0)) (pg_tup rfl (pgs_cons (pg_name (i := 5) nd rfl (.inl rfl)) (pgs_cons (pg_name (i := 6) nd rfl (.inl rfl)) pgs_nil))) (gR [5, 6, 7, 8, 9, 10] (aE (bA (i := 7) nd rfl (.inl rfl) (cS bT dF (fv 3) (bS (aA (fv 5) aG))))
  (aE (bH (PW.pt (lT (aU (bG hr.units) s_eq (fv 5) (F2 T.i_MOST_IN_LIST)) (lT (aU (bG hr.units) s_eq (fv 4) (F2 T.i_MOST_IN_PROCEDURE)) (pw_or1 (hZ (fJ (aZ (C9 T) hr tk (aA (fv 6) (aA (fv 1) (aA (fv 2) aG))) (by omega)))))))) (aI (aW (bS (aA (fv 7) (aA (fv 4) aG))))) aS)
  (aE (LA (k := 4) nd rfl (.inl rfl) fI)
  (aI (mT (t := (.tp [8, 9])) (passes_of rfl) rfl (BX (by rfl) T.n_enumerate (aZ (yP T) hr tk (aA (fv 6) aG) (by omega))) (pg_tup rfl (pgs_cons (pg_name (i := 8) nd rfl (.inl rfl)) (pgs_cons (pg_name (i := 9) nd rfl (.inl rfl)) pgs_nil))) (gR [8, 9, 10] (aE (vJ (t := (.tp [10, 4])) (aZ ih_first_fault hr tk (aA (fv 9) (aA (cS bT dF (fv 1) fI) (aA (fv 2) (aA (cS bT dF (fv 7) (bS (aA (fv 8) aG))) (aA (fv 4) aG))))) (by omega)) (pg_tup rfl (pgs_cons (pg_name (i := 10) nd rfl (.inl rfl)) (pgs_cons (pg_name (i := 4) nd rfl (.inl rfl)) pgs_nil))))
  (aI (bH (aU Fz MQ (fv 10) fN) (aI (aW (bS (aA (fv 10) (aA (fv 4) aG))))) aS)))))))))))
  (aI (aW (bS (aA fN (aA (fv 4) aG))))))
theorem El (T : Txt w K mg) : OkMX P w K mg base 23 "Book" "__init__" ["self", "bodies"] (spF K kT) :=
 wR (k := 22) T.f_Book_init T.M_Book_init Eb (Runs.plain (n := 6) (np := 2)) (fun _ _ _ _ _ _ us hl => match us, hl with | [_, _], _ => rfl) fun _ _ _ _ _ _ hr tk nd => by
  unfold qP dY;exact (aE (bH (PW.pt (lT (hZ (fJ (mM (T := "list") T.n_isinstance T.n_list (fv 1)))) (pw_or1 (hZ (Gm uT Fp uT Fp fI (eQ T.n_len (fv 1)) (F2 T.i_MOST_PROCEDURES)))))) (aI (AY (xa_NoBook T) hr tk (aA (tW fI) (aA (bS aG) aG)))) aS)
  (aE (mT (t := (.tp [2, 3])) (passes_of rfl) rfl (BX (by rfl) T.n_enumerate (fv 1)) (pg_tup rfl (pgs_cons (pg_name (i := 2) nd rfl (.inl rfl)) (pgs_cons (pg_name (i := 3) nd rfl (.inl rfl)) pgs_nil))) (gR [2, 3, 4, 5] (aE (bH (hZ (fJ (mM (T := "list") T.n_isinstance T.n_list (fv 3)))) (aI (AY (xa_NoBook T) hr tk (aA (fv 2) (aA (bS aG) aG)))) aS)
  (aE (vJ (t := (.tp [4, 5])) (aZ (uY T 10) hr tk (aA (fv 3) (aA fI (aA (eQ T.n_len (fv 1)) (aA (bS aG) (aA fI aG)))))) (pg_tup rfl (pgs_cons (pg_name (i := 4) nd rfl (.inl rfl)) (pgs_cons (pg_name (i := 5) nd rfl (.inl rfl)) pgs_nil))))
  (aI (bH (aU Fz MQ (fv 4) fN) (aI (AY (xa_NoBook T) hr tk (aA (fv 2) (aA (fv 4) aG)))) aS))))))
  (aI (oQ T.c_Book T.a_Book_own (fv 0) (zJ (own := [("body", 3)]) (t := (.nm 3)) rfl nd (iK (fv 1)) (blkOk_by (own := [("body", 3)]) (N := ["self", "bodies", "procedure", "body", "fault", "met"]) (sc := defScope kP) (by decide +kernel)) (fun _ _ _ _ _ => (pg_name (i := 3) nd rfl (.inl rfl))) (fun _ _ _ _ _ => gK) (fun _ _ _ _ _ => (aZ (tS T 20) hr takes0 (aA (fv 3) aG))))))))
theorem G7 (T : Txt w K mg) : OkMX P w K mg base 1 "Book" "__len__" ["self"] (spF K pF) :=
 wR (k := 0) T.f_Book_len T.M_Book_len Fn (Runs.plain (n := 1) (np := 1)) (fun _ _ _ _ _ _ us hl => match us, hl with | [_], _ => rfl) fun _ _ _ _ _ _ hr tk nd => by
  unfold tM;exact (aI (aW (eQ T.n_len (eK T.c_Book T.a_Book_own (fv 0)))))
theorem CA (T : Txt w K mg) : OkMX P w K mg base 23 "Book" "bodies" ["self"] (spF K mX) :=
 wR (k := 22) T.f_Book_bodies T.M_Book_bodies Bv (Runs.plain (n := 2) (np := 1)) (fun _ _ _ _ _ _ us hl => match us, hl with | [_], _ => rfl) fun _ _ _ _ _ _ hr tk nd => by
  unfold nF;exact (aI (aW (zJ (own := [("body", 1)]) (t := (.nm 1)) rfl nd (iK (eK T.c_Book T.a_Book_own (fv 0))) (blkOk_by (own := [("body", 1)]) (N := ["self", "body"]) (sc := defScope iJ) (by decide +kernel)) (fun _ _ _ _ _ => (pg_name (i := 1) nd rfl (.inl rfl))) (fun _ _ _ _ _ => gK) (fun _ _ _ _ _ => (aZ (tS T 20) hr takes0 (aA (fv 1) aG))))))
theorem AN (T : Txt w K mg) : sG P w K mg base 3 "has_procedure" ["book", "procedure"] (spF K kD) :=
 jT (k := 2) T.f_has_procedure T.G_has_procedure AH (Runs.plain (n := 2) (np := 2)) (fun _ _ _ _ _ _ us hl => match us, hl with | [_, _], _ => rfl) fun _ _ _ _ _ _ hr tk nd => by
  unfold kE;exact (aI (aW (nY (aZ (jX T) hr tk (aA (fv 1) aG)) (pe_one (F3 uT Fp mP AI fI (fv 1) (UM T.n_len (G7 T) hr (fv 0)))))))
theorem yR (T : Txt w K mg) : OkMX P w K mg base 1 "Execution" "__init__" ["self", "bodies", "bits"] (spF K gP) :=
 wR (k := 0) T.f_Execution_init T.M_Execution_init yG (Runs.plain (n := 4) (np := 3)) (fun _ _ _ _ _ _ us hl => match us, hl with | [_, _, _], _ => rfl) fun _ _ _ _ _ _ hr tk nd => by
  unfold jO;exact (aE (oQ T.c_Execution T.a_Execution_own (fv 0) (fv 1))
  (aE (oQ T.c_Execution T.a_Execution_bits (fv 0) (fv 2))
  (aE (oQ T.c_Execution T.a_Execution_taken (fv 0) fI)
  (aE (oQ T.c_Execution T.a_Execution_deeds (fv 0) (cA aG))
  (aE (oQ T.c_Execution T.a_Execution_stack (fv 0) (cA aG))
  (aE (oQ T.c_Execution T.a_Execution_active (fv 0) (f_lcC (own := [("body", 3)]) (t := (.nm 3)) rfl nd (iK (fv 1)) (blkOk_by (own := [("body", 3)]) (N := ["self", "bodies", "bits", "body"]) (sc := defScope fG) (by decide +kernel)) (fun _ _ _ _ _ => (pg_name (i := 3) nd rfl (.inl rfl)))))
  (aI (oQ T.c_Execution T.a_Execution_ended (fv 0) fI))))))))
theorem qB (T : Txt w K mg) : OkMX P w K mg base 3 "Execution" "take" ["self"] (spF K dP) :=
 wR (k := 2) T.f_Execution_take T.M_Execution_take yE (Runs.plain (n := 1) (np := 1)) (fun _ _ _ _ _ _ us hl => match us, hl with | [_], _ => rfl) fun _ _ _ _ _ _ hr tk nd => by
  unfold gU;exact (aE (bH (aU (bG hr.units) s_eq (eK T.c_Execution T.a_Execution_taken (fv 0)) (eQ T.n_len (eK T.c_Execution T.a_Execution_bits (fv 0)))) (aI (rT (xa_NoRun T) hr tk (aA (eK T.c_Execution T.a_Execution_taken (fv 0)) aG))) aS)
  (aE (IS T.c_Execution T.a_Execution_taken (fv 0) fI)
  (aI (aW (bJ (eK T.c_Execution T.a_Execution_bits (fv 0)) (cS fV nI (eK T.c_Execution T.a_Execution_taken (fv 0)) fI))))))
theorem pD (T : Txt w K mg) : OkMX P w K mg base 3 "Execution" "enter" ["self", "procedure", "statement"] (spF K dZ) :=
 wR (k := 2) T.f_Execution_enter T.M_Execution_enter wZ (Runs.plain (n := 4) (np := 3)) (fun _ _ _ _ _ _ us hl => match us, hl with | [_, _, _], _ => rfl) fun _ _ _ _ _ _ hr tk nd => by
  unfold gD;exact (aE (bA (i := 3) nd rfl (.inl rfl) (bJ (eK T.c_Execution T.a_Execution_active (fv 0)) (fv 1)))
  (aE (bH (PW.pt (tF (aU lF yI (eQ T.n_len (fv 3)) fI) (pw_and1 (aU (bG hr.units) s_eq (bJ (fv 3) (tW fI)) (eK T.c_Execution T.a_Execution_taken (fv 0)))))) (aI (rT (xa_NoRun T) hr tk (aA (tW fI) aG))) aS)
  (aE (cR (gS (bJ (eK T.c_Execution T.a_Execution_active (fv 0)) (fv 1)) (eK T.c_Execution T.a_Execution_taken (fv 0))))
  (aE (cR (gS (eK T.c_Execution T.a_Execution_stack (fv 0)) (bS (aA fS (aA (fv 1) (aA (fv 2) aG))))))
  (aI (cR (gS (eK T.c_Execution T.a_Execution_stack (fv 0)) (bS (aA fS (aA (bJ (eK T.c_Execution T.a_Execution_own (fv 0)) (fv 1)) (aA fI aG)))))))))))
theorem pC (T : Txt w K mg) : OkMX P w K mg base 1 "Execution" "leave" ["self", "procedure", "statement", "way"] (spF K fW) :=
 wR (k := 0) T.f_Execution_leave T.M_Execution_leave wY (Runs.plain (n := 4) (np := 4)) (fun _ _ _ _ _ _ us hl => match us, hl with | [_, _, _, _], _ => rfl) fun _ _ _ _ _ _ hr tk nd => by
  unfold iR;exact (aE (cR (Dy (bJ (eK T.c_Execution T.a_Execution_active (fv 0)) (fv 1))))
  (aE (bH (aU Ei MS (fv 2) fN) (aE (oQ T.c_Execution T.a_Execution_ended (fv 0) (fv 3))
  (aI Qj)) aS)
  (aE (bH (fJ (bJ (fv 2) fI)) (aI (cR (gS (eK T.c_Execution T.a_Execution_deeds (fv 0)) (bS (aA fS aG))))) aS)
  (aI (cR (gS (eK T.c_Execution T.a_Execution_stack (fv 0)) (bS (aA fS (aA (bJ (bJ (fv 2) fI) (fv 3)) (aA fI aG))))))))))
theorem wL (T : Txt w K mg) : OkMX P w K mg base 2 "Execution" "unwind" ["self", "way"] (spF K hC) :=
 wR (k := 1) T.f_Execution_unwind T.M_Execution_unwind wK (Runs.plain (n := 3) (np := 2)) (fun _ _ _ _ _ _ us hl => match us, hl with | [_, _], _ => rfl) fun _ _ _ _ _ _ hr tk nd => by
  unfold iB dO;exact (aE (bA (i := 2) nd rfl (.inl rfl) (Dy (eK T.c_Execution T.a_Execution_stack (fv 0))))
  (aE (Gn (k := 1000000) (passes_of rfl) (aU (sP hr.units) Ec (bJ (fv 2) fI) fS) (aE (bH (aU (bG hr.units) s_eq (bJ (fv 2) fI) fS) (aI (cR (gS (eK T.c_Execution T.a_Execution_deeds (fv 0)) (fv 2)))) aS)
  (aI (bA (i := 2) nd rfl (.inl rfl) (Dy (eK T.c_Execution T.a_Execution_stack (fv 0)))))))
  (aI (cR (Aa (pC T) hr tk T.c_Execution (fv 0) (aA (bJ (fv 2) fI) (aA (bJ (fv 2) fI) (aA (fv 1) aG))))))))
theorem xE (T : Txt w K mg) : OkMX P w K mg base 4 "Execution" "begin" ["self", "statement"] (spF K iN) :=
 wR (k := 3) T.f_Execution_begin T.M_Execution_begin xA (Runs.plain (n := 3) (np := 2)) (fun _ _ _ _ _ _ us hl => match us, hl with | [_, _], _ => rfl) fun _ _ _ _ _ _ hr tk nd => by
  unfold iS;exact (aE (bA (i := 2) nd rfl (.inl rfl) (bJ (fv 1) fI))
  (aI (bH (fJ (aZ (qY T) hr tk (aA (fv 1) aG))) (aI (cR (gS (eK T.c_Execution T.a_Execution_deeds (fv 0)) (fv 1)))) (aI (bH (aU (bG hr.units) s_eq (fv 2) fS) (aE (cR (gS (eK T.c_Execution T.a_Execution_deeds (fv 0)) (bS (aA fS aG))))
  (aE (cR (gS (eK T.c_Execution T.a_Execution_stack (fv 0)) (bS (aA fS aG))))
  (aI (cR (gS (eK T.c_Execution T.a_Execution_stack (fv 0)) (bS (aA fS (aA (bJ (fv 1) fI) (aA fI aG))))))))) (aI (bH (aU (bG hr.units) s_eq (fv 2) fS) (aI (cR (gS (eK T.c_Execution T.a_Execution_stack (fv 0)) (bS (aA fS (aA (bJ (fv 1) (cS bT dF fI (BY (qB T) hr tk T.c_Execution (fv 0)))) (aA fI aG))))))) (aI (bH (aU (bG hr.units) s_eq (fv 2) fS) (aI (cR (gS (eK T.c_Execution T.a_Execution_stack (fv 0)) (bS (aA fS (aA (bJ (fv 1) fI) aG)))))) (aI (bH (aU (bG hr.units) s_eq (fv 2) fS) (aE (bH (fJ (bJ (fv 1) fI)) (aI (cR (gS (eK T.c_Execution T.a_Execution_deeds (fv 0)) (bS (aA fS aG))))) aS)
  (aI (cR (Aa (pD T) hr tk T.c_Execution (fv 0) (aA (bJ (fv 1) fI) (aA (fv 1) aG)))))) (aI (cR (Aa (wL T) hr tk T.c_Execution (fv 0) (aA (bJ (fv 1) fI) aG)))))))))))))))
theorem yQ (T : Txt w K mg) : OkMX P w K mg base 5 "Execution" "step" ["self"] (spF K jF) :=
 wR (k := 4) T.f_Execution_step T.M_Execution_step yF (Runs.plain (n := 2) (np := 1)) (fun _ _ _ _ _ _ us hl => match us, hl with | [_], _ => rfl) fun _ _ _ _ _ _ hr tk nd => by
  unfold jN;exact (aE (bA (i := 1) nd rfl (.inl rfl) (Dy (eK T.c_Execution T.a_Execution_stack (fv 0))))
  (aI (bH (aU (bG hr.units) s_eq (bJ (fv 1) fI) fS) (aI (bH (aU mP AI (bJ (fv 1) fI) (eQ T.n_len (bJ (fv 1) fI))) (aE (cR (gS (eK T.c_Execution T.a_Execution_stack (fv 0)) (bS (aA fS (aA (bJ (fv 1) fI) (aA (cS bT dF (bJ (fv 1) fI) fI) aG))))))
  (aI (cR (Aa (xE T) hr tk T.c_Execution (fv 0) (aA (bJ (bJ (fv 1) fI) (bJ (fv 1) fI)) aG))))) aS)) (aI (bH (aU (bG hr.units) s_eq (bJ (fv 1) fI) fS) (aI (cR (gS (eK T.c_Execution T.a_Execution_deeds (fv 0)) (fv 1)))) (aI (bH (aU (bG hr.units) s_eq (bJ (fv 1) fI) fS) (aI (bH (aU (bG hr.units) s_eq (BY (qB T) hr tk T.c_Execution (fv 0)) fI) (aE (cR (gS (eK T.c_Execution T.a_Execution_stack (fv 0)) (fv 1)))
  (aI (cR (gS (eK T.c_Execution T.a_Execution_stack (fv 0)) (bS (aA fS (aA (bJ (fv 1) fI) (aA fI aG)))))))) aS)) (aI (cR (Aa (pC T) hr tk T.c_Execution (fv 0) (aA (bJ (fv 1) fI) (aA (bJ (fv 1) fI) (aA fI aG)))))))))))))
theorem tR (T : Txt w K mg) : sG P w K mg base 24 "executed_run" ["book", "procedure", "bits"] (spF K dB) :=
 jT (k := 23) T.f_executed_run T.G_executed_run B6 (Runs.cut (n := 6) (np := 3)) (fun _ _ _ _ _ _ us hl => match us, hl with | [_, _, _], _ => rfl) fun _ _ _ _ _ _ hr tk nd => by
  unfold lX eL gL;exact (aE (bH (hZ (fJ (aZ (AN T) hr tk (aA (fv 0) (aA (fv 1) aG))))) (aI (vH T.x_NoProcedure tk)) aS)
  (aE (bH (hZ (fJ (mM (T := "list") T.n_isinstance T.n_list (fv 2)))) (aI (rT (xa_NoRun T) hr tk (aA (tW fI) aG))) aS)
  (aE (mT (t := (.tp [3, 4])) (passes_of rfl) rfl (BX (by rfl) T.n_enumerate (fv 2)) (pg_tup rfl (pgs_cons (pg_name (i := 3) nd rfl (.inl rfl)) (pgs_cons (pg_name (i := 4) nd rfl (.inl rfl)) pgs_nil))) (gR [3, 4] (aI (bH (hZ (fJ (aZ (DW T) hr tk (aA (fv 4) aG)))) (aI (rT (xa_NoRun T) hr tk (aA (fv 3) aG))) aS))))
  (aE (bA (i := 5) nd rfl (.inl rfl) (O9 T.T_Execution (yR T) hr tk (aA (BY (CA T) hr tk T.c_Book (fv 0)) (aA (fv 2) aG))))
  (aE (cR (Aa (pD T) hr tk T.c_Execution (fv 5) (aA (fv 1) (aA fN aG))))
  (aE (Gn (k := 1000000) (passes_of rfl) (aU lF yI (eQ T.n_len (eK T.c_Execution T.a_Execution_stack (fv 5))) fI) (aI (cR (BY (yQ T) hr tk T.c_Execution (fv 5)))))
  (aE (bH (aU mP AI (eK T.c_Execution T.a_Execution_taken (fv 5)) (eQ T.n_len (fv 2))) (aI (rT (xa_NoRun T) hr tk (aA (eK T.c_Execution T.a_Execution_taken (fv 5)) aG))) aS)
  (aI (aW (bS (aA (eK T.c_Execution T.a_Execution_ended (fv 5)) (aA (tX (eK T.c_Execution T.a_Execution_deeds (fv 5))) aG))))))))))))
theorem uX (T : Txt w K mg) : sG P w K mg base 2 "pens_behind" ["deeds", "pen"] (spF K jZ) :=
 jT (k := 1) T.f_pens_behind T.G_pens_behind Bs (Runs.cut (n := 5) (np := 2)) (fun _ _ _ _ _ _ us hl => match us, hl with | [_, _], _ => rfl) fun _ _ _ _ _ _ hr tk nd => by
  unfold nD eR;exact (aE (bA (i := 2) nd rfl (.inl rfl) (cA aG))
  (aE (bA (i := 3) nd rfl (.inl rfl) (cA aG))
  (aE (mT (t := (.nm 4)) (passes_of rfl) rfl (iK (fv 0)) (pg_name (i := 4) nd rfl (.inl rfl)) (gR [4] (aI (bH (aU (bG hr.units) s_eq (bJ (fv 4) fI) fS) (aI (cR (gS (fv 3) (zI (fv 1) iQ (iP fI))))) (aI (bH (aU (bG hr.units) s_eq (bJ (fv 4) fI) fS) (aI (bA (i := 1) nd rfl (.inl rfl) (cS bT dF (Dy (fv 3)) (zI (fv 1) (iP fI) iQ)))) (aE (bA (i := 1) nd rfl (.inl rfl) (aZ (An T) hr tk (aA (fv 1) (aA (fv 4) aG))))
  (aI (cR (gS (fv 2) (fv 1)))))))))))
  (aI (aW (bS (aA (tX (fv 2)) (aA (fv 1) aG))))))))
theorem Si (T : Txt w K mg) : OkK P w K mg base 25 "ran" ["book", "procedure", "bits", "pen"] 3 "pen" (.ref (He.ga K "HOME")) (spF K GB) :=
 okK (k := 24) (N := ["book", "procedure", "bits", "pen", "way", "deeds", "pens", "last"]) T.f_ran T.G_ran sc_ran (Runs.plain (n := 8) (np := 4)) rfl (fun _ _ _ _ _ _ us ks l1 l2 => match us, ks, l1, l2 with | [_, _, _], [_], _, _ => ⟨_, _, _, _, _, _, rfl, rfl, rfl⟩) (fun _ _ _ _ _ _ us ws l1 l2 => match us, ws, l1, l2 with | [_, _, _], [_], _, _ => rfl) fun cdv A outer s H E hr => by
  have nd : (["book", "procedure", "bits", "pen", "way", "deeds", "pens", "last"] : List Str).Nodup := sc_ran.nd;have tk := takes_of (X := cxOf (L2.CX P w) P w K mg base ["book", "procedure", "bits", "pen", "way", "deeds", "pens", "last"] "ran" (defScope DO) (He.ga K "ran") cdv A outer s H E) (E := E) rfl rfl rfl rfl;unfold Jt;exact (aE (vJ (t := (.tp [4, 5])) (aZ (tR T) hr tk (aA (fv 0) (aA (fv 1) (aA (fv 2) aG)))) (pg_tup rfl (pgs_cons (pg_name (i := 4) nd rfl (.inl rfl)) (pgs_cons (pg_name (i := 5) nd rfl (.inl rfl)) pgs_nil))))
  (aE (bH (hZ (fJ (aZ (AM T) hr tk (aA (fv 3) aG)))) (aI (vH T.x_NoPen tk)) aS)
  (aE (vJ (t := (.tp [6, 7])) (aZ (uX T) hr tk (aA (fv 5) (aA (fv 3) aG))) (pg_tup rfl (pgs_cons (pg_name (i := 6) nd rfl (.inl rfl)) (pgs_cons (pg_name (i := 7) nd rfl (.inl rfl)) pgs_nil))))
  (aI (aW (bS (aA (fv 4) (aA (fv 7) (aA (eQ T.n_len (fv 6)) aG)))))))))
theorem Ke (T : Txt w K mg) : sG P w K mg base 1 "_law_pool" ["_law_script"] (spF K yT) :=
 jT (k := 0) T.f_L_pool T.G_L_pool KQ (Runs.plain (n := 2) (np := 1)) (fun _ _ _ _ _ _ us hl => match us, hl with | [_], _ => rfl) fun _ _ _ _ _ _ hr tk nd => by
  unfold zX;exact (aI (aW (cS bT dF (cA (aA fI aG)) (UI (zJ (own := [("_law_cell", 1)]) (t := (.nm 1)) rfl nd (iK (zI (fv 0) iQ (iP fI))) (blkOk_by (own := [("_law_cell", 1)]) (N := ["_law_script", "_law_cell"]) (sc := defScope yJ) (by decide +kernel)) (fun _ _ _ _ _ => (pg_name (i := 1) nd rfl (.inl rfl))) (fun _ _ _ _ _ => gK) (fun _ _ _ _ _ => (pQ T.n_int (fv 1)))) (pe_one (cA (aA fI aG)))))))
theorem cF (T : Txt w K mg) : sG P w K mg base 1 "_law_draw" ["_law_pool_here", "_law_many"] (spF K bY) :=
 jT (k := 0) T.f_L_draw T.G_L_draw KS (Runs.plain (n := 5) (np := 2)) (fun _ _ _ _ _ _ us hl => match us, hl with | [_, _], _ => rfl) fun _ _ _ _ _ _ hr tk nd => by
  unfold A0;exact (aE (CT (fv 0) fI fI)
  (aE (bA (i := 2) nd rfl (.inl rfl) (cS bT dF fI (cS lE uN (pQ T.n_int (bJ (fv 0) fI)) (cS fV nI (eQ T.n_len (fv 0)) fI))))
  (aE (bA (i := 3) nd rfl (.inl rfl) (pQ T.n_int (bJ (fv 0) (fv 2))))
  (aE (bH (aU Mj s_ge (fv 3) (cS JD RV fI fI)) (aE (Qi (cS uU Bx (fv 3) (fv 1)) (fv 0) (fv 2))
  (aI (aW (cS lE uN (fv 3) (fv 1))))) aS)
  (aE (bA (i := 4) nd rfl (.inl rfl) (cS lE uN (cS mV wQ (pQ T.n_int (cS bT dF (cS bT dF (fv 3) (cS mV wQ fI (bJ (fv 0) fI))) fI)) fI) fI))
  (aE (bA (i := 4) nd rfl (.inl rfl) (cS lE uN (cS mV wQ (fv 4) (cS bT dF (cS uU Bx (fv 4) fI) fI)) fI))
  (aE (bA (i := 4) nd rfl (.inl rfl) (cS lE uN (cS mV wQ (fv 4) (cS bT dF (cS uU Bx (fv 4) fI) fI)) fI))
  (aI (aW (cS lE uN (cS uU Bx (fv 4) fI) (fv 1)))))))))))
theorem sQ (T : Txt w K mg) : sG P w K mg base 2 "_law_command" ["_law_pool_here", "_law_mood"] (spF K iW) :=
 jT (k := 1) T.f_L_command T.G_L_command Ea (Runs.plain (n := 6) (np := 2)) (fun _ _ _ _ _ _ us hl => match us, hl with | [_, _], _ => rfl) fun _ _ _ _ _ _ hr tk nd => by
  unfold qO;exact (aE (bA (i := 2) nd rfl (.inl rfl) (cA (aA (cA (aA fI (aA fI (aA fI (aA fI (aA fI aG)))))) (aA (cA (aA fI (aA fI (aA fI (aA fI (aA fI aG)))))) (aA (cA (aA fI (aA fI (aA fI (aA fI (aA fI aG)))))) (aA (cA (aA fI (aA fI (aA fI (aA fI (aA fI aG)))))) (aA (cA (aA fI (aA fI (aA fI (aA fI (aA fI aG)))))) aG)))))))
  (aE (bA (i := 2) nd rfl (.inl rfl) (cS bT dF (fv 2) (cA (aA (cA (aA fI (aA fI (aA fI (aA fI (aA fI (aA fI (aA fI (aA fI (aA fI aG)))))))))) (aA (cA (aA fI (aA fI (aA fI (aA fI (aA fI aG)))))) (aA (cA (aA fI (aA fI (aA fI (aA fI (aA fI aG)))))) aG))))))
  (aE (bA (i := 3) nd rfl (.inl rfl) (bJ (fv 2) (fv 1)))
  (aE (bA (i := 4) nd rfl (.inl rfl) (bJ (fv 3) (aZ (cF T) hr tk (aA (fv 0) (aA (eQ T.n_len (fv 3)) aG)))))
  (aE (bH (aU (bG hr.units) s_eq (fv 4) fI) (aE (bA (i := 5) nd rfl (.inl rfl) (cS fV nI (aZ (cF T) hr tk (aA (fv 0) (aA fI aG))) fI))
  (aI (aW (bS (aA fS (aA (bJ (cA (aA (fv 5) (aA fI (aA (cS fV nI (cS lE uN (pQ T.n_int (fv 5)) fI) fI) (aA fI aG))))) (aZ (cF T) hr tk (aA (fv 0) (aA fI aG)))) aG)))))) aS)
  (aE (bH (aU (bG hr.units) s_eq (fv 4) fI) (aI (aW (bS (aA fS (aA (cS bT dF fI (aZ (cF T) hr tk (aA (fv 0) (aA fI aG)))) aG))))) aS)
  (aE (bH (aU (bG hr.units) s_eq (fv 4) fI) (aI (aW (bS (aA fS aG)))) aS)
  (aE (bH (aU (bG hr.units) s_eq (fv 4) fI) (aI (aW (bS (aA fS (aA (bJ (bS (aA (tW fI) (aA (tW fI) (aA (tW fI) (aA fI (aA fI (aA fI (aA fI (aA (tW fI) aG))))))))) (aZ (cF T) hr tk (aA (fv 0) (aA fI aG)))) aG))))) aS)
  (aE (bH (aU mP AI (fv 4) fI) (aI (aW (bS (aA (bJ (bS (aA fS (aA fS aG))) (cS fV nI (fv 4) fI)) (aA (cS fV nI (aZ (cF T) hr tk (aA (fv 0) (aA fI aG))) fI) (aA (cS fV nI (aZ (cF T) hr tk (aA (fv 0) (aA fI aG))) fI) aG)))))) aS)
  (aI (aW (bS (aA (bJ (bS (aA fS (aA fS (aA fS aG)))) (cS fV nI (fv 4) fI)) aG)))))))))))))
theorem DY (T : Txt w K mg) : sG P w K mg base 2 "_law_pair" ["_law_pool_here", "_law_mood"] (spF K rP) :=
 jT (k := 1) T.f_L_pair T.G_L_pair KR (Runs.plain (n := 5) (np := 2)) (fun _ _ _ _ _ _ us hl => match us, hl with | [_, _], _ => rfl) fun _ _ _ _ _ _ hr tk nd => by
  unfold zY;exact (aE (bA (i := 2) nd rfl (.inl rfl) (cS bT dF fI (aZ (cF T) hr tk (aA (fv 0) (aA fI aG)))))
  (aE (bA (i := 3) nd rfl (.inl rfl) (aZ (cF T) hr tk (aA (fv 0) (aA fI aG))))
  (aE (bH (aU (bG hr.units) s_eq (fv 1) fI) (aI (bA (i := 3) nd rfl (.inl rfl) (cS bT dF fI (cS lE uN (fv 3) fI)))) aS)
  (aE (bH (aU (bG hr.units) s_eq (fv 1) fI) (aI (bA (i := 3) nd rfl (.inl rfl) fI)) aS)
  (aE (bA (i := 4) nd rfl (.inl rfl) (cA (aA (cA (aA (bS (aA fS (aA (fv 2) aG))) (aA (bS (aA fS (aA (tW (fv 2)) aG))) aG))) (aA (cA (aA (bS (aA fS (aA (fv 2) aG))) (aA (bS (aA fS (aA (cS fV nI fI (fv 2)) aG))) aG))) (aA (cA (aA (bS (aA fS aG)) (aA (bS (aA fS aG)) aG))) aG)))))
  (aI (aW (bJ (cS bT dF (fv 4) (cA (aA (cA (aA (bS (aA fS aG)) (aA (bS (aA fS aG)) aG))) aG))) (fv 3)))))))))
theorem Am (T : Txt w K mg) : ∀ n, (sG P w K mg base (2 + n + 1) "_law_block" ["_law_pool_here", "_law_mood", "_law_level", "_law_room", "_law_calls", "_law_low"] (spF K (vZ n))) /\ (sG P w K mg base (2 + n + 1) "_law_piece" ["_law_pool_here", "_law_mood", "_law_level", "_law_room", "_law_calls", "_law_low"] (spF K (kS n)))
 | 0 => ⟨sR T.f_L_block T.G_L_block Bu (fun _ _ _ _ _ _ us hl => match us, hl with | [_, _, _, _, _, _], _ => rfl), sR T.f_L_piece T.G_L_piece Bt (fun _ _ _ _ _ _ us hl => match us, hl with | [_, _, _, _, _, _], _ => rfl)⟩
 | n + 1 => by
  have ih := Am T n;have ih_L_block := ih.1;have ih_L_piece := ih.2;refine ⟨?_, ?_⟩
  ·exact jT (k := 2 + n + 1) T.f_L_block T.G_L_block Bu (Runs.plain (n := 8) (np := 6)) (fun _ _ _ _ _ _ us hl => match us, hl with | [_, _, _, _, _, _], _ => rfl) fun _ _ _ _ _ _ hr tk nd => by
    unfold wI kO;exact (aE (bA (i := 6) nd rfl (.inl rfl) (cA aG))
  (aE (mT (t := (.nm 7)) (passes_of rfl) rfl (oR (by rfl) T.n_range (aZ (cF T) hr tk (aA (fv 0) (aA fI aG)) (by omega))) (pg_name (i := 7) nd rfl (.inl rfl)) (gR [7] (aI (bH (aU lF yI (bJ (fv 3) fI) fI) (aI (bA (i := 6) nd rfl (.inl rfl) (cS bT dF (fv 6) (aZ ih_L_piece hr tk (aA (fv 0) (aA (fv 1) (aA (fv 2) (aA (fv 3) (aA (fv 4) (aA (fv 5) aG)))))) (by omega))))) aS))))
  (aI (aW (fv 6)))))
  ·exact jT (k := 2 + n + 1) T.f_L_piece T.G_L_piece Bt (Runs.plain (n := 12) (np := 6)) (fun _ _ _ _ _ _ us hl => match us, hl with | [_, _, _, _, _, _], _ => rfl) fun _ _ _ _ _ _ hr tk nd => by
    unfold wH;exact (aE (bA (i := 6) nd rfl (.inl rfl) (aZ (cF T) hr tk (aA (fv 0) (aA fI aG)) (by omega)))
  (aE (bH (PW.pt (tF (aU lF yI (fv 6) fI) (tF (aU mP AI (fv 6) fI) (pw_and1 (aU lF yI (fv 2) fI))))) (aI (bA (i := 6) nd rfl (.inl rfl) (cS lE uN (fv 6) fI))) aS)
  (aE (bH (PW.pt (tF (aU (bG hr.units) s_eq (fv 6) fI) (pw_and1 (aU mP AI (bJ (fv 3) fI) fI)))) (aI (bA (i := 6) nd rfl (.inl rfl) fI)) aS)
  (aE (bH (PW.pt (tF (aU lF yI (fv 6) fI) (tF (aU mP AI (fv 6) fI) (pw_and1 (PW.pt (lT (aU mP AI (bJ (fv 4) fI) fI) (pw_or1 (aU Mj s_ge (fv 5) (bJ (fv 4) fI))))))))) (aI (bA (i := 6) nd rfl (.inl rfl) fI)) aS)
  (aE (pM (fv 3) fI fI)
  (aE (bH (aU mP AI (fv 6) fI) (aI (aW (cA (aA (aZ (sQ T) hr tk (aA (fv 0) (aA (fv 1) aG)) (by omega)) aG)))) aS)
  (aE (bH (aU (bG hr.units) s_eq (fv 6) fI) (aE (pM (fv 3) fI fI)
  (aE (bA (i := 7) nd rfl (.inl rfl) (aZ (DY T) hr tk (aA (fv 0) (aA (fv 1) aG)) (by omega)))
  (aE (bA (i := 8) nd rfl (.inl rfl) (cA aG))
  (aE (bH (aU lF yI (bJ (fv 3) fI) fI) (aI (bA (i := 8) nd rfl (.inl rfl) (aZ ih_L_piece hr tk (aA (fv 0) (aA (fv 1) (aA (fv 2) (aA (fv 3) (aA (fv 4) (aA (fv 5) aG)))))) (by omega)))) aS)
  (aI (aW (cS bT dF (cS bT dF (zI (fv 7) iQ (iP fI)) (fv 8)) (zI (fv 7) (iP fI) iQ)))))))) aS)
  (aE (bH (aU mP AI (fv 6) fI) (aE (bA (i := 9) nd rfl (.inl rfl) (aZ ih_L_block hr tk (aA (fv 0) (aA (fv 1) (aA (cS bT dF (fv 2) fI) (aA (fv 3) (aA (fv 4) (aA fI aG)))))) (by omega)))
  (aI (aW (cA (aA (bS (aA fS (aA (fv 9) (aA (aZ ih_L_block hr tk (aA (fv 0) (aA (fv 1) (aA (cS bT dF (fv 2) fI) (aA (fv 3) (aA (fv 4) (aA (fv 5) aG)))))) (by omega)) aG)))) aG))))) aS)
  (aE (bH (aU (bG hr.units) s_eq (fv 6) fI) (aI (aW (cA (aA (bS (aA fS (aA (aZ ih_L_block hr tk (aA (fv 0) (aA (fv 1) (aA (cS bT dF (fv 2) fI) (aA (fv 3) (aA (fv 4) (aA fI aG)))))) (by omega)) aG))) aG)))) aS)
  (aE (bH (aU (bG hr.units) s_eq (fv 6) fI) (aI (aW (cA (aA (bS (aA fS (aA (aZ ih_L_block hr tk (aA (fv 0) (aA (fv 1) (aA (cS bT dF (fv 2) fI) (aA (fv 3) (aA (fv 4) (aA (fv 5) aG)))))) (by omega)) aG))) aG)))) aS)
  (aE (bH (aU lF yI (fv 6) fI) (aI (aW (cA (aA (bS (aA fS (aA (aZ (cF T) hr tk (aA (fv 0) (aA fI aG)) (by omega)) aG))) aG)))) aS)
  (aE (pM (fv 4) fI fI)
  (aE (bA (i := 10) nd rfl (.inl rfl) (cS bT dF (fv 5) (aZ (cF T) hr tk (aA (fv 0) (aA (cS fV nI (bJ (fv 4) fI) (fv 5)) aG)) (by omega))))
  (aE (bA (i := 11) nd rfl (.inl rfl) (wU (bG hr.units) s_eq (aZ (cF T) hr tk (aA (fv 0) (aA fI aG)) (by omega)) fI))
  (aE (bA (i := 9) nd rfl (.inl rfl) (aZ ih_L_block hr tk (aA (fv 0) (aA (fv 1) (aA (cS bT dF (fv 2) fI) (aA (fv 3) (aA (fv 4) (aA (fv 5) aG)))))) (by omega)))
  (aI (aW (cA (aA (bS (aA fS (aA (fv 10) (aA (fv 11) (aA (cA (aA (fv 9) (aA (aZ ih_L_block hr tk (aA (fv 0) (aA (fv 1) (aA (cS bT dF (fv 2) fI) (aA (fv 3) (aA (fv 4) (aA (fv 5) aG)))))) (by omega)) aG))) aG))))) aG)))))))))))))))))))
theorem Hr (T : Txt w K mg) (n : Nat) : sG P w K mg base (2 + n + 1) "_law_piece" ["_law_pool_here", "_law_mood", "_law_level", "_law_room", "_law_calls", "_law_low"] (spF K (kS n)) := (Am T n).2
theorem G6 (T : Txt w K mg) : sG P w K mg base 3 "_law_around" ["_law_pool_here", "_law_mood", "_law_room", "_law_calls"] (spF K sW) :=
 jT (k := 2) T.f_L_around T.G_L_around Fm (Runs.plain (n := 9) (np := 4)) (fun _ _ _ _ _ _ us hl => match us, hl with | [_, _, _, _], _ => rfl) fun _ _ _ _ _ _ hr tk nd => by
  unfold tL;exact (aE (pM (fv 2) fI fI)
  (aE (pM (fv 3) fI fI)
  (aE (bA (i := 4) nd rfl (.inl rfl) (aZ (cF T) hr tk (aA (fv 0) (aA (bJ (fv 3) fI) aG))))
  (aE (bA (i := 5) nd rfl (.inl rfl) (wU (bG hr.units) s_eq (aZ (cF T) hr tk (aA (fv 0) (aA fI aG))) fI))
  (aE (bA (i := 6) nd rfl (.inl rfl) (aZ (cF T) hr tk (aA (fv 0) (aA fI aG))))
  (aE (bA (i := 7) nd rfl (.inl rfl) (cA (aA (aZ (sQ T) hr tk (aA (fv 0) (aA (fv 1) aG))) (aA (aZ (sQ T) hr tk (aA (fv 0) (aA (fv 1) aG))) aG))))
  (aE (bH (aU (bG hr.units) s_eq (aZ (cF T) hr tk (aA (fv 0) (aA fI aG))) fI) (aI (bA (i := 7) nd rfl (.inl rfl) (aZ (DY T) hr tk (aA (fv 0) (aA (fv 1) aG))))) aS)
  (aE (bA (i := 8) nd rfl (.inl rfl) (cA (aA (cA aG) (aA (cA (aA (bJ (fv 7) fI) (aA (bS (aA fS (aA (fv 4) (aA (fv 5) (aA (cA (aA (cA aG) (aA (cA aG) aG))) aG))))) (aA (bJ (fv 7) fI) aG)))) aG))))
  (aI (aW (cA (aA (bS (aA fS (aA (bJ (fv 8) (fv 6)) (aA (bJ (fv 8) (cS fV nI fI (fv 6))) aG)))) aG))))))))))))
theorem Kg (T : Txt w K mg) : sG P w K mg base 34 "_law_body" ["_law_pool_here", "_law_mood", "_law_room", "_law_calls", "_law_low"] (spF K vB) :=
 jT (k := 33) T.f_L_body T.G_L_body KW (Runs.plain (n := 9) (np := 5)) (fun _ _ _ _ _ _ us hl => match us, hl with | [_, _, _, _, _], _ => rfl) fun _ _ _ _ _ _ hr tk nd => by
  unfold A3 kG;exact (aE (bA (i := 5) nd rfl (.inl rfl) (aZ (cF T) hr tk (aA (fv 0) (aA fI aG))))
  (aE (bA (i := 6) nd rfl (.inl rfl) (cA aG))
  (aE (bH (PW.pt (tF (aU (bG hr.units) s_eq (aZ (cF T) hr tk (aA (fv 0) (aA fI aG))) fI) (tF (aU lF yI (bJ (fv 2) fI) fI) (pw_and1 (aU lF yI (bJ (fv 3) fI) fI))))) (aI (bA (i := 6) nd rfl (.inl rfl) (aZ (G6 T) hr tk (aA (fv 0) (aA (fv 1) (aA (fv 2) (aA (fv 3) aG))))))) aS)
  (aE (mT (t := (.nm 7)) (passes_of rfl) rfl (oR (by rfl) T.n_range (cS bT dF fI (aZ (cF T) hr tk (aA (fv 0) (aA fI aG))))) (pg_name (i := 7) nd rfl (.inl rfl)) (gR [7] (aI (bH (aU lF yI (bJ (fv 2) fI) fI) (aI (bA (i := 6) nd rfl (.inl rfl) (cS bT dF (fv 6) (aZ (Hr T 30) hr tk (aA (fv 0) (aA (fv 1) (aA fI (aA (fv 2) (aA (fv 3) (aA (fv 4) aG)))))))))) aS))))
  (aE (bA (i := 8) nd rfl (.inl rfl) (cA (aA (cA (aA (bS (aA fS (aA (cA (aA (bS (aA fS (aA fI aG))) aG)) (aA (cA aG) aG)))) aG)) (aA (cA (aA (bS (aA fS (aA fI aG))) aG)) aG))))
  (aE (bH (PW.pt (lT (aU (bG hr.units) s_eq (fv 5) fI) (pw_or1 (aU (bG hr.units) s_eq (fv 5) fI)))) (aI (aW (cS bT dF (fv 6) (bJ (fv 8) (cS uU Bx (fv 5) fI))))) aS)
  (aE (bH (aU (bG hr.units) s_eq (fv 5) fI) (aI (aW (cS bT dF (bJ (fv 8) fI) (fv 6)))) aS)
  (aI (aW (fv 6))))))))))
theorem Kf (T : Txt w K mg) : sG P w K mg base 35 "_law_book" ["_law_pool_here", "_law_most", "_law_size"] (spF K yU) :=
 jT (k := 34) T.f_L_book T.G_L_book KU (Runs.cut (n := 11) (np := 3)) (fun _ _ _ _ _ _ us hl => match us, hl with | [_, _, _], _ => rfl) fun _ _ _ _ _ _ hr tk nd => by
  unfold A2 mN;exact (aE (bA (i := 3) nd rfl (.inl rfl) (aZ (cF T) hr tk (aA (fv 0) (aA fI aG))))
  (aE (bA (i := 4) nd rfl (.inl rfl) (wU (bG hr.units) s_eq (aZ (cF T) hr tk (aA (fv 0) (aA fI aG))) fI))
  (aE (bA (i := 5) nd rfl (.inl rfl) (cS bT dF fI (aZ (cF T) hr tk (aA (fv 0) (aA (fv 1) aG)))))
  (aE (bA (i := 6) nd rfl (.inl rfl) (cA (aA fI (aA (fv 5) aG))))
  (aE (bA (i := 7) nd rfl (.inl rfl) (cA aG))
  (aE (mT (t := (.nm 8)) (passes_of rfl) rfl (oR (by rfl) T.n_range (fv 5)) (pg_name (i := 8) nd rfl (.inl rfl)) (gR [8, 9, 10] (aE (bA (i := 9) nd rfl (.inl rfl) (cA (aA (cS fV nI (cS fV nI (fv 2) fI) (pQ T.n_int (wU lF yI (fv 5) fI))) aG)))
  (aE (bA (i := 10) nd rfl (.inl rfl) (cS bT dF (fv 8) fI))
  (aE (bH (fJ (fv 4)) (aI (bA (i := 10) nd rfl (.inl rfl) fI)) aS)
  (aI (cR (gS (fv 7) (aZ (Kg T) hr tk (aA (fv 0) (aA (fv 3) (aA (fv 9) (aA (fv 6) (aA (fv 10) aG))))))))))))))
  (aI (aW (tX (fv 7))))))))))
theorem G4 (T : Txt w K mg) : sG P w K mg base 2 "_law_number" ["_law_pool_here"] (spF K mQ) :=
 jT (k := 1) T.f_L_number T.G_L_number Fi (Runs.plain (n := 4) (np := 1)) (fun _ _ _ _ _ _ us hl => match us, hl with | [_], _ => rfl) fun _ _ _ _ _ _ hr tk nd => by
  unfold tI;exact (aE (bA (i := 1) nd rfl (.inl rfl) (aZ (cF T) hr tk (aA (fv 0) (aA fI aG))))
  (aE (bH (aU (bG hr.units) s_eq (fv 1) fI) (aI (aW (cS fV nI (aZ (cF T) hr tk (aA (fv 0) (aA fI aG))) fI))) aS)
  (aE (CT (fv 0) fI fI)
  (aE (bA (i := 2) nd rfl (.inl rfl) (cS bT dF fI (cS lE uN (pQ T.n_int (bJ (fv 0) fI)) (cS fV nI (eQ T.n_len (fv 0)) fI))))
  (aE (bA (i := 3) nd rfl (.inl rfl) (cS lE uN (pQ T.n_int (cS bT dF (cS mV wQ (bJ (fv 0) (fv 2)) fI) (cS mV wQ (bJ (fv 0) fI) fI))) (cS JD RV fI fI)))
  (aE (bH (aU (bG hr.units) s_eq (aZ (cF T) hr tk (aA (fv 0) (aA fI aG))) fI) (aI (aW (fv 3))) aS)
  (aI (aW (cS fV nI fI (fv 3))))))))))
theorem Mn (T : Txt w K mg) : sG P w K mg base 3 "_law_pen" ["_law_pool_here"] (spF K BQ) :=
 jT (k := 2) T.f_L_pen T.G_L_pen MO (Runs.plain (n := 3) (np := 1)) (fun _ _ _ _ _ _ us hl => match us, hl with | [_], _ => rfl) fun _ _ _ _ _ _ hr tk nd => by
  unfold Bb;exact (aE (CS (i := 1) (own := [("_law_k", 2)]) (t := (.nm 2)) rfl nd rfl rfl (sw_true rfl rfl rfl (by decide +kernel)) (oR (by rfl) T.n_range fI) (blkOk_by (own := [("_law_k", 2)]) (N := ["_law_pool_here", "_law_begin", "_law_k"]) (sc := defScope BL) (by decide +kernel)) (fun _ _ _ _ _ => (pg_name (i := 2) nd rfl (.inl rfl))) (fun _ _ _ _ _ => gK) (fun _ _ _ _ _ => (aZ (G4 T) hr takes0 (aA (fv 0) aG))))
  (aI (aW (bS (aA (bJ (fv 1) fI) (aA (bJ (fv 1) fI) (aA (bJ (fv 1) fI) (aA (bJ (fv 1) fI) (aA (bJ (fv 1) fI) (aA (bJ (fv 1) fI) aG))))))))))
theorem Mo (T : Txt w K mg) : OkG P w K mg base 1 "_law_bit" ["_law_state", "_law_task_here"] (spF K BR) :=
 okG (k := 0) (N := ["_law_state", "_law_task_here", "_law_bits_here"]) T.f_L_bit T.G_L_bit sc_L_bit (Runs.plain (n := 3) (np := 2)) (fun _ _ _ _ _ _ us hl => match us, hl with | [_, _], _ => rfl) fun cdv A outer s H E hr hgd => by
  have nd : (["_law_state", "_law_task_here", "_law_bits_here"] : List Str).Nodup := sc_L_bit.nd;have tk := takes_of (X := cxOf (L2.CX P w) P w K mg base ["_law_state", "_law_task_here", "_law_bits_here"] "_law_bit" (defScope BM) (He.ga K "_law_bit") cdv A outer s H E) (E := E) rfl rfl rfl rfl;unfold Bc;exact (aE (bA (i := 2) nd rfl (.inl rfl) (dN hr.units (fv 0) fS))
  (aE (bH (aU (bG hr.units) s_eq (dN hr.units (fv 0) fS) (eQ T.n_len (fv 2))) (aE (bH (aU (bG hr.units) s_eq (dN hr.units (fv 0) fS) fI) (aI (aW fI)) aS)
  (aE (vI in_sub SS hr.units (fv 0) fS fI)
  (aI (cR (gS (fv 2) (pQ T.n_int (nY (wU (bG hr.units) s_eq (bJ (fv 1) fI) fS) (pe_one (wU op_in_str s_inT fS (UK T.n_str (st_hu hr) hgd (bJ (fv 1) fI))))))))))) aS)
  (aE (vI in_add SX hr.units (fv 0) fS fI)
  (aI (aW (bJ (fv 2) (cS fV nI (dN hr.units (fv 0) fS) fI)))))))
theorem Kd (T : Txt w K mg) : OkG P w K mg base 2 "_law_task" ["_law_state", "_law_task_here"] (spF K iV) :=
 okG (k := 1) (N := ["_law_state", "_law_task_here", "_law_word", "_law_bit_here", "_law_todo", "_law_at", "_law_waits"]) T.f_L_task T.G_L_task sc_L_task (Runs.plain (n := 7) (np := 2)) (fun _ _ _ _ _ _ us hl => match us, hl with | [_, _], _ => rfl) fun cdv A outer s H E hr hgd => by
  have nd : (["_law_state", "_law_task_here", "_law_word", "_law_bit_here", "_law_todo", "_law_at", "_law_waits"] : List Str).Nodup := sc_L_task.nd;have tk := takes_of (X := cxOf (L2.CX P w) P w K mg base ["_law_state", "_law_task_here", "_law_word", "_law_bit_here", "_law_todo", "_law_at", "_law_waits"] "_law_task" (defScope rN) (He.ga K "_law_task") cdv A outer s H E) (E := E) rfl rfl rfl rfl;unfold gC;exact (aE (bA (i := 2) nd rfl (.inl rfl) (bJ (fv 1) fI))
  (aE (bH (PW.pt (lT (aU (bG hr.units) s_eq (fv 2) fS) (pw_or1 (aU (bG hr.units) s_eq (fv 2) fS)))) (aE (bA (i := 3) nd rfl (.inl rfl) (zK (Mo T) hr hgd tk (aA (fv 0) (aA (fv 1) aG))))
  (aE (bH (aU (bG hr.units) s_eq (fv 3) fI) (aI (aW fN)) aS)
  (aE (bH (aU (bG hr.units) s_eq (fv 2) fS) (aI (aW (bJ (fv 1) (cS bT dF fI (fv 3))))) aS)
  (aI (aW (bJ (cA (aA (cA aG) (aA (cS bT dF (bJ (fv 1) fI) (cA (aA (fv 1) aG))) aG))) (fv 3))))))) aS)
  (aE (bH (aU (bG hr.units) s_eq (fv 2) fS) (aE (cR (gS (dN hr.units (fv 0) fS) (bS (aA fS aG))))
  (aI (aW (cS bT dF (bJ (fv 1) fI) (cA (aA (bS (aA fS aG)) aG)))))) aS)
  (aE (bH (aU (bG hr.units) s_eq (fv 2) fS) (aE (bH (aU (op_inD (Rp hr)) s_in (bS (aA (bJ (fv 1) fI) (aA (dN hr.units (fv 0) fS) aG))) (dN hr.units (fv 0) fS)) (aI (aW fN)) aS)
  (aE (cR (gS (dN hr.units (fv 0) fS) (bS (aA (bJ (fv 1) fI) (aA (dN hr.units (fv 0) fS) aG)))))
  (aE (vI IE MT hr.units (fv 0) fS (zI (cA (aA (bS (aA fS aG)) aG)) iQ (iP (pQ T.n_int (bJ (fv 1) fI)))))
  (aI (aW (cS bT dF (bJ (dN hr.units (fv 0) fS) (bJ (fv 1) fI)) (cA (aA (bS (aA fS (aA (fv 1) (aA fI aG)))) aG)))))))) aS)
  (aE (bH (aU (bG hr.units) s_eq (fv 2) fS) (aE (bA (i := 4) nd rfl (.inl rfl) (dN hr.units (fv 0) fS))
  (aE (bA (i := 5) nd rfl (.inl rfl) (Qn (Rp hr) (zJ (own := [("_law_waits", 6)]) (t := (.nm 6)) rfl nd (iK (fv 4)) (blkOk_by (own := [("_law_waits", 6)]) (N := ["_law_state", "_law_task_here", "_law_word", "_law_bit_here", "_law_todo", "_law_at", "_law_waits"]) (sc := defScope rN) (by decide +kernel)) (fun _ _ _ _ _ => (pg_name (i := 6) nd rfl (.inl rfl))) (fun _ _ _ _ _ => gK) (fun _ _ _ _ _ => (bJ (fv 6) fI))) fS))
  (aE (vI IE MT hr.units (fv 0) fS (zJ (own := [("_law_waits", 6)]) (t := (.nm 6)) rfl nd (iK (zI (fv 4) iQ (iP (fv 5)))) (blkOk_by (own := [("_law_waits", 6)]) (N := ["_law_state", "_law_task_here", "_law_word", "_law_bit_here", "_law_todo", "_law_at", "_law_waits"]) (sc := defScope rN) (by decide +kernel)) (fun _ _ _ _ _ => (pg_name (i := 6) nd rfl (.inl rfl))) (fun _ _ _ _ _ => (Je (aU (bG hr.units) s_eq (bJ (fv 6) fI) fS))) (fun _ _ _ _ _ => (fv 6))))
  (aE (zH hr.units (fv 0) fS (zI (fv 4) (iP (cS bT dF (fv 5) fI)) iQ))
  (aI (aW (cA (aA (bS (aA fS (aA (bJ (bJ (fv 4) (fv 5)) fI) (aA (bJ (fv 1) fI) aG)))) aG)))))))) aS)
  (aE (bH (aU (bG hr.units) s_eq (fv 2) fS) (aE (cR (Dy (dN hr.units (fv 0) fS)))
  (aE (zH hr.units (fv 0) fS (bJ (fv 1) fI))
  (aE (vI IE MT hr.units (fv 0) fS (zI (cA (aA (bS (aA fS aG)) aG)) iQ (iP (pQ T.n_int (bJ (bJ (fv 1) fI) fI)))))
  (aI (aW (bJ (bJ (bJ (fv 1) fI) fI) (bJ (fv 1) fI))))))) aS)
  (aE (cR (gS (dN hr.units (fv 0) fS) (fv 1)))
  (aI (aW (cA aG))))))))))
theorem G3 (T : Txt w K mg) : OkG P w K mg base 3 "_law_run" ["_law_bodies", "_law_procedure", "_law_bits_here", "_law_extra"] (spF K vY) :=
 okG (k := 2) (N := ["_law_bodies", "_law_procedure", "_law_bits_here", "_law_extra", "_law_state", "_law_turn", "_law_task_here", "_law_block_here"]) T.f_L_run T.G_L_run sc_L_run (Runs.cut (n := 8) (np := 4)) (fun _ _ _ _ _ _ us hl => match us, hl with | [_, _, _, _], _ => rfl) fun cdv A outer s H E hr hgd => by
  have nd : (["_law_bodies", "_law_procedure", "_law_bits_here", "_law_extra", "_law_state", "_law_turn", "_law_task_here", "_law_block_here"] : List Str).Nodup := sc_L_run.nd;have tk := takes_of (X := cxOf (L2.CX P w) P w K mg base ["_law_bodies", "_law_procedure", "_law_bits_here", "_law_extra", "_law_state", "_law_turn", "_law_task_here", "_law_block_here"] "_law_run" (defScope BK) (He.ga K "_law_run") cdv A outer s H E) (E := E) rfl rfl rfl rfl;unfold Ba eM;exact (aE (bA (i := 4) nd rfl (.inl rfl) (UN (pN fS (fv 0) (pN fS (IT T.n_list (fv 2)) (pN fS (fv 3) (pN fS fI (pN fS fI (pN fS (cA aG) (pN fS (cA aG) Ql)))))))))
  (aE (zH hr.units (fv 4) fS (cA (aA (bS (aA fS (aA (fv 1) (aA fB (aA (cA (aA (cA aG) (aA (cA aG) aG))) aG))))) aG)))
  (aE (mT (t := (.nm 5)) (passes_of rfl) rfl (oR (by rfl) T.n_range fI) (pg_name (i := 5) nd rfl (.inl rfl)) (gR [5, 6, 7] (aI (bH (aU lF yI (eQ T.n_len (dN hr.units (fv 4) fS)) fI) (aE (bA (i := 6) nd rfl (.inl rfl) (bJ (dN hr.units (fv 4) fS) fI))
  (aE (zH hr.units (fv 4) fS (zI (dN hr.units (fv 4) fS) (iP fI) iQ))
  (aE (bA (i := 7) nd rfl (.inl rfl) (zK (Kd T) hr hgd tk (aA (fv 4) (aA (fv 6) aG))))
  (aE (bH (PW.pt (tF (aU Ei MS (fv 7) fN) (pw_and1 (aU (bG hr.units) s_eq (bJ (fv 6) fI) fS)))) (aI (aW (bS (aA fS (aA (tW fI) (aA (tX (dN hr.units (fv 4) fS)) (aA (tX (dN hr.units (fv 4) fS)) aG))))))) aS)
  (aE (bH (aU Ei MS (fv 7) fN) (aI (aW (bS (aA fS (aA (eQ T.n_len (dN hr.units (fv 4) fS)) (aA (tX (dN hr.units (fv 4) fS)) (aA (tX (dN hr.units (fv 4) fS)) aG))))))) aS)
  (aI (zH hr.units (fv 4) fS (cS bT dF (fv 7) (dN hr.units (fv 4) fS))))))))) aS))))
  (aE (bH (aU lF yI (eQ T.n_len (dN hr.units (fv 4) fS)) fI) (aI (aW (bS (aA fS (aA fI (aA (cA aG) (aA (cA aG) aG))))))) aS)
  (aE (bH (aU mP AI (dN hr.units (fv 4) fS) (eQ T.n_len (dN hr.units (fv 4) fS))) (aI (aW (bS (aA fS (aA (dN hr.units (fv 4) fS) (aA (tX (dN hr.units (fv 4) fS)) (aA (tX (dN hr.units (fv 4) fS)) aG))))))) aS)
  (aI (aW (bS (aA fS (aA (dN hr.units (fv 4) fS) (aA (tX (dN hr.units (fv 4) fS)) (aA (tX (dN hr.units (fv 4) fS)) aG))))))))))))
theorem Kh (T : Txt w K mg) : sG P w K mg base 2 "_law_bits" ["_law_pool_here", "_law_many"] (spF K yV) :=
 jT (k := 1) T.f_L_bits T.G_L_bits KY (Runs.plain (n := 3) (np := 2)) (fun _ _ _ _ _ _ us hl => match us, hl with | [_, _], _ => rfl) fun _ _ _ _ _ _ hr tk nd => by
  unfold A4;exact (aI (aW (zJ (own := [("_law_k", 2)]) (t := (.nm 2)) rfl nd (oR (by rfl) T.n_range (aZ (cF T) hr tk (aA (fv 0) (aA (cS bT dF (fv 1) fI) aG)))) (blkOk_by (own := [("_law_k", 2)]) (N := ["_law_pool_here", "_law_many", "_law_k"]) (sc := defScope yM) (by decide +kernel)) (fun _ _ _ _ _ => (pg_name (i := 2) nd rfl (.inl rfl))) (fun _ _ _ _ _ => gK) (fun _ _ _ _ _ => (aZ (cF T) hr takes0 (aA (fv 0) (aA fI aG)))))))
theorem Ao (T : Txt w K mg) : sG P w K mg base 1 "_law_blocks" ["_law_statement"] (spF K pE) :=
 jT (k := 0) T.f_L_blocks T.G_L_blocks Fl (Runs.plain (n := 2) (np := 1)) (fun _ _ _ _ _ _ us hl => match us, hl with | [_], _ => rfl) fun _ _ _ _ _ _ hr tk nd => by
  unfold tK;exact (aE (bH (aU (bG hr.units) s_eq (bJ (fv 0) fI) fS) (aI (aW (IT T.n_list (bJ (fv 0) fI)))) aS)
  (aI (aW (zJ (own := [("_law_item", 1)]) (t := (.nm 1)) rfl nd (iK (zI (fv 0) (iP fI) iQ)) (blkOk_by (own := [("_law_item", 1)]) (N := ["_law_statement", "_law_item"]) (sc := defScope sO) (by decide +kernel)) (fun _ _ _ _ _ => (pg_name (i := 1) nd rfl (.inl rfl))) (fun _ _ _ _ _ => (Je (fJ (mM (T := "list") T.n_isinstance T.n_list (fv 1))))) (fun _ _ _ _ _ => (fv 1))))))
theorem DX (T : Txt w K mg) : sG P w K mg base 1 "_law_with" ["_law_statement", "_law_blocks_here"] (spF K iG) :=
 jT (k := 0) T.f_L_with T.G_L_with KP (Runs.plain (n := 2) (np := 2)) (fun _ _ _ _ _ _ us hl => match us, hl with | [_, _], _ => rfl) fun _ _ _ _ _ _ hr tk nd => by
  unfold sA;exact (aE (bH (aU (bG hr.units) s_eq (bJ (fv 0) fI) fS) (aI (aW (cS bT dF (zI (fv 0) iQ (iP fI)) (bS (aA (fv 1) aG))))) aS)
  (aE (bH (aU (bG hr.units) s_eq (eQ T.n_len (fv 1)) fI) (aI (aW (fv 0))) aS)
  (aI (aW (cS bT dF (bS (aA (bJ (fv 0) fI) aG)) (Qm T.n_tuple (fv 1)))))))
theorem Da (T : Txt w K mg) : ∀ n, sG P w K mg base (1 + n + 1) "_law_copy" ["_law_block_here"] (spF K (rQ n))
 | 0 => sR T.f_L_copy T.G_L_copy DN (fun _ _ _ _ _ _ us hl => match us, hl with | [_], _ => rfl)
 | n + 1 => by
  have ih_L_copy := Da T n;exact jT (k := 1 + n + 1) T.f_L_copy T.G_L_copy DN (Runs.plain (n := 3) (np := 1)) (fun _ _ _ _ _ _ us hl => match us, hl with | [_], _ => rfl) fun _ _ _ _ _ _ hr tk nd => by
   unfold A1 xK;exact (aI (aW (zJ (own := [("_law_row", 1)]) (t := (.nm 1)) rfl nd (iK (fv 0)) (blkOk_by (own := [("_law_row", 1)]) (N := ["_law_block_here", "_law_row", "_law_inner"]) (sc := defScope yL) (by decide +kernel)) (fun _ _ _ _ _ => (pg_name (i := 1) nd rfl (.inl rfl))) (fun _ _ _ _ _ => gK) (fun _ _ _ _ _ => (aZ (DX T) hr takes0 (aA (fv 1) (aA (zJ (own := [("_law_inner", 2)]) (t := (.nm 2)) rfl nd (iK (aZ (Ao T) hr takes0 (aA (fv 1) aG) (by omega))) (blkOk_by (own := [("_law_inner", 2)]) (N := ["_law_block_here", "_law_row", "_law_inner"]) (by kernel_rfl)) (fun _ _ _ _ _ => (pg_name (i := 2) nd rfl (.inl rfl))) (fun _ _ _ _ _ => gK) (fun _ _ _ _ _ => (aZ ih_L_copy hr takes0 (aA (fv 2) aG) (by omega)))) aG)) (by omega))))))
theorem G5 (T : Txt w K mg) : sG P w K mg base 13 "_law_copies" ["_law_bodies"] (spF K sV) :=
 jT (k := 12) T.f_L_copies T.G_L_copies Fj (Runs.plain (n := 2) (np := 1)) (fun _ _ _ _ _ _ us hl => match us, hl with | [_], _ => rfl) fun _ _ _ _ _ _ hr tk nd => by
  unfold tJ;exact (aI (aW (zJ (own := [("_law_body_here", 1)]) (t := (.nm 1)) rfl nd (iK (fv 0)) (blkOk_by (own := [("_law_body_here", 1)]) (N := ["_law_bodies", "_law_body_here"]) (sc := defScope sN) (by decide +kernel)) (fun _ _ _ _ _ => (pg_name (i := 1) nd rfl (.inl rfl))) (fun _ _ _ _ _ => gK) (fun _ _ _ _ _ => (aZ (Da T 10) hr takes0 (aA (fv 1) aG))))))
theorem Ek (T : Txt w K mg) : OkG P w K mg base 4 "_law_steered" ["_law_pool_here", "_law_bodies", "_law_procedure", "_law_many", "_law_extra"] (spF K kR) :=
 okG (k := 3) (N := ["_law_pool_here", "_law_bodies", "_law_procedure", "_law_many", "_law_extra", "_law_bits_here", "_law_found"]) T.f_L_steered T.G_L_steered sc_L_steered (Runs.plain (n := 7) (np := 5)) (fun _ _ _ _ _ _ us hl => match us, hl with | [_, _, _, _, _], _ => rfl) fun cdv A outer s H E hr hgd => by
  have nd : (["_law_pool_here", "_law_bodies", "_law_procedure", "_law_many", "_law_extra", "_law_bits_here", "_law_found"] : List Str).Nodup := sc_L_steered.nd;have tk := takes_of (X := cxOf (L2.CX P w) P w K mg base ["_law_pool_here", "_law_bodies", "_law_procedure", "_law_many", "_law_extra", "_law_bits_here", "_law_found"] "_law_steered" (defScope pZ) (He.ga K "_law_steered") cdv A outer s H E) (E := E) rfl rfl rfl rfl;unfold qN;exact (aE (bA (i := 5) nd rfl (.inl rfl) (aZ (Kh T) hr tk (aA (fv 0) (aA (fv 3) aG))))
  (aE (bA (i := 6) nd rfl (.inl rfl) (zK (G3 T) hr hgd tk (aA (fv 1) (aA (fv 2) (aA (fv 5) (aA (fv 4) aG))))))
  (aE (bH (aU (bG hr.units) s_eq (bJ (fv 6) fI) fS) (aE (bA (i := 5) nd rfl (.inl rfl) (zI (fv 5) iQ (iP (bJ (fv 6) fI))))
  (aI (bA (i := 6) nd rfl (.inl rfl) (zK (G3 T) hr hgd tk (aA (fv 1) (aA (fv 2) (aA (fv 5) (aA (fv 4) aG)))))))) aS)
  (aI (aW (fv 6))))))
theorem DZ (T : Txt w K mg) : ∀ n, sG P w K mg base (1 + n + 1) "_law_open" ["_law_block_here"] (spF K (nN n))
 | 0 => sR T.f_L_open T.G_L_open DM (fun _ _ _ _ _ _ us hl => match us, hl with | [_], _ => rfl)
 | n + 1 => by
  have ih_L_open := DZ T n;exact jT (k := 1 + n + 1) T.f_L_open T.G_L_open DM (Runs.cut (n := 5) (np := 1)) (fun _ _ _ _ _ _ us hl => match us, hl with | [_], _ => rfl) fun _ _ _ _ _ _ hr tk nd => by
   unfold zZ sJ;exact (aE (bA (i := 1) nd rfl (.inl rfl) (cA aG))
  (aE (mT (t := (.nm 2)) (passes_of rfl) rfl (iK (fv 0)) (pg_name (i := 2) nd rfl (.inl rfl)) (gR [2, 3] (aE (CS (i := 3) (own := [("_law_inner", 4)]) (t := (.nm 4)) rfl nd rfl rfl (sw_true rfl rfl rfl (by decide +kernel)) (iK (aZ (Ao T) hr tk (aA (fv 2) aG) (by omega))) (blkOk_by (own := [("_law_inner", 4)]) (N := ["_law_block_here", "_law_result", "_law_statement", "_law_blocks_here", "_law_inner"]) (sc := defScope yK) (by decide +kernel)) (fun _ _ _ _ _ => (pg_name (i := 4) nd rfl (.inl rfl))) (fun _ _ _ _ _ => gK) (fun _ _ _ _ _ => (aZ ih_L_open hr takes0 (aA (fv 4) aG) (by omega))))
  (aI (bH (aU (bG hr.units) s_eq (bJ (fv 2) fI) fS) (aI (cR (gS (fv 1) (bS (aA fS (aA (bJ (fv 3) fI) (aA (cA aG) aG))))))) (aI (bH (aU (bG hr.units) s_eq (bJ (fv 2) fI) fS) (aI (cR (gS (fv 1) (bS (aA fS (aA (bJ (fv 2) fI) (aA fB (aA (fv 3) aG)))))))) (aI (cR (gS (fv 1) (aZ (DX T) hr tk (aA (fv 2) (aA (fv 3) aG)) (by omega))))))))))))
  (aI (aW (tX (fv 1))))))
theorem Hq (T : Txt w K mg) : RJ P w K mg base 25 "trace" ["book", "procedure", "bits", "pen"] 3 "pen" (KI K vX) :=
 okGT (k := 24) (N := ["book", "procedure", "bits", "pen", "way", "deeds", "pens", "last"]) T.f_trace_T T.G_trace_T sc_trace_T rfl (fun _ _ _ _ _ _ us ws l1 l2 => match us, ws, l1, l2 with | [_, _, _], [_], _, _ => rfl) fun cdv A outer s H E pn hr => by
  have nd : (["book", "procedure", "bits", "pen", "way", "deeds", "pens", "last"] : List Str).Nodup := sc_trace_T.nd;have tk := takes_gcx (P := P) (w := w) (K := K) (mg := mg) (base := base) (N := ["book", "procedure", "bits", "pen", "way", "deeds", "pens", "last"]) (qual := "trace") (scope := defScope oW) (f := (He.ga K "trace")) (cd := cdv) (A := A) (outer := outer) (s := s) (H := H) (E := E) (pn := pn);unfold wG;exact (Ez (vJ (t := (.tp [4, 5])) (aZ (tR T) hr tk (aA (fv 0) (aA (fv 1) (aA (fv 2) aG)))) (pg_tup rfl (pgs_cons (pg_name (i := 4) nd rfl (.inl rfl)) (pgs_cons (pg_name (i := 5) nd rfl (.inl rfl)) pgs_nil))))
  (Ez (bH (hZ (fJ (aZ (AM T) hr tk (aA (fv 3) aG)))) (aI (vH T.x_NoPen tk)) aS)
  (Ez (vJ (t := (.tp [6, 7])) (aZ (uX T) hr tk (aA (fv 5) (aA (fv 3) aG))) (pg_tup rfl (pgs_cons (pg_name (i := 6) nd rfl (.inl rfl)) (pgs_cons (pg_name (i := 7) nd rfl (.inl rfl)) pgs_nil))))
  (fy_yf (fv 6) hr.hd))))
theorem law_fn (T : Txt w K mg) : ∃ fd, (∀ (s : Shared) (us : List Value), us.length = (["_law_script"] : List Str).length -> BindsTo s fd ⟨us, []⟩ ((["_law_script"] : List Str).zip us)) /\ ∀ base, FnG P w K mg base (L2.CX P w) 36 (He.ga K "law") fd ["_law_script"] (spF K m_law_k56) :=
 N6 (N := ["_law_script", "_law_pool_here", "_law_bodies", "_law_book_here", "_law_step", "_law_procedure", "_law_begin", "_law_found", "_law_bits_here", "_law_told", "_law_pens", "_law_behind", "_law_before", "_law_at", "_law_body_here"]) T.f_law_k56 sc_law_k56 (Runs.cut (n := 15) (np := 1) (mb := rZ)) (fun _ _ _ _ _ _ us hl => match us, hl with | [_], _ => rfl) fun base cdv A outer s H E hr hgd => by
  have nd : (["_law_script", "_law_pool_here", "_law_bodies", "_law_book_here", "_law_step", "_law_procedure", "_law_begin", "_law_found", "_law_bits_here", "_law_told", "_law_pens", "_law_behind", "_law_before", "_law_at", "_law_body_here"] : List Str).Nodup := sc_law_k56.nd;have tk := takes_of (X := cxOf (L2.CX P w) P w K mg base ["_law_script", "_law_pool_here", "_law_bodies", "_law_book_here", "_law_step", "_law_procedure", "_law_begin", "_law_found", "_law_bits_here", "_law_told", "_law_pens", "_law_behind", "_law_before", "_law_at", "_law_body_here"] "law" (defScope rM) (He.ga K "law") cdv A outer s H E) (E := E) rfl rfl rfl rfl;unfold rZ nG nH;exact (aE (bA (i := 1) nd rfl (.inl rfl) (aZ (Ke T) hr tk (aA (fv 0) aG)))
  (aE (CS (i := 2) (own := [("_law_body_here", 14)]) (t := (.nm 14)) rfl nd rfl rfl (sw_true rfl rfl rfl (by decide +kernel)) (iK (aZ (Kf T) hr tk (aA (fv 1) (aA fI (aA fI aG))))) (blkOk_by (own := [("_law_body_here", 14)]) (N := ["_law_script", "_law_pool_here", "_law_bodies", "_law_book_here", "_law_step", "_law_procedure", "_law_begin", "_law_found", "_law_bits_here", "_law_told", "_law_pens", "_law_behind", "_law_before", "_law_at", "_law_body_here"]) (sc := defScope rM) (by decide +kernel)) (fun _ _ _ _ _ => (pg_name (i := 14) nd rfl (.inl rfl))) (fun _ _ _ _ _ => gK) (fun _ _ _ _ _ => (aZ (DZ T 10) hr takes0 (aA (fv 14) aG))))
  (aE (bA (i := 3) nd rfl (.inl rfl) (O9 T.T_Book (El T) hr tk (aA (aZ (G5 T) hr tk (aA (fv 2) aG)) aG)))
  (aE (mT (t := (.nm 4)) (passes_of rfl) rfl (oR (by rfl) T.n_range (UL T.n_min fI (eQ T.n_len (fv 1)))) (pg_name (i := 4) nd rfl (.inl rfl)) (gR [4, 5, 6, 7, 8, 9, 10, 11, 12, 13] (aE (bA (i := 5) nd rfl (.inl rfl) (aZ (cF T) hr tk (aA (fv 1) (aA (eQ T.n_len (fv 2)) aG))))
  (aE (bA (i := 6) nd rfl (.inl rfl) (aZ (Mn T) hr tk (aA (fv 1) aG)))
  (aE (bA (i := 7) nd rfl (.inl rfl) (zK (Ek T) hr hgd tk (aA (fv 1) (aA (fv 2) (aA (fv 5) (aA fI (aA fI aG)))))))
  (aI (bH (aU (bG hr.units) s_eq (bJ (fv 7) fI) fS) (aE (bA (i := 8) nd rfl (.inl rfl) (IT T.n_list (bJ (fv 7) fI)))
  (aE (bA (i := 9) nd rfl (.inl rfl) (Qo (Si T) hr tk (aA (fv 3) (aA (fv 5) (aA (fv 8) aG))) (fv 6)))
  (aE (bA (i := 10) nd rfl (.inl rfl) (cA aG))
  (aE (Qk (ix := 11) (il := 10) ⟨nd, rfl, rfl, by decide, rfl, rfl, rfl, rfl, rfl, rfl, by decide, by decide, rfl⟩ T.ns tk (passes_of rfl) (Hq T) hr (aA (fv 3) (aA (fv 5) (aA (fv 8) aG))) (fv 6))
  (aE (bH (PW.pt (lT (aU (sP hr.units) Ec (eQ T.n_len (fv 10)) (bJ (fv 9) fI)) (lT (aU (sP hr.units) Ec (eQ T.n_len (fv 10)) (eQ T.n_len (bJ (fv 7) fI))) (pw_or1 (aU (sP hr.units) Ec (bJ (cS bT dF (cA (aA (fv 6) aG)) (fv 10)) (eQ T.n_len (fv 10))) (bJ (fv 9) fI)))))) (aI (aW fB)) aS)
  (aE (bA (i := 12) nd rfl (.inl rfl) (fv 6))
  (aI (mT (t := (.nm 13)) (passes_of rfl) rfl (oR (by rfl) T.n_range (eQ T.n_len (fv 10))) (pg_name (i := 13) nd rfl (.inl rfl)) (gR [13] (aE (bH (aU (sP hr.units) Ec (bJ (fv 10) (fv 13)) (aZ (Mm T) hr tk (aA (fv 12) (aA (bJ (bJ (fv 7) fI) (fv 13)) aG)))) (aI (aW fB)) aS)
  (aI (bA (i := 12) nd rfl (.inl rfl) (bJ (fv 10) (fv 13)))))))))))))) aS)))))))
  (aI (aW fB))))))
end
theorem IV {K : aD} (h : ex K = true) (i : Nat) {b : Bool} (e : (exs K)[i]? = some b := by rfl) : b = true := cD.mp h b (bI e)
theorem ob_eq (s : Be) : ob s = hk.obs s.abs := Pk (HandSHeadRun.getT_eq s)
theorem txt {w : World} {K : aD} {h : Heap} {mg : Str -> Option Value} (X : K.In h) (G : h.Ns mainGlobals mg) (c : He.SaysT fa fn ts w K /\ ex K = true) : Txt w K mg where
  n_isinstance := He.free_ok X G (c.1.d.fact 0 (f := .free "isinstance") rfl)
  n_int := He.free_ok X G (c.1.d.fact 1 (f := .free "int") rfl)
  n_bool := He.free_ok X G (c.1.d.fact 2 (f := .free "bool") rfl)
  n_tuple := He.free_ok X G (c.1.d.fact 3 (f := .free "tuple") rfl)
  n_len := He.free_ok X G (c.1.d.fact 4 (f := .free "len") rfl)
  n_all := He.free_ok X G (c.1.d.fact 5 (f := .free "all") rfl)
  n_str := He.free_ok X G (c.1.d.fact 6 (f := .free "str") rfl)
  lim := T5 (IV c.2 0) (LZ c.1 0 (t := Hy) rfl)
  k_LIMITS := c.1.tab 0 (t := Hy) rfl
  g_LIMITS := He.glo_ok X G (c.1.d.fact 7 (f := .glo "LIMITS") rfl)
  n_range := He.free_ok X G (c.1.d.fact 8 (f := .free "range") rfl)
  x_NoPen := Hg (IV c.2 1) (He.glo_ok X G (c.1.d.fact 9 (f := .glo "NoPen") rfl))
  x_NoCommand := Hg (IV c.2 2) (He.glo_ok X G (c.1.d.fact 10 (f := .glo "NoCommand") rfl))
  i_DEEPEST := He.int_ok X G (c.1.d.fact 11 (f := .int "DEEPEST" 3) rfl)
  n_list := He.free_ok X G (c.1.d.fact 12 (f := .free "list") rfl)
  n_enumerate := He.free_ok X G (c.1.d.fact 13 (f := .free "enumerate") rfl)
  i_MOST_IN_LIST := He.int_ok X G (c.1.d.fact 14 (f := .int "MOST_IN_LIST" 8) rfl)
  i_MOST_IN_PROCEDURE := He.int_ok X G (c.1.d.fact 15 (f := .int "MOST_IN_PROCEDURE" 12) rfl)
  i_MOST_PROCEDURES := He.int_ok X G (c.1.d.fact 16 (f := .int "MOST_PROCEDURES" 3) rfl)
  xa_NoBook := Ln (IV c.2 3) (He.glo_ok X G (c.1.d.fact 17 (f := .glo "NoBook") rfl))
  fx_NoBook := c.1.d.def_ 0 (d := CZ) rfl
  c_Book := He.cls_ok (c.1.d.fact 18 (f := .cls "Book") rfl)
  a_Book_own := He.noat_ok (c.1.d.fact 19 (f := .noat "Book" "own") rfl)
  c_Execution := He.cls_ok (c.1.d.fact 20 (f := .cls "Execution") rfl)
  a_Execution_own := He.noat_ok (c.1.d.fact 21 (f := .noat "Execution" "own") rfl)
  a_Execution_bits := He.noat_ok (c.1.d.fact 22 (f := .noat "Execution" "bits") rfl)
  a_Execution_taken := He.noat_ok (c.1.d.fact 23 (f := .noat "Execution" "taken") rfl)
  a_Execution_deeds := He.noat_ok (c.1.d.fact 24 (f := .noat "Execution" "deeds") rfl)
  a_Execution_stack := He.noat_ok (c.1.d.fact 25 (f := .noat "Execution" "stack") rfl)
  a_Execution_active := He.noat_ok (c.1.d.fact 26 (f := .noat "Execution" "active") rfl)
  a_Execution_ended := He.noat_ok (c.1.d.fact 27 (f := .noat "Execution" "ended") rfl)
  xa_NoRun := Ln (IV c.2 4) (He.glo_ok X G (c.1.d.fact 28 (f := .glo "NoRun") rfl))
  fx_NoRun := c.1.d.def_ 1 (d := EA) rfl
  x_NoProcedure := Hg (IV c.2 5) (He.glo_ok X G (c.1.d.fact 29 (f := .glo "NoProcedure") rfl))
  T_Execution := ⟨He.cls_ok (c.1.d.fact 30 (f := .cls "Execution") rfl), He.mkr_ok (c.1.d.fact 31 (f := .mkr "Execution") rfl), He.glo_ok X G (c.1.d.fact 32 (f := .glo "Execution") rfl)⟩
  T_Book := ⟨He.cls_ok (c.1.d.fact 33 (f := .cls "Book") rfl), He.mkr_ok (c.1.d.fact 34 (f := .mkr "Book") rfl), He.glo_ok X G (c.1.d.fact 35 (f := .glo "Book") rfl)⟩
  n_min := He.free_ok X G (c.1.d.fact 36 (f := .free "min") rfl)
  ns := Sl (IV c.2 6)
  G_is_integer := He.glo_ok X G (c.1.d.fact 37 (f := .glo "is_integer") rfl)
  f_is_integer := c.1.d.def_ 2 (d := wV) rfl
  G_is_bit := He.glo_ok X G (c.1.d.fact 38 (f := .glo "is_bit") rfl)
  f_is_bit := c.1.d.def_ 3 (d := EC) rfl
  G_is_pen := He.glo_ok X G (c.1.d.fact 39 (f := .glo "is_pen") rfl)
  f_is_pen := c.1.d.def_ 4 (d := EB) rfl
  G_is_command := He.glo_ok X G (c.1.d.fact 40 (f := .glo "is_command") rfl)
  f_is_command := c.1.d.def_ 5 (d := wW) rfl
  G_executed := He.glo_ok X G (c.1.d.fact 41 (f := .glo "executed") rfl)
  f_executed := c.1.d.def_ 6 (d := Av) rfl
  G_check_pen := He.glo_ok X G (c.1.d.fact 42 (f := .glo "check_pen") rfl)
  f_check_pen := c.1.d.def_ 7 (d := zN) rfl
  G_moved := He.glo_ok X G (c.1.d.fact 43 (f := .glo "moved") rfl)
  f_moved := c.1.d.def_ 8 (d := HD) rfl
  G_blocks_of := He.glo_ok X G (c.1.d.fact 44 (f := .glo "blocks_of") rfl)
  f_blocks_of := c.1.d.def_ 9 (d := zO) rfl
  G_with_blocks := He.glo_ok X G (c.1.d.fact 45 (f := .glo "with_blocks") rfl)
  f_with_blocks := c.1.d.def_ 10 (d := vM) rfl
  G_copied_block := He.glo_ok X G (c.1.d.fact 46 (f := .glo "copied_block") rfl)
  f_copied_block := c.1.d.def_ 11 (d := uB) rfl
  G_copied_statement := He.glo_ok X G (c.1.d.fact 47 (f := .glo "copied_statement") rfl)
  f_copied_statement := c.1.d.def_ 12 (d := oD) rfl
  G_well_formed := He.glo_ok X G (c.1.d.fact 48 (f := .glo "well_formed") rfl)
  f_well_formed := c.1.d.def_ 13 (d := vN) rfl
  G_first_fault := He.glo_ok X G (c.1.d.fact 49 (f := .glo "first_fault") rfl)
  f_first_fault := c.1.d.def_ 14 (d := vP) rfl
  M_Book_init := He.meth_ok (c.1.d.fact 50 (f := .meth "Book" "__init__") rfl)
  f_Book_init := c.1.d.def_ 15 (d := zR) rfl
  M_Book_len := He.meth_ok (c.1.d.fact 51 (f := .meth "Book" "__len__") rfl)
  f_Book_len := c.1.d.def_ 16 (d := B3) rfl
  M_Book_bodies := He.meth_ok (c.1.d.fact 52 (f := .meth "Book" "bodies") rfl)
  f_Book_bodies := c.1.d.def_ 17 (d := vQ) rfl
  G_has_procedure := He.glo_ok X G (c.1.d.fact 53 (f := .glo "has_procedure") rfl)
  f_has_procedure := c.1.d.def_ 18 (d := rX) rfl
  M_Execution_init := He.meth_ok (c.1.d.fact 54 (f := .meth "Execution" "__init__") rfl)
  f_Execution_init := c.1.d.def_ 19 (d := qJ) rfl
  M_Execution_take := He.meth_ok (c.1.d.fact 55 (f := .meth "Execution" "take") rfl)
  f_Execution_take := c.1.d.def_ 20 (d := qH) rfl
  M_Execution_enter := He.meth_ok (c.1.d.fact 56 (f := .meth "Execution" "enter") rfl)
  f_Execution_enter := c.1.d.def_ 21 (d := pT) rfl
  M_Execution_leave := He.meth_ok (c.1.d.fact 57 (f := .meth "Execution" "leave") rfl)
  f_Execution_leave := c.1.d.def_ 22 (d := pS) rfl
  M_Execution_unwind := He.meth_ok (c.1.d.fact 58 (f := .meth "Execution" "unwind") rfl)
  f_Execution_unwind := c.1.d.def_ 23 (d := oE) rfl
  M_Execution_begin := He.meth_ok (c.1.d.fact 59 (f := .meth "Execution" "begin") rfl)
  f_Execution_begin := c.1.d.def_ 24 (d := pU) rfl
  M_Execution_step := He.meth_ok (c.1.d.fact 60 (f := .meth "Execution" "step") rfl)
  f_Execution_step := c.1.d.def_ 25 (d := qI) rfl
  G_executed_run := He.glo_ok X G (c.1.d.fact 61 (f := .glo "executed_run") rfl)
  f_executed_run := c.1.d.def_ 26 (d := uA) rfl
  G_pens_behind := He.glo_ok X G (c.1.d.fact 62 (f := .glo "pens_behind") rfl)
  f_pens_behind := c.1.d.def_ 27 (d := vO) rfl
  G_ran := He.glo_ok X G (c.1.d.fact 63 (f := .glo "ran") rfl)
  f_ran := c.1.d.def_ 28 (d := OE) rfl
  G_L_pool := He.glo_ok X G (c.1.d.fact 64 (f := .glo "_law_pool") rfl)
  f_L_pool := c.1.d.def_ 29 (d := EF) rfl
  G_L_draw := He.glo_ok X G (c.1.d.fact 65 (f := .glo "_law_draw") rfl)
  f_L_draw := c.1.d.def_ 30 (d := EI) rfl
  G_L_command := He.glo_ok X G (c.1.d.fact 66 (f := .glo "_law_command") rfl)
  f_L_command := c.1.d.def_ 31 (d := zQ) rfl
  G_L_pair := He.glo_ok X G (c.1.d.fact 67 (f := .glo "_law_pair") rfl)
  f_L_pair := c.1.d.def_ 32 (d := EG) rfl
  G_L_piece := He.glo_ok X G (c.1.d.fact 68 (f := .glo "_law_piece") rfl)
  f_L_piece := c.1.d.def_ 33 (d := Cc) rfl
  G_L_block := He.glo_ok X G (c.1.d.fact 69 (f := .glo "_law_block") rfl)
  f_L_block := c.1.d.def_ 34 (d := Cd) rfl
  G_L_around := He.glo_ok X G (c.1.d.fact 70 (f := .glo "_law_around") rfl)
  f_L_around := c.1.d.def_ 35 (d := B0) rfl
  G_L_body := He.glo_ok X G (c.1.d.fact 71 (f := .glo "_law_body") rfl)
  f_L_body := c.1.d.def_ 36 (d := EL) rfl
  G_L_book := He.glo_ok X G (c.1.d.fact 72 (f := .glo "_law_book") rfl)
  f_L_book := c.1.d.def_ 37 (d := EK) rfl
  G_L_number := He.glo_ok X G (c.1.d.fact 73 (f := .glo "_law_number") rfl)
  f_L_number := c.1.d.def_ 38 (d := Ax) rfl
  G_L_pen := He.glo_ok X G (c.1.d.fact 74 (f := .glo "_law_pen") rfl)
  f_L_pen := c.1.d.def_ 39 (d := HF) rfl
  G_L_bit := He.glo_ok X G (c.1.d.fact 75 (f := .glo "_law_bit") rfl)
  f_L_bit := c.1.d.def_ 40 (d := HG) rfl
  G_L_task := He.glo_ok X G (c.1.d.fact 76 (f := .glo "_law_task") rfl)
  f_L_task := c.1.d.def_ 41 (d := EE) rfl
  G_L_run := He.glo_ok X G (c.1.d.fact 77 (f := .glo "_law_run") rfl)
  f_L_run := c.1.d.def_ 42 (d := HE) rfl
  G_L_bits := He.glo_ok X G (c.1.d.fact 78 (f := .glo "_law_bits") rfl)
  f_L_bits := c.1.d.def_ 43 (d := EM) rfl
  G_L_blocks := He.glo_ok X G (c.1.d.fact 79 (f := .glo "_law_blocks") rfl)
  f_L_blocks := c.1.d.def_ 44 (d := Az) rfl
  G_L_with := He.glo_ok X G (c.1.d.fact 80 (f := .glo "_law_with") rfl)
  f_L_with := c.1.d.def_ 45 (d := ED) rfl
  G_L_copy := He.glo_ok X G (c.1.d.fact 81 (f := .glo "_law_copy") rfl)
  f_L_copy := c.1.d.def_ 46 (d := EJ) rfl
  G_L_copies := He.glo_ok X G (c.1.d.fact 82 (f := .glo "_law_copies") rfl)
  f_L_copies := c.1.d.def_ 47 (d := Ay) rfl
  G_L_steered := He.glo_ok X G (c.1.d.fact 83 (f := .glo "_law_steered") rfl)
  f_L_steered := c.1.d.def_ 48 (d := zP) rfl
  G_L_open := He.glo_ok X G (c.1.d.fact 84 (f := .glo "_law_open") rfl)
  f_L_open := c.1.d.def_ 49 (d := EH) rfl
  G_trace_T := He.glo_ok X G (c.1.d.fact 85 (f := .glo "trace") rfl)
  f_trace_T := c.1.d.def_ 50 (d := Ca) rfl
  G_law_k56 := He.glo_ok X G (c.1.d.fact 86 (f := .glo "law") rfl)
  f_law_k56 := c.1.d.def_ 51 (d := Cb) rfl
end PHZ
namespace PH
open PySem PySem.Spec PyProof.Rows L2
theorem atI0 {α : Type} {x : α} {r : List α} : atI (x :: r) 0 = some x := gV (n := 0) rfl
theorem atI1 {α : Type} {x y : α} {r : List α} : atI (x :: y :: r) 1 = some y := gV (n := 1) rfl
theorem atI2 {α : Type} {x y z : α} {r : List α} : atI (x :: y :: z :: r) 2 = some z := gV (n := 2) rfl
theorem atI3 {α : Type} {x y z w : α} {r : List α} : atI (x :: y :: z :: w :: r) 3 = some w := gV (n := 3) rfl
theorem cM {x : D} {r : List D} {S : aO} : bO (.dat (.tup (x :: r))) (.dat (.int 0)) S = .ok (.dat x) S := Gg atI0
theorem fZ {x y : D} {r : List D} {S : aO} : bO (.dat (.tup (x :: y :: r))) (.dat (.int 1)) S = .ok (.dat y) S := Gg atI1
theorem pW {x y z : D} {r : List D} {S : aO} : bO (.dat (.tup (x :: y :: z :: r))) (.dat (.int 2)) S = .ok (.dat z) S := Gg atI2
theorem Ks {x y z w : D} {r : List D} {S : aO} : bO (.dat (.tup (x :: y :: z :: w :: r))) (.dat (.int 3)) S = .ok (.dat w) S := Gg atI3
theorem BB {x : D} {r : List D} {S : aO} : bO (.dat (.lst (x :: r))) (.dat (.int 0)) S = .ok (.dat x) S := tV atI0
theorem GX {x y : D} {r : List D} {S : aO} : bO (.dat (.lst (x :: y :: r))) (.dat (.int 1)) S = .ok (.dat y) S := tV atI1
def PoolAt (S : aO) (p : Nat) (ks : List Int) : Prop := S[p]? = some (.lst (ks.map D.int)) /\ 2 <= ks.length
theorem NW {S : aO} {p : Nat} {ks : List Int} {k : Int} {n : Nat} {u : Int} (h : S[p]? = some (.lst (ks.map D.int))) (hk : k = (n : Int)) (hu : ks[n]? = some u) : NX (.cel p) k S = some (.int u) := by
 subst hk;simp only [NX, h];rw [if_pos (by omega)]
 simp [hu]
theorem Fg {S : aO} {p : Nat} {ks : List Int} {k : Int} {n : Nat} {u : Int} (h : S[p]? = some (.lst (ks.map D.int))) (hk : k = (n : Int)) (hu : n < ks.length) : setC (.cel p) k (.int u) S = some (S.set p (.lst ((ks.set n u).map D.int))) := by
 subst hk;simp only [setC, h];rw [if_pos ⟨by omega, by simpa using hu⟩]
 simp [List.map_set]
theorem A5 {g : Int -> Int -> Int} {o i e : FE} {ρ : Ev} {S : aO} {p n : Nat} {k u w : Int} {ks : List Int} (ho : o ρ S = .ok (.cel p) S) (hi : i ρ S = .ok (.dat (.int k)) S) (he : e ρ S = .ok (.dat (.int w)) S) (h : S[p]? = some (.lst (ks.map D.int))) (hk : k = (n : Int)) (hu : ks[n]? = some u) :
  kA g o i e ρ S = .next ρ (S.set p (.lst ((ks.set n (g u w)).map D.int))) := by
 simp only [kA, ho, hi, he, lN, NW h hk hu, Fg h hk (aH.mp hu).1]
theorem mZ {S : aO} {p : Nat} {ks : List Int} {k : Int} {n : Nat} {u : Int} (h : S[p]? = some (.lst (ks.map D.int))) (hk : k = (n : Int)) (hu : ks[n]? = some u) : bO (.cel p) (.dat (.int k)) S = .ok (.dat (.int u)) S :=
 Jc h (by rw [gV hk]; simp [hu])
theorem sL {S : aO} {p : Nat} {c d : Cell} (h : S[p]? = some c) : (S.set p d)[p]? = some d := by
 rw [aX, if_pos rfl, if_pos (aH.mp h).1]
theorem pw18 {S : aO} : LD (.dat (.int 10)) (.dat (.int 18)) S = .ok (.dat (.int 1000000000000000000)) S := rfl
theorem dw1 (a : Int) : IntMulOk 7919 a := mulL (by decide) (by decide)
theorem dw2 (a : Int) : IntMulOk a 48271 := mulR (by decide) (by decide)
theorem dw3 (a : Int) : CDiv a 1009 := ⟨by decide, by decide⟩
theorem dw4 (a : Int) : CDiv a 2003 := ⟨by decide, by decide⟩
theorem dw5 (a : Int) : CDiv a 11 := ⟨by decide, by decide⟩
theorem dw6 (a b : Int) : IntMulOk (a % 2147483647) b := by
 have h1 : 0 <= a % 2147483647 := dU _ (by decide)
 have h2 : a % 2147483647 < 2147483647 := dX _ (by decide)
 generalize a % 2147483647 = x at h1 h2;exact mulL (by omega) (by omega)
theorem dw7 : (0 : Int) < 2147483647 := by decide
theorem dw8 : (0 : Int) < 2147483399 := by decide
theorem dw9 {a k : Int} {ks : List Int} {S S1 : aO} {p : Nat} {u : Int} (h0 : 0 < k) (hS1 : S.set p (.lst ((ks.set 0 (u + 1)).map D.int)) = S1) : ∃ (d : Int) (ks' : List Int), cE (Out.ret (.dat (.int (a % k))) S1) = .ok (.dat (.int d)) (S.set p (.lst (ks'.map D.int))) /\ 0 <= d /\ d < k /\ ks'.length = ks.length :=
 ⟨a % k, ks.set 0 (u + 1), by rw [hS1]; rfl, dU _ (by omega), dX _ h0, by simp⟩
theorem fL {S : aO} {p : Nat} {ks : List Int} {k : Int} (hP : PoolAt S p ks) (h0 : 0 < k) (h1 : k < 1073741824) :
  ∃ (d : Int) (ks' : List Int), bY [.cel p, .dat (.int k)] S = .ok (.dat (.int d)) (S.set p (.lst (ks'.map D.int))) /\ 0 <= d /\ d < k /\ ks'.length = ks.length := by
 obtain ⟨hp, hl⟩ := hP;obtain ⟨u, hu⟩ : ∃ u, ks[0]? = some u := ⟨ks[0], by simp [show 0 < ks.length by omega]⟩
 have hp1 := sL (d := .lst ((ks.set 0 (u + 1)).map D.int)) hp;have hn : (1 : Int) + (u + 1) % ((ks.length : Int) - 1) = ((1 + ((u + 1) % ((ks.length : Int) - 1)).toNat : Nat) : Int) := by
  have := dU (u + 1) (show ((ks.length : Int) - 1) ≠ 0 by omega)
  omega
 have hlt : 1 + ((u + 1) % ((ks.length : Int) - 1)).toNat < ks.length := by
  have := dX (u + 1) (show 0 < ((ks.length : Int) - 1) by omega)
  have := dU (u + 1) (show ((ks.length : Int) - 1) ≠ 0 by omega)
  omega
 generalize hj : 1 + ((u + 1) % ((ks.length : Int) - 1)).toNat = j at hn hlt;obtain ⟨c, hc⟩ : ∃ c, (ks.set 0 (u + 1))[j]? = some c := ⟨(ks.set 0 (u + 1))[j]'(by simpa using hlt), by simp [hlt]⟩
 have h00 : (ks.set 0 (u + 1))[0]? = some (u + 1) := by
  rw [aX, if_pos rfl, if_pos (by omega)]
 have e1 : (kA (fun x y => x + y) (aC 0) (mC (.int 0)) (mC (.int 1))) [some (.cel p), some (.dat (.int k)), none, none, none] S = .next [some (.cel p), some (.dat (.int k)), none, none, none] (S.set p (.lst ((ks.set 0 (u + 1)).map D.int))) := A5 rfl rfl rfl hp rfl hu
 have eE : bY [.cel p, .dat (.int k)] S = cE (A0 [some (.cel p), some (.dat (.int k)), none, none, none] S) := rfl;rw [eE];unfold A0;generalize hS1 : S.set p (.lst ((ks.set 0 (u + 1)).map D.int)) = S1 at e1 hp1;simp! [e1, mZ (k := 0) (n := 0) hp1 rfl h00, nW hp1, aN, List.length_set, lO (show (0 : Int) < (ks.length : Int) - 1 by omega), hn, mZ hp1 rfl hc, pw18]
 by_cases hbig : (1000000000000000000 : Int) <= c
 ·rw [decide_eq_true hbig]
  simp! [if_true];have e2 : JJ (aP tZ (aC 3) (aC 1)) (aC 0) (aC 2) [some (.cel p), some (.dat (.int k)), some (.dat (.int (j : Int))), some (.dat (.int c)), none] S1 = .next [some (.cel p), some (.dat (.int k)), some (.dat (.int (j : Int))), some (.dat (.int c)), none] (S1.set p (.lst (((ks.set 0 (u + 1)).set j (c / k)).map D.int))) := by
   unfold JJ;simp! [BW (show CDiv c k from ⟨h0, h1⟩), Fg (u := c / k) hp1 (rfl : (j : Int) = (j : Int)) (by simpa using hlt)]
  simp! [e2, lO h0];refine ⟨c % k, (ks.set 0 (u + 1)).set j (c / k), ?_, dU c (by omega), dX c h0, by simp⟩
  rw [<- hS1, eI];rfl
 ·rw [decide_eq_false hbig]
  simp! [mZ (k := 0) (n := 0) hp1 rfl h00, pL (dw1 _), pL (dw2 _), lO dw7, lO dw8, BW (dw3 _), BW (dw4 _), BW (dw5 _), pL (dw6 _ _), lO h0];exact dw9 h0 hS1
inductive Cmd where
 | go (k : Int) | turn (n : Int) | mirror | scale (k : Int) | aim (a b : Int) | place (a b : Int) | mark | ret | exch
def Cmd.d : Cmd -> D
 | .go k => .tup [.str "go", .int k]
 | .turn k => .tup [.str "turn", .int k]
 | .mirror => .tup [.str "mirror"]
 | .scale k => .tup [.str "scale", .int k]
 | .aim a b => .tup [.str "aim", .int a, .int b]
 | .place a b => .tup [.str "place", .int a, .int b]
 | .mark => .tup [.str "mark"]
 | .ret => .tup [.str "return"]
 | .exch => .tup [.str "exchange"]
def Cmd.Ok : Cmd -> Prop
 | .go k => -9 <= k /\ k <= 9
 | .turn k => 1 <= k /\ k <= 3
 | .scale k => -3 <= k /\ k <= 3
 | .aim a b => (-9 <= a /\ a <= 9) /\ -9 <= b /\ b <= 9
 | .place a b => (-9 <= a /\ a <= 9) /\ -9 <= b /\ b <= 9
 | _ => True
abbrev PL (ks : List Int) : Cell := .lst (ks.map D.int)
theorem PoolAt.next {S : aO} {p : Nat} {ks ks' : List Int} (h : PoolAt S p ks) (l : ks'.length = ks.length) : PoolAt (S.set p (PL ks')) p ks' := ⟨sL h.1, by rw [l]; exact h.2⟩
inductive Stt where
 | cmd (c : Cmd) | fin (w : Int) | keep (b : List Stt) | again (b : List Stt) | either (a b : List Stt) | call (g : Int) (s : Bool) (a b : List Stt) | bad | odd (x : D)
mutual
def Stt.d : Stt -> D
 | .cmd c => c.d
 | .fin w => .tup [.str "end", .int w]
 | .keep b => .tup [.str "keep", .lst (bE b)]
 | .again b => .tup [.str "again", .lst (bE b)]
 | .either a b => .tup [.str "either", .lst (bE a), .lst (bE b)]
 | .call g s a b => .tup [.str "call", .int g, .bl s, .lst [.lst (bE a), .lst (bE b)]]
 | .bad => .tup [.str "bad"]
 | .odd x => x
def bE : List Stt -> List D
 | [] => []
 | s :: r => s.d :: bE r
end
mutual
/-- of a depth of n at most; calls of the first many -/
def Stt.Ok (many : Int) : Stt -> Nat -> Prop
 | .cmd c, _ => c.Ok
 | .fin w, _ => 0 <= w /\ w <= 1
 | .keep b, n => 0 < n /\ OkL many b (n - 1)
 | .again b, n => 0 < n /\ OkL many b (n - 1)
 | .either a b, n => 0 < n /\ OkL many a (n - 1) /\ OkL many b (n - 1)
 | .call g _ a b, n => (0 < n /\ 0 <= g /\ g < many) /\ OkL many a (n - 1) /\ OkL many b (n - 1)
 | .bad, _ => True
 | .odd _, _ => False
def OkL (many : Int) : List Stt -> Nat -> Prop
 | [], _ => True
 | s :: r, n => (s.Ok many n /\ r.length < 10) /\ OkL many r n
end
def WfNo (many : Int) (x : D) : Prop := ∀ (lv : Int) (S : aO), jY [.dat x, .dat (.int lv), .dat (.int many)] S = .ok (.dat (.bl false)) S
mutual
/-- the same; values that are no statements may stand in it -/
def Stt.Okx (many : Int) : Stt -> Nat -> Prop
 | .cmd c, _ => c.Ok
 | .fin w, _ => 0 <= w /\ w <= 1
 | .keep b, n => 0 < n /\ BC many b (n - 1)
 | .again b, n => 0 < n /\ BC many b (n - 1)
 | .either a b, n => 0 < n /\ BC many a (n - 1) /\ BC many b (n - 1)
 | .call g _ a b, n => (0 < n /\ 0 <= g /\ g < many) /\ BC many a (n - 1) /\ BC many b (n - 1)
 | .bad, _ => True
 | .odd x, _ => WfNo many x
def BC (many : Int) : List Stt -> Nat -> Prop
 | [], _ => True
 | s :: r, n => s.Okx many n /\ BC many r n
end
mutual
theorem Stt.Ok.x {many : Int} : ∀ {s : Stt} {n : Nat}, s.Ok many n -> s.Okx many n
 | .cmd c, _, h => h
 | .fin w, _, h => h
 | .keep b, n, h => ⟨h.1, OkL.x h.2⟩
 | .again b, n, h => ⟨h.1, OkL.x h.2⟩
 | .either a b, n, h => ⟨h.1, OkL.x h.2.1, OkL.x h.2.2⟩
 | .call g _ a b, n, h => ⟨h.1, OkL.x h.2.1, OkL.x h.2.2⟩
 | .bad, _, _ => trivial
 | .odd x, _, h => h.elim
theorem OkL.x {many : Int} : ∀ {l : List Stt} {n : Nat}, OkL many l n -> BC many l n
 | [], _, _ => trivial
 | s :: r, n, h => ⟨h.1.1.x, OkL.x h.2⟩
end
def Stt.isOdd : Stt -> Bool
 | .odd _ => true
 | _ => false
theorem Stt.Ok.no {many : Int} {s : Stt} {n : Nat} (h : s.Ok many n) : s.isOdd = false := by
 cases s <;> first | rfl | exact h.elim
theorem cV : ∀ l : List Stt, (bE l).length = l.length
 | [] => rfl
 | s :: r => by simp [bE, cV r]
theorem lW : ∀ l m : List Stt, bE (l ++ m) = bE l ++ bE m
 | [], m => rfl
 | s :: r, m => by simp [bE, lW r m]
theorem OkL.len {many : Int} : ∀ {l : List Stt} {n : Nat}, OkL many l n -> l.length <= 10
 | [], _, _ => by simp
 | s :: r, n, h => by have := h.1.2; simp; omega
def LS (S : aO) : Prop := ∀ c ∈ S, ∀ n, c.below n = true
theorem LS.app {S : aO} {ds : List D} (h : LS S) : LS (S ++ [.lst ds]) := fun c hc n => by
 rcases cL.mp hc with hc | hc
 ·exact h c hc n
 ·rw [bC.mp hc]; rfl
theorem LS.set {S : aO} {ds : List D} {k : Nat} (h : LS S) : LS (S.set k (.lst ds)) := fun c hc n => by
 rcases sF hc with hc | hc
 ·exact h c hc n
 ·rw [hc]; rfl
theorem LS.take {S : aO} {n m : Nat} (h : LS S) : ((S.take n).all fun c => c.below m) = true := cD.mpr fun c hc => h c (xU hc) m
theorem eD {i : Int} {S : aO} : eY [.dat (.int i)] S = .ok (.dat (.bl true)) S := by
 rw [show eY [.dat (.int i)] S = cE (oS [some (.dat (.int i))] S) from rfl]
 unfold oS;simp! [if_true];rfl
theorem Dl {i : Int} {S : aO} : vA [.dat (.int i)] S = .ok (.dat (.bl (decide (0 <= i) && decide (i <= 1)))) S := by
 rw [show vA [.dat (.int i)] S = cE (zW [some (.dat (.int i))] S) from rfl]
 unfold zW;simp! [eD]
 by_cases h : 0 <= i
 ·simp! [decide_eq_true h]; rfl
 ·simp! [decide_eq_false h]; rfl
theorem sX {S : aO} : Ab (.dat (.str "go")) S = .ok (.dat (.tup [.int 1, .int (-9), .int 9])) S := rfl
theorem tA {S : aO} : gF true (.dat (.str "go")) S = .ok (.dat (.bl false)) S := rfl
theorem lI {S : aO} : Ab (.dat (.str "turn")) S = .ok (.dat (.tup [.int 1, .int 1, .int 3])) S := rfl
theorem lL {S : aO} : gF true (.dat (.str "turn")) S = .ok (.dat (.bl false)) S := rfl
theorem hU {S : aO} : Ab (.dat (.str "mirror")) S = .ok (.dat (.tup [.int 0, .int 0, .int 0])) S := rfl
theorem hX {S : aO} : gF true (.dat (.str "mirror")) S = .ok (.dat (.bl false)) S := rfl
theorem jG {S : aO} : Ab (.dat (.str "scale")) S = .ok (.dat (.tup [.int 1, .int (-3), .int 3])) S := rfl
theorem jI {S : aO} : gF true (.dat (.str "scale")) S = .ok (.dat (.bl false)) S := rfl
theorem oM {S : aO} : Ab (.dat (.str "aim")) S = .ok (.dat (.tup [.int 2, .int (-9), .int 9])) S := rfl
theorem oO {S : aO} : gF true (.dat (.str "aim")) S = .ok (.dat (.bl false)) S := rfl
theorem jH {S : aO} : Ab (.dat (.str "place")) S = .ok (.dat (.tup [.int 2, .int (-9), .int 9])) S := rfl
theorem jJ {S : aO} : gF true (.dat (.str "place")) S = .ok (.dat (.bl false)) S := rfl
theorem lJ {S : aO} : Ab (.dat (.str "mark")) S = .ok (.dat (.tup [.int 0, .int 0, .int 0])) S := rfl
theorem lM {S : aO} : gF true (.dat (.str "mark")) S = .ok (.dat (.bl false)) S := rfl
theorem hI {S : aO} : Ab (.dat (.str "return")) S = .ok (.dat (.tup [.int 0, .int 0, .int 0])) S := rfl
theorem hW {S : aO} : gF true (.dat (.str "return")) S = .ok (.dat (.bl false)) S := rfl
theorem fC {S : aO} : Ab (.dat (.str "exchange")) S = .ok (.dat (.tup [.int 0, .int 0, .int 0])) S := rfl
theorem fD {S : aO} : gF true (.dat (.str "exchange")) S = .ok (.dat (.bl false)) S := rfl
theorem JW {S : aO} : gF true (.dat (.str "end")) S = .ok (.dat (.bl true)) S := rfl
theorem CN {S : aO} : gF true (.dat (.str "keep")) S = .ok (.dat (.bl true)) S := rfl
theorem AU {S : aO} : gF true (.dat (.str "again")) S = .ok (.dat (.bl true)) S := rfl
theorem tD {S : aO} : gF true (.dat (.str "either")) S = .ok (.dat (.bl true)) S := rfl
theorem zF {S : aO} : gF true (.dat (.str "call")) S = .ok (.dat (.bl true)) S := rfl
theorem Q5 {S : aO} : gF true (.dat (.str "bad")) S = .ok (.dat (.bl true)) S := rfl
theorem vR {x : D} {r : List D} : cutD (x :: r) (some 1) none = r := by
 unfold cutD;rw [HT.sIx_none, show ((1 : Int)) = ((1 : Nat) : Int) from rfl, HT.sIx_nat]
 simp
theorem all_nil {S : aO} : Gy (.dat (.lst [])) S = .ok (.dat (.bl true)) S := rfl
theorem HM {a : Bool} {S : aO} : Gy (.dat (.lst [.bl a])) S = .ok (.dat (.bl a)) S := by cases a <;> rfl
theorem HL {a b : Bool} {S : aO} : Gy (.dat (.lst [.bl a, .bl b])) S = .ok (.dat (.bl (a && b))) S := by cases a <;> cases b <;> rfl
theorem sz {n : Nat} (h : n <= 1000) : n <= sizeLine := by show n <= 16777216; omega
theorem Et {c : Cmd} {S : aO} (h : c.Ok) : eZ [.dat c.d] S = .ok (.dat (.bl true)) S := by
 rw [show eZ [.dat c.d] S = cE (jM [some (.dat c.d), none, none, none, none] S) from rfl]
 unfold jM lV;cases c with
 | go k =>
  obtain ⟨h1, h2⟩ := h;simp! [Cmd.d, cM, sX, tA, lI, lL, hU, hX, jG, jI, oM, oO, jH, jJ, lJ, lM, hI, hW, fC, fD, vR, xH, iZ, oG, eD, all_nil, HM, HL, decide_eq_true h1, decide_eq_true h2, sz];rfl
 | turn k =>
  obtain ⟨h1, h2⟩ := h;simp! [Cmd.d, cM, sX, tA, lI, lL, hU, hX, jG, jI, oM, oO, jH, jJ, lJ, lM, hI, hW, fC, fD, vR, xH, iZ, oG, eD, all_nil, HM, HL, decide_eq_true h1, decide_eq_true h2, sz];rfl
 | mirror => simp! [Cmd.d, cM, sX, tA, lI, lL, hU, hX, jG, jI, oM, oO, jH, jJ, lJ, lM, hI, hW, fC, fD, vR, xH, iZ, oG, eD, all_nil, sz]; rfl
 | scale k =>
  obtain ⟨h1, h2⟩ := h;simp! [Cmd.d, cM, sX, tA, lI, lL, hU, hX, jG, jI, oM, oO, jH, jJ, lJ, lM, hI, hW, fC, fD, vR, xH, iZ, oG, eD, all_nil, HM, HL, decide_eq_true h1, decide_eq_true h2, sz];rfl
 | aim a b =>
  obtain ⟨⟨h1, h2⟩, h3, h4⟩ := h;simp! [Cmd.d, cM, sX, tA, lI, lL, hU, hX, jG, jI, oM, oO, jH, jJ, lJ, lM, hI, hW, fC, fD, vR, xH, iZ, oG, eD, all_nil, HM, HL, decide_eq_true h1, decide_eq_true h2, decide_eq_true h3, decide_eq_true h4, sz];rfl
 | place a b =>
  obtain ⟨⟨h1, h2⟩, h3, h4⟩ := h;simp! [Cmd.d, cM, sX, tA, lI, lL, hU, hX, jG, jI, oM, oO, jH, jJ, lJ, lM, hI, hW, fC, fD, vR, xH, iZ, oG, eD, all_nil, HM, HL, decide_eq_true h1, decide_eq_true h2, decide_eq_true h3, decide_eq_true h4, sz];rfl
 | mark => simp! [Cmd.d, cM, sX, tA, lI, lL, hU, hX, jG, jI, oM, oO, jH, jJ, lJ, lM, hI, hW, fC, fD, vR, xH, iZ, oG, eD, all_nil, sz]; rfl
 | ret => simp! [Cmd.d, cM, sX, tA, lI, lL, hU, hX, jG, jI, oM, oO, jH, jJ, lJ, lM, hI, hW, fC, fD, vR, xH, iZ, oG, eD, all_nil, sz]; rfl
 | exch => simp! [Cmd.d, cM, sX, tA, lI, lL, hU, hX, jG, jI, oM, oO, jH, jJ, lJ, lM, hI, hW, fC, fD, vR, xH, iZ, oG, eD, all_nil, sz]; rfl
theorem iU {z : Str} {r : List D} {S : aO} (h : gF true (.dat (.str z)) S = .ok (.dat (.bl true)) S) : eZ [.dat (.tup (.str z :: r))] S = .ok (.dat (.bl false)) S := by
 rw [show eZ [.dat (.tup (.str z :: r))] S = cE (jM [some (.dat (.tup (.str z :: r))), none, none, none, none] S) from rfl]
 unfold jM lV;simp! [cM, h];rw [decide_eq_false (by simp; omega)]
 simp! [cM, h];rfl
def Stt.blocks : Stt -> List (List Stt)
 | .keep b => [b]
 | .again b => [b]
 | .either a b => [a, b]
 | .call _ _ a b => [a, b]
 | _ => []
def bls (bs : List (List Stt)) : List D := bs.map fun b => .lst (bE b)
theorem wD {s : Stt} {S : aO} (ho : s.isOdd = false) : kQ [.dat s.d] S = .ok (.dat (.lst (bls s.blocks))) S := by
 rw [show kQ [.dat s.d] S = cE (qM [some (.dat s.d), none] S) from rfl]
 unfold qM;cases s with
 | cmd c => cases c <;> (simp! [Stt.d, Cmd.d, cM]; rfl)
 | fin w => simp! [Stt.d, cM]; rfl
 | keep b => simp! [Stt.d, cM, fZ]; rfl
 | again b => simp! [Stt.d, cM, fZ]; rfl
 | either a b => simp! [Stt.d, cM, fZ, pW]; rfl
 | call g s a b => simp! [Stt.d, cM, fZ, pW, Ks]; rfl
 | bad => simp! [Stt.d, cM]; rfl
 | odd x => cases ho
theorem FW {s : Stt} {S : aO} (ho : s.isOdd = false) : mW [.dat s.d, .dat (.lst (bls s.blocks))] S = .ok (.dat s.d) S := by
 rw [show mW [.dat s.d, .dat (.lst (bls s.blocks))] S = cE (nA [some (.dat s.d), some (.dat (.lst (bls s.blocks))), none] S) from rfl]
 unfold nA;cases s with
 | cmd c => cases c <;> (simp! [Stt.d, Cmd.d, cM]; rfl)
 | fin w => simp! [Stt.d, cM]; rfl
 | keep b => simp! [Stt.d, Stt.blocks, bls, aM, bD, cM, BB]; rfl
 | again b => simp! [Stt.d, Stt.blocks, bls, aM, bD, cM, BB]; rfl
 | either a b => simp! [Stt.d, Stt.blocks, bls, aM, bD, cM, BB, GX]; rfl
 | call g s a b => simp! [Stt.d, Stt.blocks, bls, aM, bD, cM, fZ, pW]; rfl
 | bad => simp! [Stt.d, cM]; rfl
 | odd x => cases ho
def Stt.wf (lv : Int) : Stt -> Bool
 | .cmd _ => true
 | .fin _ => true
 | .bad => false
 | .odd _ => false
 | _ => !decide (lv = 3)
theorem isb {i : Int} (h : 0 <= i /\ i <= 1) : (decide (0 <= i) && decide (i <= 1)) = true := by simp [h.1, h.2]
theorem FX {s : Stt} {lv many : Int} {n : Nat} {S : aO} (h : s.Okx many n) : jY [.dat s.d, .dat (.int lv), .dat (.int many)] S = .ok (.dat (.bl (s.wf lv))) S := by
 by_cases ho : s.isOdd = true
 ·cases s <;> first | (cases ho; done) | exact h lv S
 rw [show jY [.dat s.d, .dat (.int lv), .dat (.int many)] S = cE (nC [some (.dat s.d), some (.dat (.int lv)), some (.dat (.int many)), none] S) from rfl]
 unfold nC;cases s with
 | cmd c => simp! [Stt.d, Et h]; rfl
 | fin w => simp! [Stt.d, iU JW, cM, fZ, Dl, isb h]; rfl
 | bad => simp! [Stt.d, iU Q5]; rfl
 | odd x => exact absurd rfl ho
 | keep b =>
  by_cases hl : lv = 3
  ·simp! [Stt.d, iU CN, cM, fZ, decide_eq_true hl]; simp [Stt.wf, hl]; rfl
  ·simp! [Stt.d, iU CN, cM, fZ, decide_eq_false hl]; simp [Stt.wf, hl]; rfl
 | again b =>
  by_cases hl : lv = 3
  ·simp! [Stt.d, iU AU, cM, fZ, decide_eq_true hl]; simp [Stt.wf, hl]; rfl
  ·simp! [Stt.d, iU AU, cM, fZ, decide_eq_false hl]; simp [Stt.wf, hl]; rfl
 | either a b =>
  by_cases hl : lv = 3
  ·simp! [Stt.d, iU tD, cM, fZ, pW, decide_eq_true hl]; simp [Stt.wf, hl]; rfl
  ·simp! [Stt.d, iU tD, cM, fZ, pW, decide_eq_false hl]; simp [Stt.wf, hl]; rfl
 | call g b a c =>
  obtain ⟨⟨_, h1, h2⟩, _⟩ := h
  by_cases hl : lv = 3
  ·simp! [Stt.d, iU zF, cM, fZ, pW, Ks, decide_eq_true hl]; simp [Stt.wf, hl]; rfl
  ·simp! [Stt.d, iU zF, cM, fZ, pW, Ks, decide_eq_false hl, eD, decide_eq_true h1, decide_eq_true h2, BB, GX]; simp [Stt.wf, hl]; rfl
inductive FR where
 | fault (p : List Int) (m : Int) | okk (m : Int)
abbrev tupI (p : List Int) : D := .tup (p.map D.int)
def FR.d : FR -> D
 | .fault p m => .tup [tupI p, .int m]
 | .okk m => .tup [.non, .int m]
def FR.then (r : FR) (k : Int -> FR) : FR := match r with
 | .fault p m => .fault p m
 | .okk m => k m
mutual
/-- what stands in the blocks of s, at the path here -/
def Dx (lv : Int) (here : List Int) : Stt -> Int -> FR
 | .keep b, met => wA (lv + 1) (here ++ [0]) 0 b met
 | .again b, met => wA (lv + 1) (here ++ [0]) 0 b met
 | .either a b, met => (wA (lv + 1) (here ++ [0]) 0 a met).then (wA (lv + 1) (here ++ [1]) 0 b)
 | .call _ _ a b, met => (wA (lv + 1) (here ++ [0]) 0 a met).then (wA (lv + 1) (here ++ [1]) 0 b)
 | _, met => .okk met
def wA (lv : Int) (path : List Int) (at_ : Int) : List Stt -> Int -> FR
 | [], met => .okk met
 | s :: r, met => if at_ = 8 \/ met = 12 \/ s.wf lv = false then .fault (path ++ [at_]) met else
  (Dx lv (path ++ [at_]) s (met + 1)).then (wA lv path (at_ + 1) r)
end
def FK (n : Nat) : Prop := ∀ {S : aO} {l : List Stt} {lv many met : Int} {path : List Int} {k : Nat}, BC many l k -> 0 <= lv -> lv <= 3 -> path.length <= 2 * lv.toNat -> 4 - lv.toNat <= n ->
 dH n [.dat (.lst (bE l)), .dat (.int lv), .dat (.int many), .dat (tupI path), .dat (.int met)] S = .ok (.dat (wA lv path 0 l met).d) S
theorem HS {cl : Bool} {p : List Int} {i : Int} {S : aO} (h : p.length <= 100) : dA cl (.dat (tupI p)) (.dat (.tup [.int i])) S = .ok (.dat (tupI (p ++ [i]))) S := by
 rw [O2 (sz (by simp; omega))]
 simp [tupI]
theorem FR.then_okk {m : Int} {k : Int -> FR} : (FR.okk m).then k = k m := rfl
theorem FR.then_fault {p : List Int} {m : Int} {k : Int -> FR} : (FR.fault p m).then k = .fault p m := rfl
theorem ff_in {n : Nat} (ih : FK n) {S : aO} {s : Stt} {lv many met : Int} {path : List Int} {k : Nat} {a b c : Option Vl} (h : s.Okx many k) (h0 : 0 <= lv) (h3 : lv < 3) (hp : path.length <= 2 * lv.toNat + 1) (hn : 4 - (lv + 1).toNat <= n) :
  loop (.tp [8, 9]) (fQ (dH n)) (eA 0 (bls s.blocks)) [a, some (.dat (.int lv)), some (.dat (.int many)), b, some (.dat (.int met)), c, some (.dat s.d), some (.dat (tupI path)), none, none, none] S =
   match Dx lv path s met with
   | .fault p m => .ret (.dat (.tup [tupI p, .int m])) S
   | .okk m => .next [a, some (.dat (.int lv)), some (.dat (.int many)), b, some (.dat (.int m)), c, some (.dat s.d), some (.dat (tupI path)), none, none, none] S := by
 have turn : ∀ {l : List Stt} {met : Int} {i : Int}, BC many l (k - 1) -> dH n [.dat (.lst (bE l)), .dat (.int (lv + 1)), .dat (.int many), .dat (tupI (path ++ [i])), .dat (.int met)] S = .ok (.dat (wA (lv + 1) (path ++ [i]) 0 l met).d) S := fun hl => ih hl (by omega) (by omega) (by simp; omega) hn
 have one : ∀ {l : List Stt} {r : List D} {met : Int} {i : Int}, BC many l (k - 1) -> loop (.tp [8, 9]) (fQ (dH n)) (.tup [.int i, .lst (bE l)] :: r) [a, some (.dat (.int lv)), some (.dat (.int many)), b, some (.dat (.int met)), c, some (.dat s.d), some (.dat (tupI path)), none, none, none] S =
   match wA (lv + 1) (path ++ [i]) 0 l met with
   | .fault p m => .ret (.dat (.tup [tupI p, .int m])) S
   | .okk m => loop (.tp [8, 9]) (fQ (dH n)) r [a, some (.dat (.int lv)), some (.dat (.int many)), b, some (.dat (.int m)), c, some (.dat s.d), some (.dat (tupI path)), none, none, none] S := fun {l r met i} hl => by
  have e := turn (met := met) (i := i) hl;rw [loop];simp only [oG, jW, aR, cY, if_true, bW, cK];rw [fQ];simp! [HS (show path.length <= 100 by omega), e]
  cases q : wA (lv + 1) (path ++ [i]) 0 l met with
  | fault p m => simp! [FR.d, Gj]
  | okk m => simp! [FR.d, Gj]
 cases s with
 | cmd c => simp only [Stt.blocks, bls, bD, eA, loop, Dx]
 | fin w => simp only [Stt.blocks, bls, bD, eA, loop, Dx]
 | bad => simp only [Stt.blocks, bls, bD, eA, loop, Dx]
 | odd w => simp only [Stt.blocks, bls, bD, eA, loop, Dx]
 | keep x =>
  simp only [Stt.blocks, bls, bD, aM, eA, Dx, qS, lR, zG];rw [one h.2];cases wA (lv + 1) (path ++ [0]) 0 x met <;> rfl
 | again x =>
  simp only [Stt.blocks, bls, bD, aM, eA, Dx, qS, lR, zG];rw [one h.2];cases wA (lv + 1) (path ++ [0]) 0 x met <;> rfl
 | either x y =>
  simp only [Stt.blocks, bls, bD, aM, eA, Dx, qS, lR, zG];rw [one h.2.1];cases wA (lv + 1) (path ++ [0]) 0 x met with
  | fault p m => rfl
  | okk m =>
   simp only [FR.then_okk];rw [one h.2.2];cases wA (lv + 1) (path ++ [1]) 0 y m <;> rfl
 | call g f x y =>
  simp only [Stt.blocks, bls, bD, aM, eA, Dx, qS, lR, zG];rw [one h.2.1];cases wA (lv + 1) (path ++ [0]) 0 x met with
  | fault p m => rfl
  | okk m =>
   simp only [FR.then_okk];rw [one h.2.2];cases wA (lv + 1) (path ++ [1]) 0 y m <;> rfl
theorem O6 {n : Nat} (ih : FK n) {S : aO} {lv many : Int} {path : List Int} {k : Nat} {a : Option Vl} (h0 : 0 <= lv) (h3 : lv <= 3) (hp : path.length <= 2 * lv.toNat) (hn : 4 - (lv + 1).toNat <= n) :
  ∀ (l : List Stt) (at_ : Nat) (met : Int), BC many l k -> loop (.tp [5, 6]) (kB (dH n)) (eA at_ (bE l)) [a, some (.dat (.int lv)), some (.dat (.int many)), some (.dat (tupI path)), some (.dat (.int met)), none, none, none, none, none, none] S =
   match wA lv path (at_ : Nat) l met with
   | .fault p m => .ret (.dat (.tup [tupI p, .int m])) S
   | .okk m => .next [a, some (.dat (.int lv)), some (.dat (.int many)), some (.dat (tupI path)), some (.dat (.int m)), none, none, none, none, none, none] S
 | [], at_, met, _ => rfl
 | s :: r, at_, met, h => by
  have rest := O6 ih (S := S) (many := many) (k := k) (a := a) h0 h3 hp hn r (at_ + 1);simp only [bE, eA];rw [loop];simp only [oG, jW, aR, cY, if_true, bW, cK];rw [kB];simp! [HS (show path.length <= 100 by omega)]
  by_cases h8 : ((at_ : Nat) : Int) = 8
  ·simp! [decide_eq_true h8]
   unfold wA;rw [if_pos (.inl h8)]
  ·simp! [decide_eq_false h8]
   by_cases hm : met = 12
   ·simp! [decide_eq_true hm]
    unfold wA;rw [if_pos (.inr (.inl hm))]
   ·simp! [decide_eq_false hm, FX h.1]
    cases hw : s.wf lv with
    | false =>
     simp! [if_true];unfold wA;rw [if_pos (.inr (.inr hw))]
    | true =>
     have hlv : Dx lv (path ++ [((at_ : Nat) : Int)]) s (met + 1) = .okk (met + 1) /\ s.blocks = [] \/ lv < 3 := by
      cases s with
      | cmd c => exact .inl ⟨rfl, rfl⟩
      | fin w => exact .inl ⟨rfl, rfl⟩
      | bad => cases hw
      | odd x => cases hw
      | keep b => refine .inr ?_; simp [Stt.wf] at hw; omega
      | again b => refine .inr ?_; simp [Stt.wf] at hw; omega
      | either a b => refine .inr ?_; simp [Stt.wf] at hw; omega
      | call g f a b => refine .inr ?_; simp [Stt.wf] at hw; omega
     have ea : ∀ x y z : Option Vl, Km (fun x y => x + y) 4 (mC (.int 1)) [a, some (.dat (.int lv)), some (.dat (.int many)), some (.dat (tupI path)), some (.dat (.int met)), x, y, z, none, none, none] S = .next [a, some (.dat (.int lv)), some (.dat (.int many)), some (.dat (tupI path)), some (.dat (.int (met + 1))), x, y, z, none, none, none] S := fun _ _ _ => rfl
     have e2 : wA lv path ((at_ : Nat) : Int) (s :: r) met = (Dx lv (path ++ [((at_ : Nat) : Int)]) s (met + 1)).then (wA lv path (((at_ + 1 : Nat) : Int)) r) := by
      rw [wA, if_neg (by rintro (h | h | h) <;> first | exact h8 h | exact hm h | (rw [hw] at h; cases h))]
      rfl
     rw [e2];have ho : s.isOdd = false := by cases s <;> first | rfl | (cases hw; done)
     simp! [ea, wD ho];rcases hlv with ⟨q1, q2⟩ | hlv
     ·rw [q1, q2]
      simp! [bls, bD, eA, loop, FR.then_okk];exact rest (met + 1) h.2
     ·rw [ff_in ih h.1 h0 hlv (by simp; omega) hn]
      cases q : Dx lv (path ++ [((at_ : Nat) : Int)]) s (met + 1) with
      | fault p m => simp! [FR.then_fault]
      | okk m =>
       simp! [FR.then_okk];exact rest m h.2
theorem O8 (n : Nat) : FK n := by
 induction n with
 | zero =>
  intro S l lv many met path k hl h0 h3 hp hn;omega
 | succ n ih =>
  intro S l lv many met path k hl h0 h3 hp hn;rw [show dH (n + 1) [.dat (.lst (bE l)), .dat (.int lv), .dat (.int many), .dat (tupI path), .dat (.int met)] S = cE (nE (dH n) [some (.dat (.lst (bE l))), some (.dat (.int lv)), some (.dat (.int many)), some (.dat (tupI path)), some (.dat (.int met)), none, none, none, none, none, none] S) from rfl]
  unfold nE;have e := O6 ih (S := S) (a := some (.dat (.lst (bE l)))) h0 h3 hp (by omega) l 0 met hl
  rw [lR] at e;simp! [e];cases q : wA lv path 0 l met with
  | fault p m => simp! [if_true]; rfl
  | okk m => simp! [if_true]; rfl
theorem zD {α : Type} {t : Tg} {e : FE} {ρ : Ev} {S : aO} {f g : α -> D} : ∀ {xs : List α}, (∀ x ∈ xs, ∃ ρ1, oG t (.dat (f x)) ρ = some ρ1 /\ e ρ1 S = .ok (.dat (g x)) S) -> iZ t fX e ρ (xs.map f) S = .ok (xs.map g) S
 | [], _ => rfl
 | x :: xs, h => by
  obtain ⟨ρ1, h1, h2⟩ := h x (aT ..);have ih := zD (xs := xs) fun y hy => h y (aJ _ hy)
  rw [aM, iZ];simp only [h1, Ja, h2, if_true, ih, aM]
theorem iO {α : Type} {cl : Bool} {t : Tg} {e : FE} {ρ : Ev} {S : aO} {f g : α -> D} {xs : List α} {vs : List Nat} (hl : xs.length <= sizeLine) (h : ∀ x ∈ xs, ∃ ρ1, oG t (.dat (f x)) (wipeE ρ vs) = some ρ1 /\ e ρ1 S = .ok (.dat (g x)) S) : xH cl t fX e ρ vs (xs.map f) S = newL cl (xs.map g) S := by
 unfold xH;rw [aN, if_pos hl, zD h]
theorem pR : ∀ l : List Stt, bE l = l.map Stt.d
 | [] => rfl
 | s :: r => by rw [bE, pR r]; rfl
theorem wC {many : Int} {s : Stt} {k : Nat} (h : s.Ok many k) : ∀ b ∈ s.blocks, 0 < k /\ OkL many b (k - 1) := by
 intro b hb;cases s with
 | cmd c => cases hb
 | fin w => cases hb
 | bad => cases hb
 | odd x => cases hb
 | keep x => simp [Stt.blocks] at hb; subst hb; exact h
 | again x => simp [Stt.blocks] at hb; subst hb; exact h
 | either x y => simp [Stt.blocks] at hb; rcases hb with rfl | rfl; exact ⟨h.1, h.2.1⟩; exact ⟨h.1, h.2.2⟩
 | call g f x y => simp [Stt.blocks] at hb; rcases hb with rfl | rfl; exact ⟨h.1.1, h.2.1⟩; exact ⟨h.1.1, h.2.2⟩
theorem OkL.mem {many : Int} : ∀ {l : List Stt} {k : Nat}, OkL many l k -> ∀ s ∈ l, s.Ok many k
 | [], _, _, s, hs => by cases hs
 | x :: r, k, h, s, hs => by
  rcases bM.mp hs with rfl | hs
  ·exact h.1.1
  ·exact OkL.mem h.2 s hs
theorem xN {s : Stt} : s.blocks.length <= 2 := by cases s <;> simp [Stt.blocks]
def Ub (n : Nat) : Prop := (∀ {S : aO} {many : Int} {s : Stt} {k : Nat}, s.Ok many k -> 2 * k + 1 <= n -> gZ n [.dat s.d] S = .ok (.dat s.d) S) /\ ∀ {S : aO} {many : Int} {l : List Stt} {k : Nat}, OkL many l k -> 2 * k + 2 <= n -> eO n [.dat (.lst (bE l))] S = .ok (.dat (.lst (bE l))) S
theorem R4 (n : Nat) : Ub n := by
 induction n with
 | zero => exact ⟨fun _ h => by omega, fun _ h => by omega⟩
 | succ n ih =>
  constructor
  ·intro S many s k h hn
   rw [show gZ (n + 1) [.dat s.d] S = cE (iA (eO n) [some (.dat s.d), none] S) from rfl]
   unfold iA;simp! [wD h.no];rw [show bls s.blocks = s.blocks.map (fun b => .lst (bE b)) from rfl, iO (g := fun b => .lst (bE b)) (sz (by have := xN (s := s); omega)) fun b hb => ⟨_, rfl, ?_⟩]
   ·simp! [show s.blocks.map (fun b => D.lst (bE b)) = bls s.blocks from rfl, FW h.no]
    rfl
   ·obtain ⟨h1, h2⟩ := wC h b hb
    simp! [ih.2 h2 (by omega)]
  ·intro S many l k h hn
   rw [show eO (n + 1) [.dat (.lst (bE l))] S = cE (lY (gZ n) [some (.dat (.lst (bE l))), none] S) from rfl]
   unfold lY;simp! [pR];rw [iO (g := Stt.d) (sz (by have := h.len; omega)) fun s hs => ⟨_, rfl, ?_⟩]
   ·rfl
   ·simp! [ih.1 (h.mem s hs) (by omega)]
theorem HU {s : Stt} {S : aO} (ho : s.isOdd = false) : pE [.dat s.d] S = .ok (.dat (.lst (bls s.blocks))) S := by
 rw [show pE [.dat s.d] S = cE (tK [some (.dat s.d), none] S) from rfl]
 unfold tK;cases s with
 | cmd c => cases c <;> (simp! [Stt.d, Cmd.d, cM, vR, xH, iZ, oG, sz]; rfl)
 | fin w => simp! [Stt.d, cM, vR, xH, iZ, oG, sz]; rfl
 | keep b => simp! [Stt.d, cM, vR, xH, iZ, oG, sz]; rfl
 | again b => simp! [Stt.d, cM, vR, xH, iZ, oG, sz]; rfl
 | either a b => simp! [Stt.d, cM, vR, xH, iZ, oG, sz]; rfl
 | call g s a b => simp! [Stt.d, cM, Ks]; rfl
 | bad => simp! [Stt.d, cM, vR, xH, iZ, oG, sz]; rfl
 | odd x => cases ho
theorem cut_3 {a b c d : D} : cutD [a, b, c, d] none (some 3) = [a, b, c] := rfl
theorem UX {s : Stt} {S : aO} (ho : s.isOdd = false) : iG [.dat s.d, .dat (.lst (bls s.blocks))] S = .ok (.dat s.d) S := by
 rw [show iG [.dat s.d, .dat (.lst (bls s.blocks))] S = cE (sA [some (.dat s.d), some (.dat (.lst (bls s.blocks)))] S) from rfl]
 unfold sA;cases s with
 | cmd c => cases c <;> (simp! [Stt.d, Cmd.d, Stt.blocks, bls, bD, cM]; rfl)
 | fin w => simp! [Stt.d, Stt.blocks, bls, bD, cM]; rfl
 | keep b => simp! [Stt.d, Stt.blocks, bls, aM, bD, cM]; rfl
 | again b => simp! [Stt.d, Stt.blocks, bls, aM, bD, cM]; rfl
 | either a b => simp! [Stt.d, Stt.blocks, bls, aM, bD, cM]; rfl
 | call g s a b => simp! [Stt.d, Stt.blocks, bls, aM, bD, cM, cut_3]; rfl
 | bad => simp! [Stt.d, Stt.blocks, bls, bD, cM]; rfl
 | odd x => cases ho
theorem UY {many : Int} (n : Nat) : ∀ {S : aO} {l : List Stt} {k : Nat}, OkL many l k -> k + 1 <= n -> rQ n [.dat (.lst (bE l))] S = .ok (.dat (.lst (bE l))) S := by
 induction n with
 | zero => intro S l k h hn; omega
 | succ n ih =>
  intro S l k h hn;rw [show rQ (n + 1) [.dat (.lst (bE l))] S = cE (A1 (rQ n) [some (.dat (.lst (bE l))), none, none] S) from rfl]
  unfold A1;simp! [pR];rw [iO (g := Stt.d) (sz (by have := h.len; omega)) fun s hs => ⟨_, rfl, ?_⟩]
  ·rfl
  ·unfold xK
   simp! [HU (h.mem s hs).no];rw [show bls s.blocks = s.blocks.map (fun b => .lst (bE b)) from rfl, iO (g := fun b => .lst (bE b)) (sz (by have := xN (s := s); omega)) fun b hb => ⟨_, rfl, ?_⟩]
   ·simp! [show s.blocks.map (fun b => D.lst (bE b)) = bls s.blocks from rfl, UX (h.mem s hs).no]
   ·obtain ⟨h1, h2⟩ := wC (h.mem s hs) b hb
    simp! [ih h2 (by omega)]
theorem Oc {many : Int} {bs : List (List Stt)} {S : aO} {k : Nat} (hb : ∀ b ∈ bs, OkL many b k) (hk : k <= 9) (hl : bs.length <= 10) : sV [.dat (.lst (bls bs))] S = .ok (.dat (.lst (bls bs))) S := by
 rw [show sV [.dat (.lst (bls bs))] S = cE (tJ [some (.dat (.lst (bls bs))), none] S) from rfl]
 unfold tJ;simp! [if_true];rw [show bls bs = bs.map (fun b => .lst (bE b)) from rfl, iO (g := fun b => .lst (bE b)) (sz (by omega)) fun b hb' => ⟨_, rfl, ?_⟩]
 ·rfl
 ·simp! [UY 10 (hb b hb') (by omega)]
def zT (p : Int) : List (List Stt) -> Option (Int × List Int)
 | [] => none
 | b :: r => match wA 0 [] 0 b 0 with
  | .fault q _ => some (p, q)
  | .okk _ => zT (p + 1) r
def Hs (i : Int) (q : List Int) : Er := ⟨"NoBook", ["path", "procedure"], [tupI q, .int i]⟩
theorem Dm {S : aO} {many : Int} {k : Nat} {a : Option Vl} {bs0 : List D} (hm : many = (bs0.length : Int)) : ∀ (bs : List (List Stt)) (p : Nat), (∀ b ∈ bs, OkL many b k) ->
  match zT (p : Nat) bs with
  | none => loop (.tp [2, 3]) dY (eA p (bls bs)) [a, some (.dat (.lst bs0)), none, none, none, none] S = .next [a, some (.dat (.lst bs0)), none, none, none, none] S
  | some (i, q) => ∃ ρ', loop (.tp [2, 3]) dY (eA p (bls bs)) [a, some (.dat (.lst bs0)), none, none, none, none] S = .err (Hs i q) ρ' S
 | [], p, _ => rfl
 | b :: r, p, h => by
  have ih := Dm (S := S) (k := k) (a := a) hm r (p + 1) fun b hb => h b (aJ _ hb)
  have hb := h b (aT ..);have e1 : dH 10 [.dat (.lst (bE b)), .dat (.int 0), .dat (.int (bs0.length : Int)), .dat (.tup []), .dat (.int 0)] S = .ok (.dat (wA 0 [] 0 b 0).d) S := by
   rw [<- hm];exact O8 10 (path := []) hb.x (by omega) (by omega) (by simp) (by simp)
  have el : loop (.tp [2, 3]) dY (eA p (bls (b :: r))) [a, some (.dat (.lst bs0)), none, none, none, none] S = (match dY [a, some (.dat (.lst bs0)), some (.dat (.int (p : Nat))), some (.dat (.lst (bE b))), none, none] S with
   | .next ρ2 S2 => loop (.tp [2, 3]) dY (eA (p + 1) (bls r)) ρ2 S2
   | .cnt ρ2 S2 => loop (.tp [2, 3]) dY (eA (p + 1) (bls r)) ρ2 S2
   | .brk ρ2 S2 => .next ρ2 S2
   | .ret d S2 => .ret d S2
   | .err e ρ2 S2 => .err e ρ2 S2
   | .stuck => .stuck) := rfl
  rw [el, dY];simp! [e1];rw [zT];cases q : wA 0 [] 0 b 0 with
  | fault pp mm =>
   simp! [FR.d, Gj];exact ⟨_, rfl⟩
  | okk mm =>
   simp! [FR.d, Gj];rw [<- dY];exact ih
def gB (bs : List (List Stt)) : D := .ins "Book" ["own"] [.lst (bls bs)]
theorem N2 {d : Vl} : ∀ {ρ : Ev} {i : Nat}, i < ρ.length -> lk (ρ.set i (some d)) i = some d
 | [], i, h => by simp at h
 | x :: r, 0, h => rfl
 | x :: r, i + 1, h => N2 (ρ := r) (by simpa using h)
theorem K3 {ρ : Ev} {i : Nat} : (wipeE ρ [i]).length = ρ.length := by simp [wipeE]
theorem wX {cl : Bool} {S : aO} {many : Int} {k i : Nat} {bs : List (List Stt)} {ρ : Ev} (hb : ∀ b ∈ bs, OkL many b k) (hk : k <= 9) (hl : bs.length <= 10) (h : i < ρ.length) : xH cl (.nm i) fX (aY (eO 20) (aB (aC i) aK)) ρ [i] (bls bs) S = newL cl (bls bs) S := by
 rw [show bls bs = bs.map (fun b => .lst (bE b)) from rfl, iO (g := fun b => .lst (bE b)) (sz (by omega)) fun b hb' => ?_]
 have e2 := N2 (d := .dat (.lst (bE b))) (ρ := wipeE ρ [i]) (i := i) (by rw [K3]; exact h)
 refine ⟨(wipeE ρ [i]).set i (some (.dat (.lst (bE b)))), rfl, ?_⟩
 simp (config := { implicitDefEqProofs := false }) only [IQ, IP, Rr, e2, eF, Ex, Nc, Ew];exact (R4 20).2 (hb b hb') (by omega)
theorem Q6 {S : aO} {many : Int} {k n : Nat} {bs : List (List Stt)} (hb : ∀ b ∈ bs, OkL many b k) (hk : k <= 9) (hm : many = (bs.length : Int)) (h1 : 1 <= bs.length) (h3 : bs.length <= 3) (hn : S[n]? = some (.ins "Book" [])) :
  kT [.cel n, .dat (.lst (bls bs))] S = match zT 0 bs with
   | none => .ok (.dat .non) (S.set n (.ins "Book" [("own", .dat (.lst (bls bs)))]))
   | some (i, q) => .err (Hs i q) S := by
 rw [show kT [.cel n, .dat (.lst (bls bs))] S = cE (qP [some (.cel n), some (.dat (.lst (bls bs))), none, none, none, none] S) from rfl]
 unfold qP;have hl : (bls bs).length = bs.length := by simp [bls]
 have e := Dm (S := S) (a := some (.cel n)) (bs0 := bls bs) (by rw [hl]; exact hm) bs 0 hb
 rw [lR] at e;simp! [hl, decide_eq_true (show (1 : Int) <= (bs.length : Int) by omega), decide_eq_true (show (bs.length : Int) <= 3 by omega)]
 cases q : zT 0 bs with
 | none =>
  rw [q] at e;simp! [e, wX hb hk (show bs.length <= 10 by omega), CP hn (by simp)]
  rfl
 | some x =>
  obtain ⟨i, p⟩ := x;rw [q] at e;obtain ⟨ρ', e⟩ := e;simp! [e];rfl
theorem N4 {S : aO} {bs : List (List Stt)} (hl : bs.length <= 10) : E5 "Book" pF (.dat (gB bs)) S = .ok (.dat (.int (bs.length : Int))) S := by
 have e : pF [.dat (gB bs)] S = .ok (.dat (.int (bs.length : Int))) S := by
  rw [show pF [.dat (gB bs)] S = cE (tM [some (.dat (gB bs))] S) from rfl]
  unfold tM gB;simp! [rJ, eP];simp [bls];rfl
 rw [E5, if_pos (by simp [pJ, gB, EW]), e, T7, if_pos (by omega)]
theorem LV {S : aO} {many : Int} {k : Nat} {bs : List (List Stt)} (hb : ∀ b ∈ bs, OkL many b k) (hk : k <= 9) (hl : bs.length <= 10) : mX [.dat (gB bs)] S = .ok (.dat (.lst (bls bs))) S := by
 rw [show mX [.dat (gB bs)] S = cE (nF [some (.dat (gB bs)), none] S) from rfl]
 unfold nF gB;simp! [rJ, eP, wX hb hk hl];rfl
theorem Pq {S : aO} {many : Int} {k : Nat} {bs : List (List Stt)} (ls : LS S) (hb : ∀ b ∈ bs, OkL many b k) (hk : k <= 9) (hm : many = (bs.length : Int)) (h1 : 1 <= bs.length) (h3 : bs.length <= 3) :
  Dk false "Book" kT [.dat (.lst (bls bs))] S = match zT 0 bs with
   | none => .ok (.dat (gB bs)) S
   | some (i, q) => .err (Hs i q) S := by
 have t : ((S ++ [Cell.ins "Book" []]).take S.length) = S := by simp
 have ls' := ls.take (n := S.length) (m := S.length);rw [List.take_length] at ls';unfold Dk;rw [Q6 hb hk hm h1 h3 (by simp)]
 cases q : zT 0 bs with
 | none =>
  dsimp only [made];rw [dE _ _ (bV _), Nat.sub_self];simp [ER, gB, ls']
 | some x =>
  obtain ⟨i, p⟩ := x;dsimp only [made];rw [t, if_pos ls']
end PH
namespace PH
open PySem PySem.Spec PyProof PyProof.Rows L2
mutual
/-- the height -/
def D.ht : D -> Nat
 | .lst xs => D.hts xs + 1
 | .tup xs => D.hts xs + 1
 | _ => 0
def D.hts : List D -> Nat
 | [] => 0
 | x :: r => max (D.ht x) (D.hts r)
end
mutual
/-- no instances, no dicts; texts that may be compared -/
def D.Pl : D -> Prop
 | .lst xs => xs.length <= 1000 /\ D.Pls xs
 | .tup xs => xs.length <= 1000 /\ D.Pls xs
 | .str x => PyData.strOk x = true
 | .ins _ _ _ => False
 | .dct => False
 | .opq _ => False
 | _ => True
def D.Pls : List D -> Prop
 | [] => True
 | x :: r => D.Pl x /\ D.Pls r
end
mutual
theorem JB : ∀ d : D, d.Pl -> ∃ p, d.py = some p /\ p.canLay0 = true /\ p.depth = d.ht
 | .non, _ => ⟨_, rfl, rfl, rfl⟩
 | .bl b, _ => ⟨_, rfl, rfl, rfl⟩
 | .int i, _ => ⟨_, rfl, rfl, rfl⟩
 | .str x, h => ⟨_, rfl, h, rfl⟩
 | .lst xs, h => by
  obtain ⟨ps, e1, e2, e3⟩ := Hn xs h.2;refine ⟨.list ps, ?_, e2, ?_⟩
  ·simp only [D.py, e1]
  ·simp only [PyData.depth, D.ht, e3]
 | .tup xs, h => by
  obtain ⟨ps, e1, e2, e3⟩ := Hn xs h.2;refine ⟨.tuple ps, ?_, e2, ?_⟩
  ·simp only [D.py, e1]
  ·simp only [PyData.depth, D.ht, e3]
 | .ins _ _ _, h => h.elim
 | .dct, h => h.elim
 | .opq _, h => h.elim
theorem Hn : ∀ ds : List D, D.Pls ds -> ∃ ps, D.pys ds = some ps /\ PyData.canLayAll0 ps = true /\ PyData.depthAll ps = D.hts ds
 | [], _ => ⟨_, rfl, rfl, rfl⟩
 | d :: r, h => by
  obtain ⟨p, e1, e2, e3⟩ := JB d h.1;obtain ⟨ps, f1, f2, f3⟩ := Hn r h.2;refine ⟨p :: ps, ?_, ?_, ?_⟩
  ·simp only [D.pys, e1, f1]
  ·simp only [PyData.canLayAll0, e2, f2, Ha]
  ·simp only [PyData.depthAll, D.hts, e3, f3]
end
theorem Kc {d : D} {p : PyData} (h : d.Pl) (hd : d.ht <= 64) (e : d.py = some p) : SeqAt.shaped p = true := by
 obtain ⟨p', e1, e2, e3⟩ := JB d h;rw [e] at e1;cases e1;unfold SeqAt.shaped;rw [e2, e3, decide_eq_true hd];rfl
theorem fEq_tup {xs ys : List D} {S : aO} : fF (.dat (.tup xs)) (.dat (.tup ys)) S = (match D.py (.tup xs), D.py (.tup ys) with
  | some p, some q => if RU p q = true then .ok (.dat (.bl (PyData.eqv p q))) S else .stuck
  | _, _ => .stuck) := rfl
theorem Qp {xs ys : List D} {S : aO} : FN (.dat (.tup xs)) (.dat (.tup ys)) S = (match D.py (.tup xs), D.py (.tup ys) with
  | some p, some q => if RU p q = true then .ok (.dat (.bl (!PyData.eqv p q))) S else .stuck
  | _, _ => .stuck) := rfl
mutual
theorem Stt.plain {many : Int} : ∀ (s : Stt) (k : Nat), s.Ok many k -> s.d.Pl /\ s.d.ht <= 3 * k + 1
 | .cmd c, k, h => by cases c <;> exact ⟨⟨by simp, by simp only [D.Pl, D.Pls, and_true]; decide +kernel⟩, by simp [Stt.d, Cmd.d, D.ht, D.hts]⟩
 | .fin w, k, h => ⟨⟨by simp, by simp only [D.Pl, D.Pls, and_true]; decide +kernel⟩, by simp [Stt.d, D.ht, D.hts]⟩
 | .bad, k, h => ⟨⟨by simp, by simp only [D.Pl, D.Pls, and_true]; decide +kernel⟩, by simp [Stt.d, D.ht, D.hts]⟩
 | .odd x, k, h => h.elim
 | .keep b, k, h => by
  obtain ⟨h1, h2⟩ := jC b (k - 1) h.2;have l1 := h.2.len;have := h.1;exact ⟨⟨by simp, by show PyData.strOk _ = true; decide +kernel, ⟨by rw [cV]; omega, h1⟩, trivial⟩, by simp [Stt.d, D.ht, D.hts]; omega⟩
 | .again b, k, h => by
  obtain ⟨h1, h2⟩ := jC b (k - 1) h.2;have l1 := h.2.len;have := h.1;exact ⟨⟨by simp, by show PyData.strOk _ = true; decide +kernel, ⟨by rw [cV]; omega, h1⟩, trivial⟩, by simp [Stt.d, D.ht, D.hts]; omega⟩
 | .either a b, k, h => by
  obtain ⟨h1, h2⟩ := jC a (k - 1) h.2.1;obtain ⟨h3, h4⟩ := jC b (k - 1) h.2.2;have l1 := h.2.1.len;have l2 := h.2.2.len;have := h.1;exact ⟨⟨by simp, by show PyData.strOk _ = true; decide +kernel, ⟨by rw [cV]; omega, h1⟩, ⟨by rw [cV]; omega, h3⟩, trivial⟩, by simp [Stt.d, D.ht, D.hts]; omega⟩
 | .call g f a b, k, h => by
  obtain ⟨h1, h2⟩ := jC a (k - 1) h.2.1;obtain ⟨h3, h4⟩ := jC b (k - 1) h.2.2;have l1 := h.2.1.len;have l2 := h.2.2.len;have := h.1.1;exact ⟨⟨by simp, by show PyData.strOk _ = true; decide +kernel, trivial, trivial, ⟨by simp, ⟨by rw [cV]; omega, h1⟩, ⟨by rw [cV]; omega, h3⟩, trivial⟩, trivial⟩, by simp [Stt.d, D.ht, D.hts]; omega⟩
theorem jC {many : Int} : ∀ (l : List Stt) (k : Nat), OkL many l k -> D.Pls (bE l) /\ D.hts (bE l) <= 3 * k + 1
 | [], k, _ => ⟨trivial, by simp [bE, D.hts]⟩
 | s :: r, k, h => by
  obtain ⟨h1, h2⟩ := Stt.plain s k h.1.1;obtain ⟨h3, h4⟩ := jC r k h.2;exact ⟨⟨h1, h3⟩, by simp [bE, D.hts]; omega⟩
end
theorem lC {lo : Int} {n : Nat} : gH lo (n + 1) = .int lo :: gH (lo + 1) n := by
 unfold gH;rw [List.range_succ_eq_map, aM, gJ]
 congr 1
 ·simp
 ·apply gX
  intro k _;simp only [Function.comp]
  congr 1
  omega
abbrev rm (S : aO) (q : Nat) (m : Int) : aO := S.set q (.lst [.int m])
theorem wB {bs : List (List Stt)} : (bls bs).length = bs.length := by simp [bls]
theorem OJ {ns : List Int} {lo hi : Option Int} : ∃ ms : List Int, cutD (ns.map D.int) lo hi = ms.map D.int /\ ms.length <= ns.length := by
 refine ⟨(ns.drop (HT.sIx (ns.map D.int).length 0 lo)).take (HT.sIx (ns.map D.int).length (ns.map D.int).length hi - HT.sIx (ns.map D.int).length 0 lo), ?_, ?_⟩
 ·simp only [cutD, Hb, List.map_drop]
 ·simp; omega
theorem Pb {ns : List Int} {S : aO} (hn : ns.length <= 63) : ∃ ks : List Int, yT [.scr ns] S = .ok (.cel S.length) (S ++ [PL ks]) /\ 2 <= ks.length := by
 obtain ⟨ms, e, hl⟩ := OJ (ns := ns) (lo := none) (hi := some 63);rw [show yT [.scr ns] S = cE (zX [some (.scr ns), none] S) from rfl]
 unfold zX;simp! [e];rw [iO (g := D.int) (sz (by omega)) fun i hi => ⟨_, rfl, ?_⟩]
 ·cases ms with
  | nil =>
   refine ⟨[0, 0], ?_, by simp⟩
   simp! [bD, List.isEmpty_nil, gE (show [D.int 0].length + [D.int 0].length <= sizeLine from sz (by simp))]
   rfl
  | cons i r =>
   refine ⟨0 :: i :: r, ?_, by simp⟩
   simp! [aM, List.isEmpty_cons, gE (show [D.int 0].length + (D.int i :: r.map D.int).length <= sizeLine from sz (by simp at *; omega))]
   rfl
 ·simp! [if_true]
theorem SI {T : aO} {d : D} : trunc 0 (.ok (.dat d) T) = .ok (.dat d) [] := by simp [trunc, Vl.below]
structure Dr (p q c N : Nat) (many : Int) (S : aO) (r l : Int) : Prop where
 ls : LS S
 n2 : 2 <= N
 pool : ∃ ks, S[p]? = some (PL ks) /\ ks.length = N
 room : S[q]? = some (PL [r])
 call : S[c]? = some (PL [l, many])
 pq : p ≠ q
 pc : p ≠ c
 qc : q ≠ c
def Sam (Z : List Nat) (S S' : aO) : Prop := S'.length = S.length /\ ∀ i : Nat, i ∉ Z -> S'[i]? = S[i]?
theorem Sam.refl {Z : List Nat} {S : aO} : Sam Z S S := ⟨rfl, fun _ _ => rfl⟩
theorem Sam.trans {Z : List Nat} {S S1 S2 : aO} (a : Sam Z S S1) (b : Sam Z S1 S2) : Sam Z S S2 := ⟨by rw [b.1, a.1], fun i h => by rw [b.2 i h, a.2 i h]⟩
theorem Sam.set {Z : List Nat} {S : aO} {k : Nat} {x : Cell} (h : k ∈ Z) : Sam Z S (S.set k x) := ⟨by simp, fun i hi => by
 rw [aX, if_neg (show ¬ k = i from fun e => hi (by rw [<- e]; exact h))]⟩
section
variable {p q c N : Nat} {many r l : Int} {S : aO}
theorem mO {S : aO} {i j : Nat} {x : Cell} (h : i ≠ j) : (S.set i x)[j]? = S[j]? := by rw [aX, if_neg h]
theorem Dr.setp {ks : List Int} (D : Dr p q c N many S r l) (h : ks.length = N) : Dr p q c N many (S.set p (PL ks)) r l := by
 obtain ⟨k0, h0, _⟩ := D.pool;exact ⟨D.ls.set, D.n2, ⟨ks, sL h0, h⟩, by rw [mO D.pq]; exact D.room, by rw [mO D.pc]; exact D.call, D.pq, D.pc, D.qc⟩
theorem Dr.setq {r' : Int} (D : Dr p q c N many S r l) : Dr p q c N many (S.set q (PL [r'])) r' l := by
 obtain ⟨k0, h0, h1⟩ := D.pool;exact ⟨D.ls.set, D.n2, ⟨k0, by rw [mO (Ne.symm D.pq)]; exact h0, h1⟩, sL D.room, by rw [mO D.qc]; exact D.call, D.pq, D.pc, D.qc⟩
theorem Dr.setc {l' : Int} (D : Dr p q c N many S r l) : Dr p q c N many (S.set c (PL [l', many])) r l' := by
 obtain ⟨k0, h0, h1⟩ := D.pool;exact ⟨D.ls.set, D.n2, ⟨k0, by rw [mO (Ne.symm D.pc)]; exact h0, h1⟩, by rw [mO (Ne.symm D.qc)]; exact D.room, sL D.call, D.pq, D.pc, D.qc⟩
theorem Dr.draw {k : Int} (D : Dr p q c N many S r l) (h0 : 0 < k) (h1 : k < 1073741824) : ∃ (d : Int) (S' : aO), bY [.cel p, .dat (.int k)] S = .ok (.dat (.int d)) S' /\ 0 <= d /\ d < k /\ Dr p q c N many S' r l /\ Sam [p, q, c] S S' := by
 obtain ⟨ks, hk, hl⟩ := D.pool;obtain ⟨d, ks', e, h2, h3, l⟩ := fL (S := S) (p := p) (ks := ks) ⟨hk, by rw [hl]; exact D.n2⟩ h0 h1
 exact ⟨d, _, e, h2, h3, D.setp (by omega), Sam.set (by simp)⟩
theorem Dr.ixq (D : Dr p q c N many S r l) : bO (.cel q) (.dat (.int 0)) S = .ok (.dat (.int r)) S := mZ (k := 0) (n := 0) D.room rfl rfl
theorem Dr.ixc0 (D : Dr p q c N many S r l) : bO (.cel c) (.dat (.int 0)) S = .ok (.dat (.int l)) S := mZ (k := 0) (n := 0) D.call rfl rfl
theorem Dr.ixc1 (D : Dr p q c N many S r l) : bO (.cel c) (.dat (.int 1)) S = .ok (.dat (.int many)) S := mZ (k := 1) (n := 1) D.call rfl rfl
theorem Dr.augq {w : Int} {g : Int -> Int -> Int} {o i e : FE} {ρ : Ev} (D : Dr p q c N many S r l) (ho : o ρ S = .ok (.cel q) S) (hi : i ρ S = .ok (.dat (.int 0)) S) (he : e ρ S = .ok (.dat (.int w)) S) : kA g o i e ρ S = .next ρ (S.set q (PL [g r w])) := A5 (k := 0) (n := 0) ho hi he D.room rfl rfl
theorem Dr.augc {w : Int} {g : Int -> Int -> Int} {o i e : FE} {ρ : Ev} (D : Dr p q c N many S r l) (ho : o ρ S = .ok (.cel c) S) (hi : i ρ S = .ok (.dat (.int 0)) S) (he : e ρ S = .ok (.dat (.int w)) S) : kA g o i e ρ S = .next ρ (S.set c (PL [g l w, many])) := A5 (k := 0) (n := 0) ho hi he D.call rfl rfl
end
section
variable {S : aO} {cl : Bool} {a b c d e f g h i j : D}
theorem kLst4 : Cu cl [.dat a, .dat b, .dat c, .dat d] S = newL cl [a, b, c, d] S := rfl
theorem kLst5 : Cu cl [.dat a, .dat b, .dat c, .dat d, .dat e] S = newL cl [a, b, c, d, e] S := rfl
theorem kLst9 : Cu cl [.dat a, .dat b, .dat c, .dat d, .dat e, .dat f, .dat g, .dat h, .dat i] S = newL cl [a, b, c, d, e, f, g, h, i] S := rfl
theorem kTup8 : kTup [.dat a, .dat b, .dat c, .dat d, .dat e, .dat f, .dat g, .dat h] S = .ok (.dat (.tup [a, b, c, d, e, f, g, h])) S := rfl
end
def menus : List (List Int) := [[0, 0, 0, 1, 1], [0, 0, 2, 3, 1], [0, 6, 7, 8, 8], [0, 4, 5, 6, 7], [0, 1, 3, 6, 8], [0, 1, 2, 3, 4, 5, 6, 7, 8], [1, 1, 2, 3, 4], [5, 6, 7, 8, 8]]
def Mw : List D := menus.map fun ks => .lst (ks.map D.int)
theorem Po {mood : Int} {S : aO} (h0 : 0 <= mood) (h1 : mood <= 7) : ∃ ks : List Int, bO (.dat (.lst Mw)) (.dat (.int mood)) S = .ok (.dat (.lst (ks.map D.int))) S /\ 0 < ks.length /\ ks.length <= 9 /\ ∀ k ∈ ks, 0 <= k /\ k <= 8 := by
 rcases (by omega : mood = 0 \/ mood = 1 \/ mood = 2 \/ mood = 3 \/ mood = 4 \/ mood = 5 \/ mood = 6 \/ mood = 7) with rfl | rfl | rfl | rfl | rfl | rfl | rfl | rfl
 ·exact ⟨[0, 0, 0, 1, 1], rfl, by decide, by decide, by decide⟩
 ·exact ⟨[0, 0, 2, 3, 1], rfl, by decide, by decide, by decide⟩
 ·exact ⟨[0, 6, 7, 8, 8], rfl, by decide, by decide, by decide⟩
 ·exact ⟨[0, 4, 5, 6, 7], rfl, by decide, by decide, by decide⟩
 ·exact ⟨[0, 1, 3, 6, 8], rfl, by decide, by decide, by decide⟩
 ·exact ⟨[0, 1, 2, 3, 4, 5, 6, 7, 8], rfl, by decide, by decide, by decide⟩
 ·exact ⟨[1, 1, 2, 3, 4], rfl, by decide, by decide, by decide⟩
 ·exact ⟨[5, 6, 7, 8, 8], rfl, by decide, by decide, by decide⟩
theorem Q0 {ks : List Int} {d : Int} {S : aO} (h0 : 0 <= d) (h1 : d < (ks.length : Int)) : ∃ k ∈ ks, bO (.dat (.lst (ks.map D.int))) (.dat (.int d)) S = .ok (.dat (.int k)) S := by
 have hd : d.toNat < ks.length := by omega
 refine ⟨ks[d.toNat], uE hd, tV ?_⟩
 rw [gV (n := d.toNat) (by omega)]
 simp [hd]
theorem NM {d : Int} {S : aO} (h0 : 0 <= d) (h1 : d < 8) : ∃ k : Int, bO (.dat (.tup [.int (-1), .int (-1), .int (-1), .int 1, .int 1, .int 0, .int 2, .int (-3)])) (.dat (.int d)) S = .ok (.dat (.int k)) S /\ -3 <= k /\ k <= 3 := by
 rcases (by omega : d = 0 \/ d = 1 \/ d = 2 \/ d = 3 \/ d = 4 \/ d = 5 \/ d = 6 \/ d = 7) with rfl | rfl | rfl | rfl | rfl | rfl | rfl | rfl
 ·exact ⟨-1, rfl, by decide, by decide⟩
 ·exact ⟨-1, rfl, by decide, by decide⟩
 ·exact ⟨-1, rfl, by decide, by decide⟩
 ·exact ⟨1, rfl, by decide, by decide⟩
 ·exact ⟨1, rfl, by decide, by decide⟩
 ·exact ⟨0, rfl, by decide, by decide⟩
 ·exact ⟨2, rfl, by decide, by decide⟩
 ·exact ⟨-3, rfl, by decide, by decide⟩
theorem TN {d a : Int} {S : aO} (h0 : 0 <= d) (h1 : d < 4) (ha : -9 <= a) (hb : a <= 9) : ∃ k : Int, bO (.dat (.lst [.int a, .int 2, .int (a % 3 - 1), .int 1])) (.dat (.int d)) S = .ok (.dat (.int k)) S /\ -9 <= k /\ k <= 9 := by
 have := dU a (show (3 : Int) ≠ 0 by decide)
 have := dX a (show (0 : Int) < 3 by decide)
 rcases (by omega : d = 0 \/ d = 1 \/ d = 2 \/ d = 3) with rfl | rfl | rfl | rfl
 ·exact ⟨a, rfl, ha, hb⟩
 ·exact ⟨2, rfl, by decide, by decide⟩
 ·exact ⟨a % 3 - 1, rfl, by omega, by omega⟩
 ·exact ⟨1, rfl, by decide, by decide⟩
theorem IW {S : aO} {p : Nat} {ks : List Int} {mood : Int} (hP : PoolAt S p ks) (h0 : 0 <= mood) (h7 : mood <= 7) : ∃ (c : Cmd) (ks' : List Int), iW [.cel p, .dat (.int mood)] S = .ok (.dat c.d) (S.set p (PL ks')) /\ c.Ok /\ ks'.length = ks.length := by
 obtain ⟨ms, e0, m1, m2, m3⟩ := Po (mood := mood) (S := S) h0 h7;obtain ⟨d, k1, e1, d0, d1, l1⟩ := fL hP (k := (ms.length : Int)) (by omega) (by omega)
 have P1 := hP.next l1;obtain ⟨kd, hk, ei⟩ := Q0 (ks := ms) (d := d) (S := S.set p (PL k1)) d0 d1;obtain ⟨hk0, hk8⟩ := m3 kd hk;have eE : iW [.cel p, .dat (.int mood)] S = cE (qO [some (.cel p), some (.dat (.int mood)), none, none, none, none] S) := rfl;rw [eE];unfold qO;have em : ∀ S, dA false (.dat (.lst [.lst [.int 0, .int 0, .int 0, .int 1, .int 1], .lst [.int 0, .int 0, .int 2, .int 3, .int 1], .lst [.int 0, .int 6, .int 7, .int 8, .int 8], .lst [.int 0, .int 4, .int 5, .int 6, .int 7], .lst [.int 0, .int 1, .int 3, .int 6, .int 8]])) (.dat (.lst [.lst [.int 0, .int 1, .int 2, .int 3, .int 4, .int 5, .int 6, .int 7, .int 8], .lst [.int 1, .int 1, .int 2, .int 3, .int 4], .lst [.int 5, .int 6, .int 7, .int 8, .int 8]])) S = .ok (.dat (.lst Mw)) S := fun S => rfl
 simp! [kLst5, kLst9, em, e0, aN, e1, ei];obtain ⟨d2, k2, e2, h2, h3, l2⟩ := fL P1 (k := 19) (by decide) (by decide)
 obtain ⟨d3, k3, e3, h4, h5, l3⟩ := fL P1 (k := 3) (by decide) (by decide)
 obtain ⟨d4, k4, e4, h6, h7, l4⟩ := fL P1 (k := 8) (by decide) (by decide)
 obtain ⟨d5, k5, e5, h8, h9, l5⟩ := fL (P1.next l2) (k := 19) (by decide) (by decide)
 obtain ⟨d6, k6, e6, h10, h11, l6⟩ := fL (P1.next l2) (k := 4) (by decide) (by decide)
 simp only [eI] at e2 e3 e4 e5 e6;rcases (by omega : kd = 0 \/ kd = 1 \/ kd = 2 \/ kd = 3 \/ kd = 4 \/ kd = 5 \/ kd = 6 \/ kd = 7 \/ kd = 8) with rfl | rfl | rfl | rfl | rfl | rfl | rfl | rfl | rfl
 ·obtain ⟨v, ev, v1, v2⟩ := TN (a := d2 - 9) (S := S.set p (PL k6)) h10 h11 (by omega) (by omega)
  simp! [e2, kLst4, e6, lO (show (0 : Int) < 3 by decide), ev]
  exact ⟨.go v, k6, rfl, ⟨v1, v2⟩, by omega⟩
 ·simp! [e3]
  exact ⟨.turn (1 + d3), k3, rfl, ⟨by omega, by omega⟩, by omega⟩
 ·simp! [if_true]
  exact ⟨.mirror, k1, rfl, trivial, l1⟩
 ·obtain ⟨v, ev, v1, v2⟩ := NM (S := S.set p (PL k4)) h6 h7
  simp! [kTup8, e4, ev];exact ⟨.scale v, k4, rfl, ⟨v1, v2⟩, by omega⟩
 ·simp! [cM, e2, e5]
  exact ⟨.aim (d2 - 9) (d5 - 9), k5, rfl, ⟨⟨by omega, by omega⟩, by omega, by omega⟩, by omega⟩
 ·simp! [fZ, e2, e5]
  exact ⟨.place (d2 - 9) (d5 - 9), k5, rfl, ⟨⟨by omega, by omega⟩, by omega, by omega⟩, by omega⟩
 ·simp! [cM]
  exact ⟨.mark, k1, rfl, trivial, l1⟩
 ·simp! [fZ]
  exact ⟨.ret, k1, rfl, trivial, l1⟩
 ·simp! [pW]
  exact ⟨.exch, k1, rfl, trivial, l1⟩
theorem Pd {S : aO} {p : Nat} {ks : List Int} {mood : Int} (hP : PoolAt S p ks) : ∃ (c c' : Cmd) (ks' : List Int), rP [.cel p, .dat (.int mood)] S = .ok (.dat (.lst [c.d, c'.d])) (S.set p (PL ks')) /\ c.Ok /\ c'.Ok /\ ks'.length = ks.length := by
 obtain ⟨d, k1, e1, d0, d1, l1⟩ := fL hP (k := 3) (by decide) (by decide)
 have P1 := hP.next l1;obtain ⟨d2, k2, e2, h2, h3, l2⟩ := fL P1 (k := 4) (by decide) (by decide)
 simp only [eI] at e2;have eE : rP [.cel p, .dat (.int mood)] S = cE (zY [some (.cel p), some (.dat (.int mood)), none, none, none] S) := rfl;rw [eE];unfold zY;have fin : ∀ (x : Int) (S : aO), 0 <= x -> x < 4 -> ∃ c c' : Cmd, bO (.dat (.lst ([.lst [.tup [.str "go", .int (1 + d)], .tup [.str "go", .int (-(1 + d))]], .lst [.tup [.str "turn", .int (1 + d)], .tup [.str "turn", .int (4 - (1 + d))]], .lst [.tup [.str "mirror"], .tup [.str "mirror"]]] ++ [.lst [.tup [.str "exchange"], .tup [.str "exchange"]]]))) (.dat (.int x)) S = .ok (.dat (.lst [c.d, c'.d])) S /\ c.Ok /\ c'.Ok := fun x S h0 h1 => by
  rcases (by omega : x = 0 \/ x = 1 \/ x = 2 \/ x = 3) with rfl | rfl | rfl | rfl
  ·exact ⟨.go (1 + d), .go (-(1 + d)), rfl, ⟨by omega, by omega⟩, ⟨by omega, by omega⟩⟩
  ·exact ⟨.turn (1 + d), .turn (4 - (1 + d)), rfl, ⟨by omega, by omega⟩, ⟨by omega, by omega⟩⟩
  ·exact ⟨.mirror, .mirror, rfl, trivial, trivial⟩
  ·exact ⟨.exch, .exch, rfl, trivial, trivial⟩
 simp! [e1, e2]
 by_cases hm : mood = 6
 ·subst hm
  have := dU d2 (show (2 : Int) ≠ 0 by decide)
  have := dX d2 (show (0 : Int) < 2 by decide)
  obtain ⟨c, c', e, o1, o2⟩ := fin (1 + d2 % 2) (S.set p (PL k2)) (by omega) (by omega)
  simp! [lO (show (0 : Int) < 2 by decide), gE, sz, e]
  exact ⟨c, c', k2, rfl, o1, o2, by omega⟩
 ·by_cases h7 : mood = 7
  ·subst h7
   obtain ⟨c, c', e, o1, o2⟩ := fin 3 (S.set p (PL k2)) (by omega) (by omega)
   simp! [gE, sz, e];exact ⟨c, c', k2, rfl, o1, o2, by omega⟩
  ·obtain ⟨c, c', e, o1, o2⟩ := fin d2 (S.set p (PL k2)) (by omega) (by omega)
   simp! [decide_eq_false hm, decide_eq_false h7, gE, sz, e];exact ⟨c, c', k2, rfl, o1, o2, by omega⟩
mutual
def Stt.Gd (many : Int) : Stt -> Nat -> Prop
 | .cmd c, _ => c.Ok
 | .fin w, _ => 0 <= w /\ w <= 1
 | .keep b, n => 0 < n /\ GdL many b (n - 1)
 | .again b, n => 0 < n /\ GdL many b (n - 1)
 | .either a b, n => 0 < n /\ GdL many a (n - 1) /\ GdL many b (n - 1)
 | .call g _ a b, n => (0 < n /\ 0 <= g /\ g < many) /\ GdL many a (n - 1) /\ GdL many b (n - 1)
 | .bad, _ => False
 | .odd _, _ => False
def GdL (many : Int) : List Stt -> Nat -> Prop
 | [], _ => True
 | s :: r, n => s.Gd many n /\ GdL many r n
end
mutual
def Stt.size : Stt -> Nat
 | .keep b => bP b + 1
 | .again b => bP b + 1
 | .either a b => bP a + bP b + 1
 | .call _ _ a b => bP a + bP b + 1
 | _ => 1
def bP : List Stt -> Nat
 | [] => 0
 | s :: r => s.size + bP r
end
theorem size_pos (s : Stt) : 1 <= s.size := by cases s <;> simp [Stt.size]
theorem eB : ∀ l : List Stt, l.length <= bP l
 | [] => bV _
 | s :: r => by have := eB r; have := size_pos s; simp [bP]; omega
theorem iI : ∀ l m : List Stt, bP (l ++ m) = bP l + bP m
 | [], m => by simp [bP]
 | s :: r, m => by simp [bP, iI r m]; omega
theorem GdL.app {many : Int} : ∀ {l m : List Stt} {n : Nat}, GdL many l n -> GdL many m n -> GdL many (l ++ m) n
 | [], m, n, _, h => h
 | s :: r, m, n, h, h' => ⟨h.1, GdL.app h.2 h'⟩
mutual
theorem Stt.Gd.ok {many : Int} : ∀ {s : Stt} {n : Nat}, s.Gd many n -> s.size <= 11 -> s.Ok many n
 | .cmd c, n, h, _ => h
 | .fin w, n, h, _ => h
 | .keep b, n, h, hs => ⟨h.1, GdL.ok h.2 (by simp [Stt.size] at hs; omega)⟩
 | .again b, n, h, hs => ⟨h.1, GdL.ok h.2 (by simp [Stt.size] at hs; omega)⟩
 | .either a b, n, h, hs => ⟨h.1, GdL.ok h.2.1 (by simp [Stt.size] at hs; omega), GdL.ok h.2.2 (by simp [Stt.size] at hs; omega)⟩
 | .call g _ a b, n, h, hs => ⟨h.1, GdL.ok h.2.1 (by simp [Stt.size] at hs; omega), GdL.ok h.2.2 (by simp [Stt.size] at hs; omega)⟩
 | .bad, n, h, _ => h.elim
 | .odd _, n, h, _ => h.elim
theorem GdL.ok {many : Int} : ∀ {l : List Stt} {n : Nat}, GdL many l n -> bP l <= 10 -> OkL many l n
 | [], n, _, _ => trivial
 | s :: r, n, h, hs => by
  have := eB r;have := size_pos s;simp only [bP] at hs;exact ⟨⟨Stt.Gd.ok h.1 (by omega), by omega⟩, GdL.ok h.2 (by omega)⟩
end
mutual
theorem Gu {many : Int} : ∀ {s : Stt} {n : Nat} {lv met : Int} {here : List Int}, s.Gd many n -> 0 <= lv -> lv + n <= 3 -> s.size <= 9 -> met + s.size <= 13 -> 0 <= met -> Dx lv here s met = .okk (met + s.size - 1)
 | .cmd c, n, lv, met, here, h, h0, h3, h9, h12, hm => by simp [Dx, Stt.size]
 | .fin c, n, lv, met, here, h, h0, h3, h9, h12, hm => by simp [Dx, Stt.size]
 | .bad, n, lv, met, here, h, h0, h3, h9, h12, hm => h.elim
 | .odd _, n, lv, met, here, h, h0, h3, h9, h12, hm => h.elim
 | .keep b, n, lv, met, here, h, h0, h3, h9, h12, hm => by
  have := h.1;simp only [Stt.size] at h9 h12;rw [Dx, pP (n := n - 1) h.2 (by omega) (by omega) (by omega) (by omega) hm (by omega), Stt.size]
  congr 1
  omega
 | .again b, n, lv, met, here, h, h0, h3, h9, h12, hm => by
  have := h.1;simp only [Stt.size] at h9 h12;rw [Dx, pP (n := n - 1) h.2 (by omega) (by omega) (by omega) (by omega) hm (by omega), Stt.size]
  congr 1
  omega
 | .either a b, n, lv, met, here, h, h0, h3, h9, h12, hm => by
  have := h.1;simp only [Stt.size] at h9 h12;rw [Dx, pP (n := n - 1) h.2.1 (by omega) (by omega) (by omega) (by omega) hm (by omega), FR.then_okk, pP (n := n - 1) h.2.2 (by omega) (by omega) (by omega) (by omega) (by omega) (by omega), Stt.size]
  congr 1
  omega
 | .call g f a b, n, lv, met, here, h, h0, h3, h9, h12, hm => by
  have := h.1.1;simp only [Stt.size] at h9 h12;rw [Dx, pP (n := n - 1) h.2.1 (by omega) (by omega) (by omega) (by omega) hm (by omega), FR.then_okk, pP (n := n - 1) h.2.2 (by omega) (by omega) (by omega) (by omega) (by omega) (by omega), Stt.size]
  congr 1
  omega
theorem pP {many : Int} : ∀ {l : List Stt} {n : Nat} {lv at_ met : Int} {path : List Int}, GdL many l n -> 0 <= lv -> lv + n <= 3 -> at_ + bP l <= 8 -> met + bP l <= 12 -> 0 <= met -> 0 <= at_ -> wA lv path at_ l met = .okk (met + bP l)
 | [], n, lv, at_, met, path, h, h0, h3, h8, h12, hm, ha => by simp [wA, bP]
 | s :: r, n, lv, at_, met, path, h, h0, h3, h8, h12, hm, ha => by
  have hp := size_pos s;simp only [bP] at h8 h12;have hw : s.wf lv = true := by
   cases s with
   | cmd c => rfl
   | fin c => rfl
   | bad => exact h.1.elim
   | odd x => exact h.1.elim
   | keep b => have := h.1.1; simp [Stt.wf]; omega
   | again b => have := h.1.1; simp [Stt.wf]; omega
   | either a b => have := h.1.1; simp [Stt.wf]; omega
   | call g f a b => have := h.1.1.1; simp [Stt.wf]; omega
  rw [wA, if_neg (by rintro (e | e | e) <;> first | omega | (rw [hw] at e; cases e)), Gu (n := n) h.1 h0 h3 (by omega) (by omega) (by omega), FR.then_okk, pP (n := n) h.2 h0 h3 (by omega) (by omega) (by omega) (by omega), bP]
  congr 1
  omega
end
section
variable {p q c N : Nat} {many : Int}
theorem Dr.command {S : aO} {r l mood : Int} (D : Dr p q c N many S r l) (h0 : 0 <= mood) (h7 : mood <= 7) : ∃ (cm : Cmd) (S' : aO), iW [.cel p, .dat (.int mood)] S = .ok (.dat cm.d) S' /\ cm.Ok /\ Dr p q c N many S' r l /\ Sam [p, q, c] S S' := by
 obtain ⟨ks, hk, hl⟩ := D.pool;obtain ⟨cm, ks', e, ho, l⟩ := IW (S := S) (p := p) (ks := ks) ⟨hk, by rw [hl]; exact D.n2⟩ h0 h7
 exact ⟨cm, _, e, ho, D.setp (by omega), Sam.set (by simp)⟩
theorem Dr.pair {S : aO} {r l mood : Int} (D : Dr p q c N many S r l) : ∃ (cm cm' : Cmd) (S' : aO), rP [.cel p, .dat (.int mood)] S = .ok (.dat (.lst [cm.d, cm'.d])) S' /\ cm.Ok /\ cm'.Ok /\ Dr p q c N many S' r l /\ Sam [p, q, c] S S' := by
 obtain ⟨ks, hk, hl⟩ := D.pool;obtain ⟨cm, cm', ks', e, ho, ho', l⟩ := Pd (S := S) (p := p) (ks := ks) (mood := mood) ⟨hk, by rw [hl]; exact D.n2⟩
 exact ⟨cm, cm', _, e, ho, ho', D.setp (by omega), Sam.set (by simp)⟩
structure Left (p q c N : Nat) (many : Int) (S : aO) (r : Int) (n : Nat) (ls : List Stt) (S' : aO) (r' l' : Int) : Prop where
 dr : Dr p q c N many S' r' l'
 sam : Sam [p, q, c] S S'
 r0 : 0 <= r'
 sz : (bP ls : Int) + r' <= r
 gd : GdL many ls n
end
def FM (n : Nat) : Prop := ∀ {p q c N : Nat} {many : Int} {S : aO} {r l mood lv low : Int}, Dr p q c N many S r l -> 0 <= mood -> mood <= 7 -> 0 <= lv -> lv <= 3 -> 0 <= low -> 0 <= r -> r <= 8 -> many <= 3 -> 2 * (3 - lv.toNat) + r.toNat + 2 <= n ->
 ∃ (ls : List Stt) (S' : aO) (r' l' : Int), vZ n [.cel p, .dat (.int mood), .dat (.int lv), .cel q, .cel c, .dat (.int low)] S = .ok (.dat (.lst (bE ls))) S' /\ Left p q c N many S r (3 - lv.toNat) ls S' r' l'
def A7 (n : Nat) : Prop := ∀ {p q c N : Nat} {many : Int} {S : aO} {r l mood lv low : Int}, Dr p q c N many S r l -> 0 <= mood -> mood <= 7 -> 0 <= lv -> lv <= 3 -> 0 <= low -> 0 < r -> r <= 8 -> many <= 3 -> 2 * (3 - lv.toNat) + r.toNat + 1 <= n ->
 ∃ (ls : List Stt) (S' : aO) (r' l' : Int), kS n [.cel p, .dat (.int mood), .dat (.int lv), .cel q, .cel c, .dat (.int low)] S = .ok (.dat (.lst (bE ls))) S' /\ Left p q c N many S r (3 - lv.toNat) ls S' r' l'
theorem xO {n : Nat} (ih : A7 n) {p q c N : Nat} {many mood lv low : Int} (h0 : 0 <= mood) (h7 : mood <= 7) (l0 : 0 <= lv) (l3 : lv <= 3) (lo : 0 <= low) (hm : many <= 3) :
  ∀ (is : List D) (ls : List Stt) (S : aO) (r l : Int), Dr p q c N many S r l -> 0 <= r -> (bP ls : Int) + r <= 8 -> 2 * (3 - lv.toNat) + r.toNat + 1 <= n -> GdL many ls (3 - lv.toNat) -> ∃ (ls' : List Stt) (S' : aO) (r' l' : Int),
   loop (.nm 7) (kO (kS n)) is [some (.cel p), some (.dat (.int mood)), some (.dat (.int lv)), some (.cel q), some (.cel c), some (.dat (.int low)), some (.dat (.lst (bE ls))), none] S =
    .next [some (.cel p), some (.dat (.int mood)), some (.dat (.int lv)), some (.cel q), some (.cel c), some (.dat (.int low)), some (.dat (.lst (bE ls'))), none] S' /\ Left p q c N many S (bP ls + r) (3 - lv.toNat) ls' S' r' l'
 | [], ls, S, r, l, D, r0, r8, hn, g => ⟨ls, S, r, l, rfl, D, Sam.refl, r0, Int.le_refl _, g⟩
 | i :: is, ls, S, r, l, D, r0, r8, hn, g => by
  rw [loop];simp only [oG, bW, cK];rw [kO];simp! [D.ixq]
  by_cases hr : 0 < r
  ·obtain ⟨l1, S1, r1, c1, e1, L1⟩ := ih D h0 h7 l0 l3 lo hr (by omega) hm hn
   have hl := eB ls;have hl1 := eB l1;have hsz := L1.sz;have hr1 := L1.r0;simp! [decide_eq_true hr, e1, gE (show (bE ls).length + (bE l1).length <= sizeLine by rw [cV, cV]; exact PH.sz (by omega))]
   rw [<- kO, <- lW];obtain ⟨l2, S2, r2, c2, e2, L2⟩ := xO ih (p := p) (q := q) (c := c) (N := N) h0 h7 l0 l3 lo hm is (ls ++ l1) S1 r1 c1 L1.dr hr1 (by rw [iI]; omega) (by omega) (g.app L1.gd)
   have := L2.sz;rw [iI] at this;exact ⟨l2, S2, r2, c2, e2, L2.dr, L1.sam.trans L2.sam, L2.r0, by omega, L2.gd⟩
  ·simp! [decide_eq_false hr]
   rw [<- kO];exact xO ih h0 h7 l0 l3 lo hm is ls S r l D r0 r8 hn g
theorem OO {n : Nat} (ih : A7 n) : FM (n + 1) := by
 intro p q c N many S r l mood lv low D h0 h7 l0 l3 lo r0 r8 hm hn;rw [show vZ (n + 1) [.cel p, .dat (.int mood), .dat (.int lv), .cel q, .cel c, .dat (.int low)] S = cE (wI (kS n) [some (.cel p), some (.dat (.int mood)), some (.dat (.int lv)), some (.cel q), some (.cel c), some (.dat (.int low)), none, none] S) from rfl]
 unfold wI;obtain ⟨d, S1, e1, d0, d1, D1, s1⟩ := D.draw (k := 3) (by decide) (by decide)
 obtain ⟨l2, S2, r2, c2, e2, L2⟩ := xO ih h0 h7 l0 l3 lo hm (gH 0 d.toNat) [] S1 r l D1 r0 (by simp [bP]; omega) (by omega) trivial
 simp! [e1, jK (show -(2 ^ 62) <= d by omega) (show d < 2 ^ 62 by omega)]
 rw [show ([] : List PH.D) = bE [] from rfl, e2]
 simp! [if_true];have := L2.sz;simp only [bP] at this;exact ⟨l2, S2, r2, c2, rfl, L2.dr, s1.trans L2.sam, L2.r0, by omega, L2.gd⟩
theorem SA {a b : PH.D} : cutD [a, b] none (some 1) = [a] := rfl
theorem ds1 {s : Stt} : [s.d] = bE [s] := rfl
theorem Mi {n : Nat} (ihB : FM n) (ihP : A7 n) : A7 (n + 1) := by
 intro p q c N many S r l mood lv low D h0 h7 l0 l3 lo r0 r8 hm hn;rw [show kS (n + 1) [.cel p, .dat (.int mood), .dat (.int lv), .cel q, .cel c, .dat (.int low)] S = cE (wH (vZ n) (kS n) [some (.cel p), some (.dat (.int mood)), some (.dat (.int lv)), some (.cel q), some (.cel c), some (.dat (.int low)), none, none, none, none, none, none] S) from rfl]
 unfold wH;obtain ⟨d, S1, e1, d0, d1, D1, s1⟩ := D.draw (k := 17) (by decide) (by decide)
 have ea : ∀ z : Option Vl, kA (fun x y => x - y) (aC 3) (mC (.int 0)) (mC (.int 1)) [some (.cel p), some (.dat (.int mood)), some (.dat (.int lv)), some (.cel q), some (.cel c), some (.dat (.int low)), z, none, none, none, none, none] S1 = .next [some (.cel p), some (.dat (.int mood)), some (.dat (.int lv)), some (.cel q), some (.cel c), some (.dat (.int low)), z, none, none, none, none, none] (S1.set q (PL [r - 1])) := fun z => D1.augq rfl rfl rfl
 have D2 := D1.setq (r' := r - 1);have s2 : Sam [p, q, c] S (S1.set q (PL [r - 1])) := s1.trans (Sam.set (by simp))
 generalize S1.set q (PL [r - 1]) = S2 at ea D2 s2;obtain ⟨cm, S3, e2, c2, D3, s3⟩ := D2.command h0 h7;have LC : Left p q c N many S r (3 - lv.toNat) [.cmd cm] S3 (r - 1) l := ⟨D3, s2.trans s3, by omega, by simp [bP, Stt.size]; omega, c2, trivial⟩
 have oc : ∃ (ls : List Stt) (S' : aO) (r' l' : Int), cE (Out.ret (.dat (.lst [cm.d])) S3) = .ok (.dat (.lst (bE ls))) S' /\ Left p q c N many S r (3 - lv.toNat) ls S' r' l' := ⟨_, _, _, _, rfl, LC⟩;rcases (by omega : d < 6 \/ d = 6 \/ (7 <= d /\ d < 15 /\ 2 < lv) \/ (7 <= d /\ d < 9 /\ lv <= 2) \/ (d = 9 /\ lv <= 2) \/ (d = 10 /\ lv <= 2) \/ (11 <= d /\ d < 15 /\ lv <= 2) \/ (15 <= d)) with hd | hd | ⟨ha, hb, hl⟩ | ⟨ha, hb, hl⟩ | ⟨hd, hl⟩ | ⟨hd, hl⟩ | ⟨ha, hb, hl⟩ | hd
 ·simp! [e1, decide_eq_false (show ¬ (6 : Int) < d by omega), decide_eq_false (show ¬ d = 6 by omega), decide_eq_false (show ¬ (10 : Int) < d by omega), ea, decide_eq_true hd, e2]
  exact oc
 ·subst hd
  by_cases hr : r < 2
  ·simp! [e1, D1.ixq, decide_eq_true hr, ea, e2]
   exact oc
  ·have eb : ∀ z : Option Vl, kA (fun x y => x - y) (aC 3) (mC (.int 0)) (mC (.int 1)) [some (.cel p), some (.dat (.int mood)), some (.dat (.int lv)), some (.cel q), some (.cel c), some (.dat (.int low)), z, none, none, none, none, none] S2 = .next [some (.cel p), some (.dat (.int mood)), some (.dat (.int lv)), some (.cel q), some (.cel c), some (.dat (.int low)), z, none, none, none, none, none] (S2.set q (PL [r - 1 - 1])) := fun z => D2.augq rfl rfl rfl
   have D4 := D2.setq (r' := r - 1 - 1);have s4 : Sam [p, q, c] S (S2.set q (PL [r - 1 - 1])) := s2.trans (Sam.set (by simp))
   generalize S2.set q (PL [r - 1 - 1]) = S4 at eb D4 s4;obtain ⟨ca, cb, S5, e5, oa, ob, D5, s5⟩ := D4.pair (mood := mood)
   by_cases hr2 : 0 < r - 1 - 1
   ·obtain ⟨l6, S6, r6, c6, e6, L6⟩ := ihP D5 h0 h7 l0 l3 lo hr2 (by omega) hm (by omega)
    have hs := L6.sz;have := L6.r0;have hl6 := eB l6;simp! [e1, D1.ixq, decide_eq_false hr, ea, eb, e5, D5.ixq, decide_eq_true hr2, e6, SA, vR, gE (show [ca.d].length + (bE l6).length <= sizeLine from sz (by rw [cV]; simp; omega)), gE (show ([ca.d] ++ bE l6).length + [cb.d].length <= sizeLine from sz (by simp [cV]; omega))]
    refine ⟨[.cmd ca] ++ l6 ++ [.cmd cb], S6, r6, c6, ?_, L6.dr, s4.trans (s5.trans L6.sam), L6.r0, ?_, ?_⟩
    ·rw [lW, lW]; rfl
    ·rw [iI, iI]; simp only [bP, Stt.size]; omega
    ·exact GdL.app (GdL.app (l := [.cmd ca]) ⟨oa, trivial⟩ L6.gd) ⟨ob, trivial⟩
   ·simp! [e1, D1.ixq, decide_eq_false hr, ea, eb, e5, D5.ixq, decide_eq_false hr2, SA, vR, gE, sz, cP, iF, dR]
    refine ⟨[.cmd ca, .cmd cb], S5, r - 1 - 1, l, rfl, D5, s4.trans s5, by omega, ?_, oa, ob, trivial⟩
    simp only [bP, Stt.size]; omega
 ·have h1 := dU d (show (6 : Int) ≠ 0 by decide)
  have h2 := dX d (show (0 : Int) < 6 by decide)
  simp! [e1, decide_eq_true (show (6 : Int) < d by omega), decide_eq_true hb, decide_eq_true hl, lO (show (0 : Int) < 6 by decide), decide_eq_false (show ¬ d % 6 = 6 by omega), decide_eq_false (show ¬ (10 : Int) < d % 6 by omega), ea, decide_eq_true (show d % 6 < 6 by omega), e2]
  exact oc
 ·have e54 : 3 - (lv + 1).toNat = 3 - lv.toNat - 1 := by omega
  obtain ⟨la, Sa, ra, ca, ea1, La⟩ := ihB (lv := lv + 1) (low := 0) D2 h0 h7 (by omega) (by omega) (by omega) (by omega) (by omega) hm (by omega)
  obtain ⟨lb, Sb, rb, cb, eb1, Lb⟩ := ihB (lv := lv + 1) (low := low) La.dr h0 h7 (by omega) (by omega) lo La.r0 (by have := La.sz; omega) hm (by have := La.sz; have := La.r0; omega)
  have := La.sz;have := Lb.sz;have ga := La.gd;have gb := Lb.gd;rw [e54] at ga gb;simp! [e1, decide_eq_true (show (6 : Int) < d by omega), decide_eq_true (show d < 15 by omega), decide_eq_false (show ¬ (2 : Int) < lv by omega), decide_eq_false (show ¬ d = 6 by omega), decide_eq_false (show ¬ (10 : Int) < d by omega), ea, decide_eq_false (show ¬ d < 6 by omega), decide_eq_true hb, ea1, eb1]
  refine ⟨[.either la lb], Sb, rb, cb, rfl, Lb.dr, s2.trans (La.sam.trans Lb.sam), Lb.r0, ?_, ⟨by omega, ga, gb⟩, trivial⟩
  simp only [bP, Stt.size]; omega
 ·subst hd
  have e54 : 3 - (lv + 1).toNat = 3 - lv.toNat - 1 := by omega
  obtain ⟨la, Sa, ra, ca, ea1, La⟩ := ihB (lv := lv + 1) (low := 0) D2 h0 h7 (by omega) (by omega) (by omega) (by omega) (by omega) hm (by omega)
  have := La.sz;have ga := La.gd;rw [e54] at ga;simp! [e1, decide_eq_false (show ¬ (2 : Int) < lv by omega), ea, ea1]
  refine ⟨[.again la], Sa, ra, ca, rfl, La.dr, s2.trans La.sam, La.r0, ?_, ⟨by omega, ga⟩, trivial⟩
  simp only [bP, Stt.size]; omega
 ·subst hd
  have e54 : 3 - (lv + 1).toNat = 3 - lv.toNat - 1 := by omega
  obtain ⟨la, Sa, ra, ca, ea1, La⟩ := ihB (lv := lv + 1) (low := low) D2 h0 h7 (by omega) (by omega) (by omega) (by omega) (by omega) hm (by omega)
  have := La.sz;have ga := La.gd;rw [e54] at ga;simp! [e1, decide_eq_false (show ¬ (2 : Int) < lv by omega), ea, ea1]
  refine ⟨[.keep la], Sa, ra, ca, rfl, La.dr, s2.trans La.sam, La.r0, ?_, ⟨by omega, ga⟩, trivial⟩
  simp only [bP, Stt.size]; omega
 ·by_cases hc : l < 1
  ·simp! [e1, decide_eq_true (show (6 : Int) < d by omega), decide_eq_true hb, decide_eq_false (show ¬ (2 : Int) < lv by omega), decide_eq_false (show ¬ d = 6 by omega), decide_eq_true (show (10 : Int) < d by omega), D1.ixc0, decide_eq_true hc, ea, e2]
   exact oc
  ·by_cases hlo : many <= low
   ·simp! [e1, decide_eq_true (show (6 : Int) < d by omega), decide_eq_true hb, decide_eq_false (show ¬ (2 : Int) < lv by omega), decide_eq_false (show ¬ d = 6 by omega), decide_eq_true (show (10 : Int) < d by omega), D1.ixc0, decide_eq_false hc, D1.ixc1, decide_eq_true hlo, ea, e2]
    exact oc
   ·have e54 : 3 - (lv + 1).toNat = 3 - lv.toNat - 1 := by omega
    have ec : ∀ z : Option Vl, kA (fun x y => x - y) (aC 4) (mC (.int 0)) (mC (.int 1)) [some (.cel p), some (.dat (.int mood)), some (.dat (.int lv)), some (.cel q), some (.cel c), some (.dat (.int low)), z, none, none, none, none, none] S2 = .next [some (.cel p), some (.dat (.int mood)), some (.dat (.int lv)), some (.cel q), some (.cel c), some (.dat (.int low)), z, none, none, none, none, none] (S2.set c (PL [l - 1, many])) := fun z => D2.augc rfl rfl rfl
    have D4 := D2.setc (l' := l - 1);have s4 : Sam [p, q, c] S (S2.set c (PL [l - 1, many])) := s2.trans (Sam.set (by simp))
    generalize S2.set c (PL [l - 1, many]) = S4 at ec D4 s4;obtain ⟨g, S5, e5, g0, g1, D5, s5⟩ := D4.draw (k := many - low) (by omega) (by omega)
    obtain ⟨f, S6, e6, f0, f1, D6, s6⟩ := D5.draw (k := 3) (by decide) (by decide)
    obtain ⟨la, Sa, ra, ca, ea1, La⟩ := ihB (lv := lv + 1) (low := low) D6 h0 h7 (by omega) (by omega) lo (by omega) (by omega) hm (by omega)
    obtain ⟨lb, Sb, rb, cb, eb1, Lb⟩ := ihB (lv := lv + 1) (low := low) La.dr h0 h7 (by omega) (by omega) lo La.r0 (by have := La.sz; omega) hm (by have := La.sz; have := La.r0; omega)
    have := La.sz;have := Lb.sz;have ga := La.gd;have gb := Lb.gd;rw [e54] at ga gb;simp! [e1, decide_eq_true (show (6 : Int) < d by omega), decide_eq_true hb, decide_eq_false (show ¬ (2 : Int) < lv by omega), decide_eq_false (show ¬ d = 6 by omega), decide_eq_true (show (10 : Int) < d by omega), D1.ixc0, decide_eq_false hc, D1.ixc1, decide_eq_false hlo, ea, decide_eq_false (show ¬ d < 6 by omega), decide_eq_false (show ¬ d < 9 by omega), decide_eq_false (show ¬ d = 9 by omega), decide_eq_false (show ¬ d = 10 by omega), decide_eq_false (show ¬ (14 : Int) < d by omega), ec, D4.ixc1, e5, e6, ea1, eb1]
    refine ⟨[.call (low + g) (decide (f = 0)) la lb], Sb, rb, cb, rfl, Lb.dr, s4.trans (s5.trans (s6.trans (La.sam.trans Lb.sam))), Lb.r0, ?_, ⟨⟨by omega, by omega, by omega⟩, ga, gb⟩, trivial⟩
    simp only [bP, Stt.size]; omega
 ·obtain ⟨w, S4, e4, w0, w1, D4, s4⟩ := D2.draw (k := 2) (by decide) (by decide)
  simp! [e1, decide_eq_true (show (6 : Int) < d by omega), decide_eq_false (show ¬ d < 15 by omega), decide_eq_false (show ¬ d = 6 by omega), decide_eq_true (show (10 : Int) < d by omega), ea, decide_eq_false (show ¬ d < 6 by omega), decide_eq_false (show ¬ d < 9 by omega), decide_eq_false (show ¬ d = 9 by omega), decide_eq_false (show ¬ d = 10 by omega), decide_eq_true (show (14 : Int) < d by omega), e4]
  refine ⟨[.fin w], S4, r - 1, l, rfl, D4, s2.trans s4, by omega, ?_, ⟨w0, by omega⟩, trivial⟩
  simp only [bP, Stt.size]; omega
theorem zM : ∀ n, FM n /\ A7 n
 | 0 => ⟨fun _ _ _ _ _ _ _ _ _ h => by omega, fun _ _ _ _ _ _ _ _ _ h => by omega⟩
 | n + 1 => ⟨OO (zM n).2, Mi (zM n).1 (zM n).2⟩
theorem LX {p q c N : Nat} {many : Int} {S : aO} {r l mood : Int} (D : Dr p q c N many S r l) (h0 : 0 <= mood) (h7 : mood <= 7) (hr : 3 < r) (m1 : 1 <= many) (m3 : many <= 3) :
  ∃ (ls : List Stt) (S' : aO) (r' l' : Int), sW [.cel p, .dat (.int mood), .cel q, .cel c] S = .ok (.dat (.lst (bE ls))) S' /\ Left p q c N many S r 3 ls S' r' l' := by
 rw [show sW [.cel p, .dat (.int mood), .cel q, .cel c] S = cE (tL [some (.cel p), some (.dat (.int mood)), some (.cel q), some (.cel c), none, none, none, none, none] S) from rfl]
 unfold tL;have ea : kA (fun x y => x - y) (aC 2) (mC (.int 0)) (mC (.int 4)) [some (.cel p), some (.dat (.int mood)), some (.cel q), some (.cel c), none, none, none, none, none] S = .next [some (.cel p), some (.dat (.int mood)), some (.cel q), some (.cel c), none, none, none, none, none] (S.set q (PL [r - 4])) := D.augq rfl rfl rfl
 have D1 := D.setq (r' := r - 4);have s1 : Sam [p, q, c] S (S.set q (PL [r - 4])) := Sam.set (by simp)
 generalize S.set q (PL [r - 4]) = S1 at ea D1 s1;have eb : kA (fun x y => x - y) (aC 3) (mC (.int 0)) (mC (.int 1)) [some (.cel p), some (.dat (.int mood)), some (.cel q), some (.cel c), none, none, none, none, none] S1 = .next [some (.cel p), some (.dat (.int mood)), some (.cel q), some (.cel c), none, none, none, none, none] (S1.set c (PL [l - 1, many])) := D1.augc rfl rfl rfl
 have D2 := D1.setc (l' := l - 1);have s2 : Sam [p, q, c] S1 (S1.set c (PL [l - 1, many])) := Sam.set (by simp)
 generalize S1.set c (PL [l - 1, many]) = S2 at eb D2 s2;obtain ⟨g, S3, e3, g0, g1, D3, s3⟩ := D2.draw (k := many) (by omega) (by omega)
 obtain ⟨f, S4, e4, f0, f1, D4, s4⟩ := D3.draw (k := 3) (by decide) (by decide)
 obtain ⟨a, S5, e5, a0, a1, D5, s5⟩ := D4.draw (k := 2) (by decide) (by decide)
 obtain ⟨ca, S6, e6, oa, D6, s6⟩ := D5.command h0 h7;obtain ⟨cb, S7, e7, ob, D7, s7⟩ := D6.command h0 h7;obtain ⟨b, S8, e8, b0, b1, D8, s8⟩ := D7.draw (k := 2) (by decide) (by decide)
 have s18 : Sam [p, q, c] S S8 := s1.trans (s2.trans (s3.trans (s4.trans (s5.trans (s6.trans (s7.trans s8))))));have fin : ∀ (x y : Cmd) (T : aO), x.Ok -> y.Ok -> Dr p q c N many T (r - 4) (l - 1) -> Sam [p, q, c] S T -> ∃ (ls : List Stt) (S' : aO) (r' l' : Int), cE (((bO (.dat (.lst [.lst [], .lst [x.d, .tup [.str "call", .int g, .bl (decide (f = 0)), .lst [.lst [], .lst []]], y.d]])) (.dat (.int a)) T).bind fun u T1 => ((bO (.dat (.lst [.lst [], .lst [x.d, .tup [.str "call", .int g, .bl (decide (f = 0)), .lst [.lst [], .lst []]], y.d]])) (.dat (.int (1 - a))) T1).bind fun v T2 => kTup [.dat (.str "either"), u, v] T2)).toS [] fun w T3 => (Cu false [w] T3).toS [] TC) = .ok (.dat (.lst (bE ls))) S' /\ Left p q c N many S r 3 ls S' r' l' := fun x y T ox oy DT sT => by
  have sz : ∀ (u v : List Stt), bP u + bP v = 3 -> (bP [.either u v] : Int) + (r - 4) <= r := fun u v h => by simp only [bP, Stt.size]; omega
  have hc : GdL many [.cmd x, .call g (decide (f = 0)) [] [], .cmd y] 2 := ⟨ox, ⟨⟨by omega, g0, g1⟩, trivial, trivial⟩, oy, trivial⟩
  rcases (by omega : a = 0 \/ a = 1) with rfl | rfl
  ·exact ⟨[.either [] [.cmd x, .call g (decide (f = 0)) [] [], .cmd y]], T, r - 4, l - 1, rfl, DT, sT, by omega, sz _ _ rfl, ⟨by omega, trivial, hc⟩, trivial⟩
  ·exact ⟨[.either [.cmd x, .call g (decide (f = 0)) [] [], .cmd y] []], T, r - 4, l - 1, rfl, DT, sT, by omega, sz _ _ rfl, ⟨by omega, hc, trivial⟩, trivial⟩
 simp! [ea, eb, D2.ixc1, e3, e4, e5, e6, e7, e8]
 by_cases hb : b = 0
 ·obtain ⟨cx, cy, S9, e9, ox, oy, D9, s9⟩ := D8.pair (mood := mood)
  simp! [decide_eq_true hb, e9, BB, GX];obtain ⟨ls, S', r', l', e, L⟩ := fin cx cy S9 ox oy D9 (s18.trans s9);refine ⟨ls, S', r', l', ?_, L⟩
  rw [<- e];rcases (by omega : a = 0 \/ a = 1) with rfl | rfl <;> rfl
 ·simp! [decide_eq_false hb, BB, GX]
  obtain ⟨ls, S', r', l', e, L⟩ := fin ca cb S8 oa ob D8 s18;refine ⟨ls, S', r', l', ?_, L⟩
  rw [<- e];rcases (by omega : a = 0 \/ a = 1) with rfl | rfl <;> rfl
theorem Af {p q c N : Nat} {many mood low : Int} {z8 : Option Vl} {z5 : Option Vl} (h0 : 0 <= mood) (h7 : mood <= 7) (lo : 0 <= low) (hm : many <= 3) :
  ∀ (is : List D) (ls : List Stt) (S : aO) (r l : Int), Dr p q c N many S r l -> 0 <= r -> (bP ls : Int) + r <= 8 -> GdL many ls 3 -> ∃ (ls' : List Stt) (S' : aO) (r' l' : Int),
   loop (.nm 7) kG is [some (.cel p), some (.dat (.int mood)), some (.cel q), some (.cel c), some (.dat (.int low)), z5, some (.dat (.lst (bE ls))), none, z8] S =
    .next [some (.cel p), some (.dat (.int mood)), some (.cel q), some (.cel c), some (.dat (.int low)), z5, some (.dat (.lst (bE ls'))), none, z8] S' /\ Left p q c N many S (bP ls + r) 3 ls' S' r' l'
 | [], ls, S, r, l, D, r0, r8, g => ⟨ls, S, r, l, rfl, D, Sam.refl, r0, Int.le_refl _, g⟩
 | i :: is, ls, S, r, l, D, r0, r8, g => by
  rw [loop];simp only [oG, bW, cK];rw [kG];simp! [D.ixq]
  by_cases hr : 0 < r
  ·obtain ⟨l1, S1, r1, c1, e1, L1⟩ := (zM 30).2 (lv := 0) D h0 h7 (by omega) (by omega) lo hr (by omega) hm (by simp; omega)
   have hl := eB ls;have hl1 := eB l1;have hsz := L1.sz;have hr1 := L1.r0;simp! [decide_eq_true hr, e1, gE (show (bE ls).length + (bE l1).length <= sizeLine by rw [cV, cV]; exact PH.sz (by omega))]
   rw [<- kG, <- lW];obtain ⟨l2, S2, r2, c2, e2, L2⟩ := Af (p := p) (q := q) (c := c) (N := N) (z8 := z8) (z5 := z5) h0 h7 lo hm is (ls ++ l1) S1 r1 c1 L1.dr hr1 (by rw [iI]; omega) (g.app L1.gd)
   have := L2.sz;rw [iI] at this;exact ⟨l2, S2, r2, c2, e2, L2.dr, L1.sam.trans L2.sam, L2.r0, by omega, L2.gd⟩
  ·simp! [decide_eq_false hr]
   rw [<- kG];exact Af h0 h7 lo hm is ls S r l D r0 r8 g
def H8 : Stt := .either [.fin 1] []
theorem R9 {p q c N : Nat} {many : Int} {S : aO} {r l mood low : Int} (D : Dr p q c N many S r l) (h0 : 0 <= mood) (h7 : mood <= 7) (lo : 0 <= low) (r0 : 0 <= r) (r8 : r <= 8) (m1 : 1 <= many) (m3 : many <= 3) :
  ∃ (ls : List Stt) (S' : aO) (r' l' : Int), vB [.cel p, .dat (.int mood), .cel q, .cel c, .dat (.int low)] S = .ok (.dat (.lst (bE ls))) S' /\ Left p q c N many S (r + 2) 3 ls S' r' l' := by
 rw [show vB [.cel p, .dat (.int mood), .cel q, .cel c, .dat (.int low)] S = cE (A3 [some (.cel p), some (.dat (.int mood)), some (.cel q), some (.cel c), some (.dat (.int low)), none, none, none, none] S) from rfl]
 unfold A3;obtain ⟨d, S1, e1, d0, d1, D1, s1⟩ := D.draw (k := 6) (by decide) (by decide)
 obtain ⟨a, S2, e2, a0, a1, D2, s2⟩ := D1.draw (k := 2) (by decide) (by decide)
 -- behind the loop
 have fin : ∀ (ls : List Stt) (T : aO) (r1 l1 : Int), Dr p q c N many T r1 l1 -> Sam [p, q, c] S T -> 0 <= r1 -> (bP ls : Int) + r1 <= r -> GdL many ls 3 -> ∃ (ls' : List Stt) (S' : aO) (r' l' : Int), cE (aQ (rR (iY (aP (dA false) (mC (.int 1)) (aY bY (aB (aC 0) (aB (mC (.int 4)) aK))))) (.nm 7) kG)
 (aQ (bR (cN false (aB (cN false (aB (cH (aB (mC (.str "either")) (aB (cN false (aB (cH (aB (mC (.str "end")) (aB (mC (.int 1)) aK))) aK)) (aB (cN false aK) aK)))) aK)) (aB (cN false (aB (cH (aB (mC (.str "end")) (aB (mC (.int 1)) aK))) aK)) aK))) (.nm 8))
 (aQ (bU (BS (mB (aP fF (aC 5) (mC (.int 1)))) (mB (aP fF (aC 5) (mC (.int 3))))) (bX (aP (dA false) (aC 6) (aP bO (aC 8) (aP tZ (aC 5) (mC (.int 2)))))) bK)
 (aQ (bU (mB (aP fF (aC 5) (mC (.int 2)))) (bX (aP (dA false) (aP bO (aC 8) (mC (.int 0))) (aC 6))) bK)
 (bX (aC 6))))) [some (.cel p), some (.dat (.int mood)), some (.cel q), some (.cel c), some (.dat (.int low)), some (.dat (.int d)), some (.dat (.lst (bE ls))), none, none] T) = .ok (.dat (.lst (bE ls'))) S' /\ Left p q c N many S (r + 2) 3 ls' S' r' l' := fun ls T r1 l1 DT sT r10 hsz g => by
  obtain ⟨x, T1, e3, x0, x1, D3, s3⟩ := DT.draw (k := 4) (by decide) (by decide)
  obtain ⟨l4, T4, r4, c4, e4, L4⟩ := Af (z8 := none) (z5 := some (.dat (.int d))) h0 h7 lo m3 (gH 0 (1 + x).toNat) ls T1 r1 l1 D3 r10 (by omega) g
  have hs4 := L4.sz;have hr4 := L4.r0;have hl4 := eB l4;have s4 := sT.trans (s3.trans L4.sam);simp! [e3, jK (show -(2 ^ 62) <= 1 + x by omega) (show 1 + x < 2 ^ 62 by omega), e4]
  have hA : GdL many [H8] 3 := ⟨⟨by omega, ⟨⟨by omega, by omega⟩, trivial⟩, trivial⟩, trivial⟩
  have hB : GdL many [.fin 1] 3 := ⟨⟨by omega, by omega⟩, trivial⟩
  have a1 : (bE l4).length + (bE [H8]).length <= sizeLine := sz (by rw [cV, cV]; simp; omega)
  have a2 : (bE l4).length + (bE [.fin 1]).length <= sizeLine := sz (by rw [cV, cV]; simp; omega)
  have a3 : (bE [H8]).length + (bE l4).length <= sizeLine := sz (by rw [cV, cV]; simp; omega)
  have q1 : ∀ T, bO (.dat (.lst [.lst [.tup [.str "either", .lst [.tup [.str "end", .int 1]], .lst []]], .lst [.tup [.str "end", .int 1]]])) (.dat (.int 0)) T = .ok (.dat (.lst (bE [H8]))) T := fun T => rfl
  have q2 : ∀ T, bO (.dat (.lst [.lst [.tup [.str "either", .lst [.tup [.str "end", .int 1]], .lst []]], .lst [.tup [.str "end", .int 1]]])) (.dat (.int 1)) T = .ok (.dat (.lst (bE [.fin 1]))) T := fun T => rfl
  rcases (by omega : d = 0 \/ d = 1 \/ d = 2 \/ d = 3 \/ d = 4 \/ d = 5) with rfl | rfl | rfl | rfl | rfl | rfl
  ·simp! [if_true]
   exact ⟨l4, T4, r4, c4, rfl, L4.dr, s4, hr4, by omega, L4.gd⟩
  ·have f1 : ∀ T, tZ (.dat (.int 1)) (.dat (.int 2)) T = .ok (.dat (.int 0)) T := fun T => rfl
   simp! [f1, q1, gE a1];refine ⟨l4 ++ [H8], T4, r4, c4, by rw [lW]; rfl, L4.dr, s4, hr4, ?_, L4.gd.app hA⟩
   rw [iI]; simp only [bP, H8, Stt.size]; omega
  ·simp! [q1, gE a3]
   refine ⟨[H8] ++ l4, T4, r4, c4, by rw [lW]; rfl, L4.dr, s4, hr4, ?_, hA.app L4.gd⟩
   rw [iI]; simp only [bP, H8, Stt.size]; omega
  ·have f1 : ∀ T, tZ (.dat (.int 3)) (.dat (.int 2)) T = .ok (.dat (.int 1)) T := fun T => rfl
   simp! [f1, q2, gE a2];refine ⟨l4 ++ [.fin 1], T4, r4, c4, by rw [lW]; rfl, L4.dr, s4, hr4, ?_, L4.gd.app hB⟩
   rw [iI]; simp only [bP, Stt.size]; omega
  ·simp! [if_true]
   exact ⟨l4, T4, r4, c4, rfl, L4.dr, s4, hr4, by omega, L4.gd⟩
  ·simp! [if_true]
   exact ⟨l4, T4, r4, c4, rfl, L4.dr, s4, hr4, by omega, L4.gd⟩
 have fin0 := fin [] S2 r l D2 (s1.trans s2) r0 (by simp [bP]) trivial
 rw [Jb] at fin0
 by_cases ha : a = 0
 ·by_cases hr : 3 < r
  ·by_cases hl : 0 < l
   ·obtain ⟨la, Sa, ra, ca, ea, La⟩ := LX D2 h0 h7 hr m1 m3
    have := La.sz;have f := fin la Sa ra ca La.dr (s1.trans (s2.trans La.sam)) La.r0 (by omega) La.gd
    rw [Jb] at f;simp! [e1, e2, decide_eq_true ha, D2.ixq, decide_eq_true hr, D2.ixc0, decide_eq_true hl, ea] at f ⊢;exact f
   ·simp! [e1, e2, decide_eq_true ha, D2.ixq, decide_eq_true hr, D2.ixc0, decide_eq_false hl] at fin0 ⊢
    exact fin0
  ·simp! [e1, e2, decide_eq_true ha, D2.ixq, decide_eq_false hr] at fin0 ⊢
   exact fin0
 ·simp! [e1, e2, decide_eq_false ha] at fin0 ⊢
  exact fin0
structure Bk (p n N : Nat) (S0 : aO) (many l : Int) (bs : List (List Stt)) (T : aO) : Prop where
 ls : LS T
 n2 : 2 <= N
 hp : p < n
 len : n + 2 <= T.length
 pool : ∃ ks, T[p]? = some (PL ks) /\ ks.length = N
 call : T[n]? = some (PL [l, many])
 bod : T[n + 1]? = some (.lst (bls bs))
 old : ∀ i, i < n -> i ≠ p -> T[i]? = S0[i]?
theorem rH {T : aO} {c : Cell} {i : Nat} (h : i < T.length) : (T ++ [c])[i]? = T[i]? := aL h
theorem EN {p n N : Nat} {S0 T : aO} {many l mood low rm : Int} {bs : List (List Stt)} (B : Bk p n N S0 many l bs T) (h0 : 0 <= mood) (h7 : mood <= 7) (lo : 0 <= low) (r0 : 0 <= rm) (r8 : rm <= 8) (m1 : 1 <= many) (m3 : many <= 3) (hb : bs.length <= 3) :
  ∃ (b : List Stt) (T2 : aO) (l' : Int), vB [.cel p, .dat (.int mood), .cel T.length, .cel n, .dat (.int low)] (T ++ [PL [rm]]) = .ok (.dat (.lst (bE b))) T2 /\ T2[n + 1]? = some (.lst (bls bs)) /\ GdL many b 3 /\ (bP b : Int) <= rm + 2 /\ Bk p n N S0 many l' (bs ++ [b]) (T2.set (n + 1) (.lst (bls bs ++ [.lst (bE b)]))) := by
 obtain ⟨ks, hk, hkl⟩ := B.pool;have hlen := B.len;have hp := B.hp;have D : Dr p T.length n N many (T ++ [PL [rm]]) rm l := ⟨B.ls.app, B.n2, ⟨ks, by rw [rH (by omega)]; exact hk, hkl⟩, by simp, by rw [rH (by omega)]; exact B.call, by omega, by omega, by omega⟩
 obtain ⟨b, T2, r', l', e, L⟩ := R9 D h0 h7 lo r0 r8 m1 m3;have hsz := L.sz;have hr := L.r0;have h1 : T2[n + 1]? = some (.lst (bls bs)) := by
  rw [L.sam.2 (n + 1) (by simp; omega), rH (by omega)]
  exact B.bod
 have hl2 : T2.length = T.length + 1 := by rw [L.sam.1]; simp
 refine ⟨b, T2, l', e, h1, L.gd, by omega, L.dr.ls.set, B.n2, B.hp, by simp; omega, ?_, by rw [mO (by omega)]; exact L.dr.call, ?_, fun i hi hip => ?_⟩
 ·obtain ⟨ks', hk', hkl'⟩ := L.dr.pool
  exact ⟨ks', by rw [mO (by omega)]; exact hk', hkl'⟩
 ·rw [sL h1]
  simp [bls]
 ·rw [mO (by omega), L.sam.2 i (by simp; omega), rH (by omega)]
  exact B.old i hi hip
theorem Ae {p n N : Nat} {S0 : aO} {many mood most size : Int} {wild : Bool} (h0 : 0 <= mood) (h7 : mood <= 7) (m1 : 1 <= many) (m3 : many <= 3) (z3 : 3 <= size) (z8 : size <= 8) :
  ∀ (j : Nat) (i : Int) (bs : List (List Stt)) (T : aO) (l : Int), Bk p n N S0 many l bs T -> 0 <= i -> bs.length + j <= 3 -> (∀ b ∈ bs, GdL many b 3 /\ (bP b : Int) <= size) -> ∃ (bs' : List (List Stt)) (T' : aO) (l' : Int),
   loop (.nm 8) mN (gH i j) [some (.cel p), some (.dat (.int most)), some (.dat (.int size)), some (.dat (.int mood)), some (.dat (.bl wild)), some (.dat (.int many)), some (.cel n), some (.cel (n + 1)), none, none, none] T =
    .next [some (.cel p), some (.dat (.int most)), some (.dat (.int size)), some (.dat (.int mood)), some (.dat (.bl wild)), some (.dat (.int many)), some (.cel n), some (.cel (n + 1)), none, none, none] T' /\ Bk p n N S0 many l' bs' T' /\ (∀ b ∈ bs', GdL many b 3 /\ (bP b : Int) <= size) /\ bs'.length = bs.length + j
 | 0, i, bs, T, l, B, _, _, g => ⟨bs, T, l, rfl, B, g, rfl⟩
 | j + 1, i, bs, T, l, B, hi, hj, g => by
  have hlen := B.len;have hrm : 0 <= size - 2 - (if decide ((2 : Int) < many) = true then 1 else 0) /\ size - 2 - (if decide ((2 : Int) < many) = true then 1 else 0) <= size - 2 := by split <;> omega
  generalize hR : (size - 2 - (if decide ((2 : Int) < many) = true then (1 : Int) else 0)) = R at hrm
  obtain ⟨b1, T1, l1, e1, a1, g1, s1, B1⟩ := EN (rm := R) (mood := mood) (low := 0) B h0 h7 (by omega) (by omega) (by omega) m1 m3 (by omega)
  obtain ⟨b2, T2, l2, e2, a2, g2, s2, B2⟩ := EN (rm := R) (mood := mood) (low := i + 1) B h0 h7 (by omega) (by omega) (by omega) m1 m3 (by omega)
  have hat : (T ++ [PL [R]])[n + 1]? = some (.lst (bls bs)) := by rw [rH (by omega)]; exact B.bod
  have hsl : (bls bs).length < sizeLine := by rw [wB]; exact Nat.lt_of_le_of_lt (show bs.length <= 3 by omega) (by decide)
  rw [show PL [R] = .lst [.int R] from rfl] at e1 e2 hat
  rw [lC, loop];simp only [oG, bW, cK];rw [mN];cases wild with
  | true =>
   simp! [hR, lP hat, e1, mR a1 hsl];rw [<- mN];obtain ⟨bs', T', l', e, B', g', n'⟩ := Ae (most := most) h0 h7 m1 m3 z3 z8 j (i + 1) (bs ++ [b1]) _ l1 B1 (by omega) (by simp; omega) (fun b hb => by
    rcases cL.mp hb with hb | hb
    ·exact g b hb
    ·rw [bC.mp hb]; exact ⟨g1, by omega⟩)
   exact ⟨bs', T', l', e, B', g', by rw [n']; simp; omega⟩
  | false =>
   simp! [hR, lP hat, e2, mR a2 hsl];rw [<- mN];obtain ⟨bs', T', l', e, B', g', n'⟩ := Ae (most := most) h0 h7 m1 m3 z3 z8 j (i + 1) (bs ++ [b2]) _ l2 B2 (by omega) (by simp; omega) (fun b hb => by
    rcases cL.mp hb with hb | hb
    ·exact g b hb
    ·rw [bC.mp hb]; exact ⟨g2, by omega⟩)
   exact ⟨bs', T', l', e, B', g', by rw [n']; simp; omega⟩
structure Good (bs : List (List Stt)) : Prop where
 l1 : 1 <= bs.length
 l3 : bs.length <= 3
 gd : ∀ b ∈ bs, GdL (bs.length : Int) b 3 /\ bP b <= 8
theorem R8 {S : aO} {p : Nat} {ks : List Int} {most size : Int} (hP : PoolAt S p ks) (ls : LS S) (m1 : 1 <= most) (m3 : most <= 3) (z3 : 3 <= size) (z8 : size <= 8) :
  ∃ (bs : List (List Stt)) (ks' : List Int), yU [.cel p, .dat (.int most), .dat (.int size)] S = .ok (.dat (.lst (bls bs))) (S.set p (PL ks')) /\ Good bs /\ (∀ b ∈ bs, (bP b : Int) <= size) /\ (bs.length : Int) <= most /\ ks'.length = ks.length := by
 obtain ⟨d1, k1, e1, h10, h11, l1⟩ := fL hP (k := 6) (by decide) (by decide)
 obtain ⟨d2, k2, e2, h20, h21, l2⟩ := fL (hP.next l1) (k := 8) (by decide) (by decide)
 obtain ⟨d3, k3, e3, h30, h31, l3⟩ := fL ((hP.next l1).next l2) (k := most) (by omega) (by omega)
 simp only [eI] at e2 e3;have hp : p < S.length := (aH.mp hP.1).1;have P3 : PoolAt (S.set p (PL k3)) p k3 := ⟨sL hP.1, by have := hP.2; omega⟩
 have ls3 : LS (S.set p (PL k3)) := ls.set;have hS3 : (S.set p (PL k3)).length = S.length := by simp
 rw [show yU [.cel p, .dat (.int most), .dat (.int size)] S = trunc S.length (cE (A2 [some (.cel p), some (.dat (.int most)), some (.dat (.int size)), none, none, none, none, none, none, none, none] S)) from rfl]
 unfold A2;simp! [e1, e2, e3, jK (show -(2 ^ 62) <= 1 + d3 by omega) (show 1 + d3 < 2 ^ 62 by omega), List.length_set, bL]
 have B : Bk p S.length k3.length S (1 + d3) 4 [] (S.set p (PL k3) ++ [PL [4, 1 + d3]] ++ [.lst []]) := by
  refine ⟨ls3.app.app, by have := hP.2; omega, hp, by simp, ⟨k3, ?_, rfl⟩, ?_, ?_, fun i hi hip => ?_⟩
  ·rw [rH (by simp; omega), rH (by simp; omega)]; exact P3.1
  ·rw [rH (by simp), <- hS3]; simp
  ·rw [show S.length + 1 = (S.set p (PL k3) ++ [PL [4, 1 + d3]]).length by simp]; simp [bls]
  ·rw [rH (by simp; omega), rH (by simp; omega), mO (Ne.symm hip)]
 obtain ⟨bs, T, l, e, B', g, nb⟩ := Ae (p := p) (most := most) (wild := decide (d2 = 0)) (mood := d1) h10 (by omega) (by omega) (by omega) z3 z8 (1 + d3).toNat 0 [] _ 4 B (by omega) (by simp; omega) (fun b hb => nomatch hb)
 have nb' : bs.length = (1 + d3).toNat := by rw [nb]; simp
 have hm : (bs.length : Int) = 1 + d3 := by omega
 rw [show ([PL [4, 1 + d3]] : aO) = [.lst [.int 4, .int (1 + d3)]] from rfl, show PL k3 = .lst (k3.map D.int) from rfl] at e
 simp! [e, nX B'.bod];obtain ⟨ks', hk, hkl⟩ := B'.pool;have hlen := B'.len;have et : (T.set (S.length + 1) Cell.dead).take S.length = S.set p (PL ks') := by
  apply gI
  intro i;rw [dW]
  by_cases hi : i < S.length
  ·rw [if_pos hi, mO (by omega)]
   by_cases hip : i = p
   ·rw [hip, hk, sL hP.1]
   ·rw [mO (Ne.symm hip)]; exact B'.old i hi hip
  ·rw [if_neg hi, cX (by simp; omega)]
 refine ⟨bs, ks', ?_, ⟨by omega, by omega, fun b hb => ?_⟩, fun b hb => (g b hb).2, by omega, by omega⟩
 ·show trunc S.length (.ok (.dat (.lst (bls bs))) (T.set (S.length + 1) Cell.dead)) = _
  dsimp only [trunc];rw [et];have : ((S.set p (PL ks')).all fun c => c.below S.length) = true := cD.mpr fun c hc => (LS.set ls : LS (S.set p (PL ks'))) c hc _
  simp only [Vl.below, this, Ha, if_true]
 ·have := (g b hb).2
  rw [hm];exact ⟨(g b hb).1, by omega⟩
def pre (i : Int) (p : List Int × Stt) : List Int × Stt := (i :: p.1, p.2)
theorem take_set {T : aO} {n c : Nat} {x : Cell} (h : n <= c) : (T.set c x).take n = T.take n := by
 apply gI
 intro i;rw [dW, dW]
 by_cases hi : i < n
 ·rw [if_pos hi, if_pos hi, mO (by omega)]
 ·rw [if_neg hi, if_neg hi]
theorem Jf {many : Int} : ∀ {l : List Stt} {n : Nat} {lv at_ met : Int} {path : List Int}, GdL many l n -> (∀ s ∈ l, s.size <= 9) -> 0 <= lv -> lv + n <= 3 -> at_ + l.length <= 8 -> met + bP l <= 12 -> 0 <= met -> 0 <= at_ -> wA lv path at_ l met = .okk (met + bP l)
 | [], n, lv, at_, met, path, h, _, h0, h3, h8, h12, hm, ha => by simp [wA, bP]
 | s :: r, n, lv, at_, met, path, h, h9, h0, h3, h8, h12, hm, ha => by
  have hp := size_pos s;have hs9 := h9 s (aT ..);simp only [bP, aR] at h8 h12;have hw : s.wf lv = true := by
   cases s with
   | cmd c => rfl
   | fin c => rfl
   | bad => exact h.1.elim
   | odd x => exact h.1.elim
   | keep b => have := h.1.1; simp [Stt.wf]; omega
   | again b => have := h.1.1; simp [Stt.wf]; omega
   | either a b => have := h.1.1; simp [Stt.wf]; omega
   | call g f a b => have := h.1.1.1; simp [Stt.wf]; omega
  rw [wA, if_neg (by rintro (e | e | e) <;> first | omega | (rw [hw] at e; cases e)), Gu (n := n) h.1 h0 h3 hs9 (by omega) (by omega), FR.then_okk, Jf (n := n) h.2 (fun s hs => h9 s (aJ _ hs)) h0 h3 (by omega) (by omega) (by omega) (by omega), bP]
  congr 1
  omega
theorem GdL.okTop {many : Int} : ∀ {l : List Stt} {n : Nat}, GdL many l n -> (∀ s ∈ l, s.size <= 9) -> l.length <= 10 -> OkL many l n
 | [], n, _, _, _ => trivial
 | s :: r, n, h, h9, hl => by
  simp only [aR] at hl;exact ⟨⟨Stt.Gd.ok h.1 (by have := h9 s (aT ..); omega), by omega⟩, GdL.okTop h.2 (fun s hs => h9 s (aJ _ hs)) (by omega)⟩
structure Good2 (bs : List (List Stt)) : Prop where
 l1 : 1 <= bs.length
 l3 : bs.length <= 3
 gd : ∀ b ∈ bs, GdL (bs.length : Int) b 3 /\ b.length <= 8 /\ bP b <= 12 /\ ∀ s ∈ b, s.size <= 9
theorem Bo : ∀ {l : List Stt} {s : Stt}, s ∈ l -> s.size <= bP l
 | x :: r, s, h => by
  rcases bM.mp h with rfl | h
  ·simp [bP]
  ·have := Bo h; simp [bP]; omega
theorem Good.two {bs : List (List Stt)} (h : Good bs) : Good2 bs := ⟨h.l1, h.l3, fun b hb => by
 obtain ⟨h1, h2⟩ := h.gd b hb;have := eB b;exact ⟨h1, by omega, by omega, fun s hs => by have := Bo hs; omega⟩⟩
theorem Good2.ok {bs : List (List Stt)} (h : Good2 bs) : ∀ b ∈ bs, OkL (bs.length : Int) b 3 := fun b hb => by
 obtain ⟨h1, h2, h3, h4⟩ := h.gd b hb;exact h1.okTop h4 (by omega)
theorem good2_none : ∀ {bs : List (List Stt)} {p many : Int}, (∀ b ∈ bs, GdL many b 3 /\ b.length <= 8 /\ bP b <= 12 /\ ∀ s ∈ b, s.size <= 9) -> zT p bs = none
 | [], p, many, _ => rfl
 | b :: r, p, many, h => by
  obtain ⟨h1, h2, h3, h4⟩ := h b (aT ..);rw [zT, Jf (n := 3) h1 h4 (by omega) (by omega) (by omega) (by omega) (by omega) (by omega)]
  exact good2_none fun b hb => h b (aJ _ hb)
theorem Hv {S : aO} {bs : List (List Stt)} (ls : LS S) (h : Good2 bs) : Dk false "Book" kT [.dat (.lst (bls bs))] S = .ok (.dat (gB bs)) S := by
 rw [Pq ls h.ok (by omega) rfl h.l1 h.l3, good2_none h.gd]
def Cmd.word : Cmd -> Str
 | .go _ => "go"
 | .turn _ => "turn"
 | .mirror => "mirror"
 | .scale _ => "scale"
 | .aim _ _ => "aim"
 | .place _ _ => "place"
 | .mark => "mark"
 | .ret => "return"
 | .exch => "exchange"
def Stt.word : Stt -> Str
 | .cmd c => c.word
 | .fin _ => "end"
 | .keep _ => "keep"
 | .again _ => "again"
 | .either _ _ => "either"
 | .call _ _ _ _ => "call"
 | _ => "bad"
theorem BV {s : Stt} {S : aO} (h : s.isOdd = false) : bO (.dat s.d) (.dat (.int 0)) S = .ok (.dat (.str s.word)) S := by
 cases s with
 | cmd c => cases c <;> rfl
 | odd x => cases h
 | _ => rfl
def stZ : List Int -> List Stt -> Option Stt
 | [], _ => none
 | [i], l => if 0 <= i then l[i.toNat]? else none
 | i :: j :: r, l => if 0 <= i /\ 0 <= j then (match l[i.toNat]? with
  | some s => (match s.blocks[j.toNat]? with
   | some b => stZ r b
   | none => none)
  | none => none) else none
theorem RD {S : aO} {a0 a1 : Option Vl} {many : Int} : ∀ (m : Nat) (π : List Int) (l : List Stt) (k n : Nat) (x : Vl) (s : Stt), π.length <= m -> OkL many l k -> n % 2 = 0 -> stZ π l = some s ->
  ∃ (b : Vl), loop (.tp [4, 5]) jE (eA n (π.map D.int)) [a0, a1, some x, some (.dat (.lst (bE l))), none, none] S = .next [a0, a1, some (.dat s.d), some b, none, none] S /\ ∃ j, j <= k /\ s.Ok many j
 | m, [], l, k, n, x, s, _, _, _, h => by cases h
 | m, [i], l, k, n, x, s, hm, ho, hn, h => by
  simp only [stZ] at h;split at h
  ·rename_i hi
   have hlt : i.toNat < l.length := (aH.mp h).1;have hs := ho.mem s (bI h);have hix : atI (bE l) i = some s.d := by
    rw [gV (n := i.toNat) (by omega), pR, bN, h]
    rfl
   rw [aM, eA, loop];simp only [oG, jW, aR, cY, if_true, bW, cK];rw [jE];simp! [eD, decide_eq_true hi, cV, decide_eq_true (show i < (l.length : Int) by omega), lO (show (0 : Int) < 2 by decide), decide_eq_true (show ((n : Nat) : Int) % 2 = 0 by omega), tV hix, wD hs.no, bD, eA, loop]
   exact ⟨_, rfl, k, bV _, hs⟩
  ·cases h
 | 0, i :: j :: r, l, k, n, x, s, hm, _, _, _ => by simp at hm
 | m + 1, i :: j :: r, l, k, n, x, s, hm, ho, hn, h => by
  simp only [stZ] at h;split at h
  ·rename_i hij
   cases q : l[i.toNat]? with
   | none => rw [q] at h; cases h
   | some t =>
    rw [q] at h;dsimp only at h;cases q2 : t.blocks[j.toNat]? with
    | none => rw [q2] at h; cases h
    | some b =>
     rw [q2] at h;dsimp only at h;have hlt : i.toNat < l.length := (aH.mp q).1;have hlt2 : j.toNat < t.blocks.length := (aH.mp q2).1;have ht := ho.mem t (bI q);obtain ⟨hk, hb⟩ := wC ht b (bI q2);have hix : atI (bE l) i = some t.d := by
      rw [gV (n := i.toNat) (by omega), pR, bN, q]
      rfl
     have hix2 : atI (bls t.blocks) j = some (.lst (bE b)) := by
      rw [gV (n := j.toNat) (by omega)]
      simp [bls, q2]
     simp only [aR] at hm;obtain ⟨c, e, j', h1, h2⟩ := RD (S := S) (a0 := a0) (a1 := a1) m r b (k - 1) (n + 1 + 1) (.dat t.d) s (by omega) hb (by omega) h
     refine ⟨c, ?_, j', by omega, h2⟩
     rw [aM, aM, eA, loop];simp only [oG, jW, aR, cY, if_true, bW, cK];rw [jE];simp! [eD, decide_eq_true hij.1, cV, decide_eq_true (show i < (l.length : Int) by omega), lO (show (0 : Int) < 2 by decide), decide_eq_true (show ((n : Nat) : Int) % 2 = 0 by omega), tV hix, wD ht.no]
     rw [eA, loop];simp only [oG, jW, aR, cY, if_true, bW, cK];simp! [eD, decide_eq_true hij.2, wB, decide_eq_true (show j < (t.blocks.length : Int) by omega), lO (show (0 : Int) < 2 by decide), decide_eq_false (show ¬ ((n + 1 : Nat) : Int) % 2 = 0 by omega), tV hix2]
     rw [<- jE];exact e
  ·cases h
theorem NT {S : aO} {bs : List (List Stt)} {p : Int} (hl : bs.length <= 10) : kD [.dat (gB bs), .dat (.int p)] S = .ok (.dat (.bl (decide (0 <= p) && decide (p < (bs.length : Int))))) S := by
 rw [BE];unfold kE;simp! [eD, N4 hl]
 by_cases h : 0 <= p
 ·simp! [decide_eq_true h, N4 hl]; rfl
 ·simp! [decide_eq_false h]; rfl
mutual
def repS (x : D) (k : Nat) : Stt -> Stt
 | .keep b => .keep (repL x k b)
 | .again b => .again (repL x k b)
 | .either a b => if k < bP a then .either (repL x k a) b else .either a (repL x (k - bP a) b)
 | .call g f a b => if k < bP a then .call g f (repL x k a) b else .call g f a (repL x (k - bP a) b)
 | s => s
def repL (x : D) (k : Nat) : List Stt -> List Stt
 | [] => []
 | s :: r => if k = 0 then .odd x :: r else if k < s.size then repS x (k - 1) s :: r else s :: repL x (k - s.size) r
end
inductive Deed where
 | cmd (c : Cmd) | op | cl
def Deed.d : Deed -> D
 | .cmd c => c.d
 | .op => .tup [.str "open"]
 | .cl => .tup [.str "close"]
abbrev eN := Int × Bool × List Stt × List Stt
def SB (c : eN) : D := (Stt.call c.1 c.2.1 c.2.2.1 c.2.2.2).d
inductive Task where
 | lst (l : List Stt) (i : Nat) | close | again (b : List Stt) | call (p : Nat) (st : Option eN)
def Task.d : Task -> D
 | .lst l i => .tup [.str "list", .lst (bE l), .int (i : Int)]
 | .close => .tup [.str "close"]
 | .again b => .tup [.str "again", .lst (bE b)]
 | .call p none => .tup [.str "call", .int (p : Int), .non]
 | .call p (some c) => .tup [.str "call", .int (p : Int), SB c]
structure Mc where
 bs : List (List Stt)
 bits : List Int
 taken : Nat
 deeds : List Deed
 stk : List Task
 act : List (List Nat)
 ended : Int
def uR {α : Type} (f : α -> D) (l : List α) : List D := l.reverse.map f
theorem rvD_cons {α : Type} {f : α -> D} {x : α} {l : List α} : uR f (x :: l) = uR f l ++ [f x] := by simp [uR]
theorem oI {α : Type} {f : α -> D} {l : List α} : (uR f l).length = l.length := by simp [uR]
abbrev CB (n : Nat) : D := .int (n : Int)
def ID (n : Nat) (m : Mc) : Cell := .ins "Execution" [("own", .dat (.lst (bls m.bs))), ("bits", .dat (.lst (m.bits.map D.int))), ("taken", .dat (.int (m.taken : Int))), ("deeds", .cel (n + 1)), ("stack", .cel (n + 2)), ("active", .cels (eV (n + 3) m.act.length)), ("ended", .dat (.int m.ended))]
def eG (S0 : aO) (m : Mc) : aO := S0 ++ (ID S0.length m :: .lst (m.deeds.map Deed.d) :: .lst (uR Task.d m.stk) :: m.act.map fun a => .lst (uR CB a))
section
variable {S0 : aO} {m : Mc}
theorem rC : (eG S0 m)[S0.length]? = some (ID S0.length m) := by simp [eG]
theorem CU : (eG S0 m)[S0.length + 1]? = some (.lst (m.deeds.map Deed.d)) := by
 rw [eG, bB (by omega), show S0.length + 1 - S0.length = 1 by omega]; rfl
theorem vK : (eG S0 m)[S0.length + 2]? = some (.lst (uR Task.d m.stk)) := by
 rw [eG, bB (by omega), show S0.length + 2 - S0.length = 2 by omega]; rfl
theorem CV {p : Nat} {a : List Nat} (h : m.act[p]? = some a) : (eG S0 m)[S0.length + 3 + p]? = some (.lst (uR CB a)) := by
 rw [eG, bB (by omega), show S0.length + 3 + p - S0.length = p + 1 + 1 + 1 by omega, mI, mI, mI, bN, h]
 rfl
theorem Jh {c : Cell} : (eG S0 m).set S0.length c = S0 ++ (c :: .lst (m.deeds.map Deed.d) :: .lst (uR Task.d m.stk) :: m.act.map fun a => .lst (uR CB a)) := by simp [eG]
theorem Qr {t : Nat} : (eG S0 m).set S0.length (ID S0.length { m with taken := t }) = eG S0 { m with taken := t } := by rw [Jh]; rfl
theorem Qs {w : Int} : (eG S0 m).set S0.length (ID S0.length { m with ended := w }) = eG S0 { m with ended := w } := by rw [Jh]; rfl
theorem Qt {ds : List Deed} : (eG S0 m).set (S0.length + 1) (.lst (ds.map Deed.d)) = eG S0 { m with deeds := ds } := by
 rw [eG, dE _ _ (by omega), show S0.length + 1 - S0.length = 1 by omega]; rfl
theorem F5 {ks : List Task} : (eG S0 m).set (S0.length + 2) (.lst (uR Task.d ks)) = eG S0 { m with stk := ks } := by
 rw [eG, dE _ _ (by omega), show S0.length + 2 - S0.length = 2 by omega]; rfl
theorem Jg {p : Nat} {a : List Nat} : (eG S0 m).set (S0.length + 3 + p) (.lst (uR CB a)) = eG S0 { m with act := m.act.set p a } := by
 rw [eG, dE _ _ (by omega), show S0.length + 3 + p - S0.length = p + 1 + 1 + 1 by omega, bW, bW, bW]
 simp [eG, ID, List.map_set]
theorem UH : BA "Execution" "own" (.cel S0.length) (eG S0 m) = .ok (.dat (.lst (bls m.bs))) (eG S0 m) := tE rC rfl
theorem F0 : BA "Execution" "bits" (.cel S0.length) (eG S0 m) = .ok (.dat (.lst (m.bits.map D.int))) (eG S0 m) := tE rC rfl
theorem nQ : BA "Execution" "taken" (.cel S0.length) (eG S0 m) = .ok (.dat (.int (m.taken : Int))) (eG S0 m) := tE rC rfl
theorem pO : BA "Execution" "deeds" (.cel S0.length) (eG S0 m) = .ok (.cel (S0.length + 1)) (eG S0 m) := tE rC rfl
theorem fE : BA "Execution" "stack" (.cel S0.length) (eG S0 m) = .ok (.cel (S0.length + 2)) (eG S0 m) := tE rC rfl
theorem AZ : BA "Execution" "active" (.cel S0.length) (eG S0 m) = .ok (.cels (eV (S0.length + 3) m.act.length)) (eG S0 m) := tE rC rfl
theorem O4 : BA "Execution" "ended" (.cel S0.length) (eG S0 m) = .ok (.dat (.int m.ended)) (eG S0 m) := tE rC rfl
theorem AS {p : Nat} (h : p < m.act.length) : bO (.cels (eV (S0.length + 3) m.act.length)) (.dat (.int (p : Int))) (eG S0 m) = .ok (.cel (S0.length + 3 + p)) (eG S0 m) := by
 have : atI (eV (S0.length + 3) m.act.length) (p : Int) = some (S0.length + 3 + p) := by
  rw [gV (n := p) rfl];simp [h]
 simp only [bO, this]
theorem zE {f : Str} (h : ∀ x ∈ (["own", "bits", "taken", "deeds", "stack", "active", "ended"] : List Str), x ≠ f) : pJ (eG S0 m) "Execution" f (.cel S0.length) = true := by
 have e := rC (S0 := S0) (m := m);simp only [pJ, e, ID];simp [h]
theorem KL {ρ : Ev} {w : Int} : xG "Execution" "ended" ρ (.dat (.int w)) (.cel S0.length) (eG S0 m) = .next ρ (eG S0 { m with ended := w }) := by
 rw [CP (fs := [("own", .dat (.lst (bls m.bs))), ("bits", .dat (.lst (m.bits.map D.int))), ("taken", .dat (.int (m.taken : Int))), ("deeds", .cel (S0.length + 1)), ("stack", .cel (S0.length + 2)), ("active", .cels (eV (S0.length + 3) m.act.length)), ("ended", .dat (.int m.ended))]) rC (by simp)]
 congr 1
 simp only [nJ, EW, String.reduceEq, if_false, if_true];exact Qs (S0 := S0) (m := m) (w := w)
theorem LW {ρ : Ev} {o e : FE} (ho : o ρ (eG S0 m) = .ok (.cel S0.length) (eG S0 m)) (he : e ρ (eG S0 m) = .ok (.dat (.int 1)) (eG S0 m)) : Df (fun x y => x + y) "Execution" "taken" o e ρ (eG S0 m) = .next ρ (eG S0 { m with taken := m.taken + 1 }) := by
 rw [RC (w := 1) (u := (m.taken : Int)) ho he rC rfl (by simp)]
 congr 1
 simp only [nJ, EW, String.reduceEq, if_false, if_true];exact Qr (S0 := S0) (m := m) (t := m.taken + 1)
end
theorem Hi {n : Nat} (h : n < 10000000) : n < sizeLine := Nat.lt_trans h (by decide)
structure Mc.Fit (m : Mc) : Prop where
 d : m.deeds.length < 4000000
 k : m.stk.length < 4000000
 a : ∀ a ∈ m.act, a.length < 4000000
section
variable {S0 : aO} {m : Mc}
theorem oT {ρ : Ev} {b : FE} {t : Task} (F : m.stk.length < 5000000) (hb : b ρ (eG S0 m) = .ok (.dat t.d) (eG S0 m)) : wN b ρ (.cel (S0.length + 2)) (eG S0 m) = .ok (.dat .non) (eG S0 { m with stk := t :: m.stk }) := by
 rw [lP vK, hb, eF, mR vK (by rw [oI]; exact Hi (by omega)), <- rvD_cons, F5]
theorem oX {ρ : Ev} {b : FE} {t : Deed} (F : m.deeds.length < 5000000) (hb : b ρ (eG S0 m) = .ok (.dat t.d) (eG S0 m)) : wN b ρ (.cel (S0.length + 1)) (eG S0 m) = .ok (.dat .non) (eG S0 { m with deeds := m.deeds ++ [t] }) := by
 rw [lP CU, hb, eF, mR CU (by rw [aN]; exact Hi (by omega)), show m.deeds.map Deed.d ++ [t.d] = (m.deeds ++ [t]).map Deed.d by simp, Qt]
theorem RE {ρ : Ev} {b : FE} {p k : Nat} {a : List Nat} (h : m.act[p]? = some a) (F : a.length < 5000000) (hb : b ρ (eG S0 m) = .ok (.dat (.int (k : Int))) (eG S0 m)) : wN b ρ (.cel (S0.length + 3 + p)) (eG S0 m) = .ok (.dat .non) (eG S0 { m with act := m.act.set p (k :: a) }) := by
 rw [lP (CV h), hb, eF, mR (CV h) (by rw [oI]; exact Hi (by omega)), show uR CB a ++ [.int (k : Int)] = uR CB (k :: a) from rvD_cons.symm, Jg]
theorem yN {t : Task} {r : List Task} (h : m.stk = t :: r) : rV (.cel (S0.length + 2)) (eG S0 m) = .ok (.dat t.d) (eG S0 { m with stk := r }) := by
 have e := vK (S0 := S0) (m := m);rw [h, rvD_cons] at e;simp only [rV, e];rw [show (uR Task.d r ++ [t.d])[(uR Task.d r ++ [t.d]).length - 1]? = some t.d by simp]
 dsimp only;rw [jV, F5]
theorem J9 {p k : Nat} {a : List Nat} (h : m.act[p]? = some (k :: a)) : rV (.cel (S0.length + 3 + p)) (eG S0 m) = .ok (.dat (.int (k : Int))) (eG S0 { m with act := m.act.set p a }) := by
 have e := CV (S0 := S0) h;rw [rvD_cons] at e;simp only [rV, e];rw [show (uR CB a ++ [CB k])[(uR CB a ++ [CB k]).length - 1]? = some (CB k) by simp]
 dsimp only;rw [jV, Jg]
end
def uZ (i : Int) : Er := ⟨"NoRun", ["index"], [.int i]⟩
theorem Iv {S0 : aO} {m : Mc} (h : m.taken = m.bits.length) : dP [.cel S0.length] (eG S0 m) = .err (uZ (m.taken : Int)) (eG S0 m) := by
 rw [sD];unfold gU;simp! [nQ, F0, aN, decide_eq_true (show ((m.taken : Nat) : Int) = (m.bits.length : Int) by omega)]
 rfl
theorem Iu {S0 : aO} {m : Mc} {b : Int} (h : m.bits[m.taken]? = some b) : dP [.cel S0.length] (eG S0 m) = .ok (.dat (.int b)) (eG S0 { m with taken := m.taken + 1 }) := by
 have hl := (aH.mp h).1;have hix : atI (m.bits.map D.int) (((m.taken + 1 : Nat) : Int) - 1) = some (.int b) := by
  rw [gV (n := m.taken) (by omega), bN, h]; rfl
 have ea := LW (S0 := S0) (m := m) (ρ := [some (.cel S0.length)]) (o := aC 0) (e := mC (.int 1)) rfl rfl;have hf := nQ (S0 := S0) (m := { m with taken := m.taken + 1 })
 have hb := F0 (S0 := S0) (m := { m with taken := m.taken + 1 })
 rw [sD];unfold gU;simp! [nQ, F0, aN, decide_eq_false (show ¬ ((m.taken : Nat) : Int) = (m.bits.length : Int) by omega), ea, hf, hb, tV hix]
 rfl
def Iw : Option eN -> D
 | none => .non
 | some c => SB c
theorem IX {p : Nat} {st : Option eN} : (Task.call p st).d = .tup [.str "call", .int (p : Int), Iw st] := by cases st <;> rfl
def Mc.free (m : Mc) (p : Nat) : Prop := ∀ a k, m.act[p]? = some (k :: a) -> k ≠ m.taken
def Mc.enter (m : Mc) (p : Nat) (a : List Nat) (b : List Stt) (st : Option eN) : Mc := { m with act := m.act.set p (m.taken :: a), stk := .lst b 0 :: .call p st :: m.stk }
theorem JP {S0 : aO} {m : Mc} {p : Nat} {a : List Nat} (h : m.act[p]? = some a) : eT (.cel (S0.length + 3 + p)) (eG S0 m) = .ok (.dat (.int (a.length : Int))) (eG S0 m) := by rw [nW (CV h), oI]
theorem atI_last {α : Type} {xs : List α} {x : α} : atI (xs ++ [x]) (-1) = some x := by
 have e : ixN (xs ++ [x]).length (-1) = some xs.length := by
  unfold ixN;rw [if_neg (by omega), if_pos (by simp; omega)]
  congr 1
  simp;omega
 unfold atI;rw [e];simp
theorem GN {S0 : aO} {m : Mc} {p k : Nat} {a : List Nat} (h : m.act[p]? = some (k :: a)) : bO (.cel (S0.length + 3 + p)) (.dat (.int (-1))) (eG S0 m) = .ok (.dat (.int (k : Int))) (eG S0 m) := by
 refine Jc (CV h) ?_
 rw [rvD_cons];exact atI_last
theorem H7 {S0 : aO} {m : Mc} {p : Nat} {a : List Nat} {b : List Stt} {st : Option eN} (F : m.Fit) (ha : m.act[p]? = some a) (hb : m.bs[p]? = some b) (hf : m.free p) : dZ [.cel S0.length, .dat (.int (p : Int)), .dat (Iw st)] (eG S0 m) = .ok (.dat .non) (eG S0 (m.enter p a b st)) := by
 have hpl := (aH.mp ha).1;have hbx : atI (bls m.bs) (p : Int) = some (.lst (bE b)) := by
  rw [gV (n := p) rfl];simp [bls, hb]
 have Fa := F.a a (bI ha);have Fk := F.k;rw [qR];unfold gD;have e1 := RE (S0 := S0) (m := m) (k := m.taken) (ρ := [some (.cel S0.length), some (.dat (.int (p : Int))), some (.dat (Iw st)), some (.cel (S0.length + 3 + p))]) (b := fY "Execution" "taken" (aC 0)) ha (by omega) (by simp! [nQ])
 have e2 := oT (S0 := S0) (m := { m with act := m.act.set p (m.taken :: a) }) (ρ := [some (.cel S0.length), some (.dat (.int (p : Int))), some (.dat (Iw st)), some (.cel (S0.length + 3 + p))]) (b := cH (aB (mC (.str "call")) (aB (aC 1) (aB (aC 2) aK)))) (t := .call p st) (show m.stk.length < 5000000 by omega) (by simp! [IX])
 have hbx' := hbx;have e3 := oT (S0 := S0) (m := { m with act := m.act.set p (m.taken :: a), stk := .call p st :: m.stk }) (ρ := [some (.cel S0.length), some (.dat (.int (p : Int))), some (.dat (Iw st)), some (.cel (S0.length + 3 + p))]) (b := cH (aB (mC (.str "list")) (aB (aP bO (fY "Execution" "own" (aC 0)) (aC 1)) (aB (mC (.int 0)) aK)))) (t := .lst b 0) (by simp; omega) (by simp! [UH, tV hbx]; rfl)
 have f2 := fE (S0 := S0) (m := { m with act := m.act.set p (m.taken :: a) })
 have f3 := fE (S0 := S0) (m := { m with act := m.act.set p (m.taken :: a), stk := .call p st :: m.stk })
 simp! [AZ, AS hpl, JP ha];cases a with
 | nil =>
  simp! [cY, lR, AZ, AS hpl, e1, f2, e2, f3, e3];rfl
 | cons k a =>
  have hne : ¬ ((k : Nat) : Int) = (m.taken : Int) := fun e => hf a k ha (by omega)
  have hpos : (0 : Int) < ((a.length + 1 : Nat) : Int) := by omega
  simp! [aR, decide_eq_true hpos, GN ha, nQ, decide_eq_false hne, AZ, AS hpl, e1, f2, e2, f3, e3];rfl
theorem OB {S0 : aO} {m : Mc} {p : Nat} {a : List Nat} {st : Option eN} (ha : m.act[p]? = some (m.taken :: a)) : dZ [.cel S0.length, .dat (.int (p : Int)), .dat (Iw st)] (eG S0 m) = .err (uZ (-2)) (eG S0 m) := by
 have hpl := (aH.mp ha).1;rw [qR];unfold gD;simp! [AZ, AS hpl, JP ha, aR, decide_eq_true (show (0 : Int) < ((a.length + 1 : Nat) : Int) by omega), GN ha, nQ]
 rfl
def Mc.leave (m : Mc) (p : Nat) (a : List Nat) (st : Option eN) (way : Int) : Mc := match st with
 | none => { m with act := m.act.set p a, ended := way }
 | some c => { m with act := m.act.set p a, deeds := m.deeds ++ (if c.2.1 then [.cl] else []), stk := .lst (if way = 0 then c.2.2.1 else c.2.2.2) 0 :: m.stk }
theorem NN {c : eN} {S : aO} : bO (.dat (SB c)) (.dat (.int 2)) S = .ok (.dat (.bl c.2.1)) S := pW
theorem I9 {c : eN} {S : aO} : bO (.dat (SB c)) (.dat (.int 3)) S = .ok (.dat (.lst [.lst (bE c.2.2.1), .lst (bE c.2.2.2)])) S := Ks
theorem NR {c : eN} : isNon (.dat (SB c)) = false := rfl
theorem GH {S0 : aO} {m : Mc} {p k : Nat} {a : List Nat} {st : Option eN} {way : Int} (F : m.Fit) (ha : m.act[p]? = some (k :: a)) (hw : way = 0 \/ way = 1) : fW [.cel S0.length, .dat (.int (p : Int)), .dat (Iw st), .dat (.int way)] (eG S0 m) = .ok (.dat .non) (eG S0 (m.leave p a st way)) := by
 have hpl := (aH.mp ha).1;have Fk := F.k;have Fd := F.d;rw [A8];unfold iR;cases st with
 | none =>
  have e1 := KL (S0 := S0) (m := { m with act := m.act.set p a }) (ρ := [some (.cel S0.length), some (.dat (.int (p : Int))), some (.dat .non), some (.dat (.int way))]) (w := way)
  simp! [Iw, AZ, AS hpl, J9 ha, e1];rfl
 | some c =>
  have hz : ∀ S, bO (.dat (.lst [.lst (bE c.2.2.1), .lst (bE c.2.2.2)])) (.dat (.int way)) S = .ok (.dat (.lst (bE (if way = 0 then c.2.2.1 else c.2.2.2)))) S := fun S => by
   rcases hw with rfl | rfl
   ·exact BB
   ·exact GX
  have e1 := oX (S0 := S0) (m := { m with act := m.act.set p a }) (ρ := [some (.cel S0.length), some (.dat (.int (p : Int))), some (.dat (SB c)), some (.dat (.int way))]) (b := cH (aB (mC (.str "close")) aK)) (t := .cl) (show m.deeds.length < 5000000 by omega) (by simp! [Deed.d])
  have e2 := fun ds => oT (S0 := S0) (m := { m with act := m.act.set p a, deeds := ds }) (ρ := [some (.cel S0.length), some (.dat (.int (p : Int))), some (.dat (SB c)), some (.dat (.int way))]) (b := cH (aB (mC (.str "list")) (aB (aP bO (aP bO (aC 2) (mC (.int 3))) (aC 3)) (aB (mC (.int 0)) aK)))) (t := .lst (if way = 0 then c.2.2.1 else c.2.2.2) 0) (show m.stk.length < 5000000 by omega) (by simp! [I9, hz]; rfl)
  have f1 := pO (S0 := S0) (m := { m with act := m.act.set p a })
  have f2 := fun ds => fE (S0 := S0) (m := { m with act := m.act.set p a, deeds := ds })
  have e2' := e2 m.deeds;have f2' := f2 m.deeds;simp! [Iw, AZ, AS hpl, J9 ha, NR, NN];cases q : c.2.1 with
  | true =>
   simp! [f1, e1, f2, e2];simp only [Mc.leave, q];rfl
  | false =>
   simp! [f2', e2'];simp only [Mc.leave, q];simp;rfl
def xV : List Task -> List Deed -> Option (List Deed × Nat × Option eN × List Task)
 | [], _ => none
 | .call p st :: r, ds => some (ds, p, st, r)
 | .close :: r, ds => xV r (ds ++ [.cl])
 | .lst _ _ :: r, ds => xV r ds
 | .again _ :: r, ds => xV r ds
def Task.word : Task -> Str
 | .lst _ _ => "list"
 | .close => "close"
 | .again _ => "again"
 | .call _ _ => "call"
theorem qF {t : Task} {S : aO} : bO (.dat t.d) (.dat (.int 0)) S = .ok (.dat (.str t.word)) S := by
 cases t with
 | call p st => cases st <;> rfl
 | _ => rfl
theorem BI {mt : FT} {mb : FS} {k : Nat} {ρ ρ' : Ev} {S S' : aO} (h1 : mt ρ S = .ok true S) (h2 : mb ρ S = .next ρ' S') : pY mt mb (k + 1) ρ S = pY mt mb k ρ' S' := by
 rw [pY, h1, lN, if_pos rfl, h2]
theorem Lu {mt : FT} {mb : FS} {k : Nat} {ρ : Ev} {S : aO} (h1 : mt ρ S = .ok false S) : pY mt mb (k + 1) ρ S = .next ρ S := by
 rw [pY, h1, lN, if_neg (by simp)]
theorem xY {S0 : aO} {way : Vl} : ∀ (ts : List Task) (t : Task) (m : Mc) (ds : List Deed) (p : Nat) (st : Option eN) (r : List Task) (k : Nat), m.stk = ts -> xV (t :: ts) m.deeds = some (ds, p, st, r) -> ts.length < k -> m.deeds.length + ts.length < 4500000 ->
  pY (mB (aP FN (aP bO (aC 2) (mC (.int 0))) (mC (.str "call")))) dO k [some (.cel S0.length), some way, some (.dat t.d)] (eG S0 m) = .next [some (.cel S0.length), some way, some (.dat (Task.call p st).d)] (eG S0 { m with stk := r, deeds := ds })
 | ts, .call p' st', m, ds, p, st, r, k, hs, hu, hk, hd => by
  obtain ⟨k, rfl⟩ : ∃ k', k = k' + 1 := ⟨k - 1, by omega⟩
  simp only [xV] at hu;cases hu;rw [Lu (by simp! [qF, Task.word])]
  subst hs;rfl
 | [], .close, m, ds, p, st, r, k, hs, hu, hk, hd => by simp [xV] at hu
 | [], .lst _ _, m, ds, p, st, r, k, hs, hu, hk, hd => by simp [xV] at hu
 | [], .again _, m, ds, p, st, r, k, hs, hu, hk, hd => by simp [xV] at hu
 | t' :: ts, .close, m, ds, p, st, r, k, hs, hu, hk, hd => by
  simp only [aR] at hk hd;obtain ⟨k, rfl⟩ : ∃ k', k = k' + 1 := ⟨k - 1, by omega⟩
  have e1 := oX (S0 := S0) (m := m) (ρ := [some (.cel S0.length), some way, some (.dat Task.close.d)]) (b := aC 2) (t := .cl) (by omega) rfl
  have f2 := fE (S0 := S0) (m := { m with deeds := m.deeds ++ [.cl] })
  have e2 := yN (S0 := S0) (m := { m with deeds := m.deeds ++ [.cl] }) (t := t') (r := ts) hs
  rw [BI (ρ' := [some (.cel S0.length), some way, some (.dat t'.d)]) (S' := eG S0 { m with deeds := m.deeds ++ [.cl], stk := ts }) (by simp! [qF, Task.word]) (by unfold dO; simp! [qF, Task.word, pO, e1, f2, e2])]
  exact xY ts t' { m with deeds := m.deeds ++ [.cl], stk := ts } ds p st r k rfl (by simpa [xV] using hu) (by omega) (by simp; omega)
 | t' :: ts, .lst l i, m, ds, p, st, r, k, hs, hu, hk, hd => by
  simp only [aR] at hk hd;obtain ⟨k, rfl⟩ : ∃ k', k = k' + 1 := ⟨k - 1, by omega⟩
  have e2 := yN (S0 := S0) (m := m) (t := t') (r := ts) hs;rw [BI (ρ' := [some (.cel S0.length), some way, some (.dat t'.d)]) (S' := eG S0 { m with stk := ts }) (by simp! [qF, Task.word]) (by unfold dO; simp! [qF, Task.word, fE, e2])]
  exact xY ts t' { m with stk := ts } ds p st r k rfl (by simpa [xV] using hu) (by omega) (by simp; omega)
 | t' :: ts, .again l, m, ds, p, st, r, k, hs, hu, hk, hd => by
  simp only [aR] at hk hd;obtain ⟨k, rfl⟩ : ∃ k', k = k' + 1 := ⟨k - 1, by omega⟩
  have e2 := yN (S0 := S0) (m := m) (t := t') (r := ts) hs;rw [BI (ρ' := [some (.cel S0.length), some way, some (.dat t'.d)]) (S' := eG S0 { m with stk := ts }) (by simp! [qF, Task.word]) (by unfold dO; simp! [qF, Task.word, fE, e2])]
  exact xY ts t' { m with stk := ts } ds p st r k rfl (by simpa [xV] using hu) (by omega) (by simp; omega)
theorem GV {p : Nat} {st : Option eN} {S : aO} : bO (.dat (Task.call p st).d) (.dat (.int 1)) S = .ok (.dat (.int (p : Int))) S := by rw [IX]; exact fZ
theorem GU {p : Nat} {st : Option eN} {S : aO} : bO (.dat (Task.call p st).d) (.dat (.int 2)) S = .ok (.dat (Iw st)) S := by rw [IX]; exact pW
theorem xZ : ∀ {ts : List Task} {d0 ds : List Deed} {p : Nat} {st : Option eN} {r : List Task}, xV ts d0 = some (ds, p, st, r) -> ds.length + r.length < d0.length + ts.length /\ r.length < ts.length
 | .call p st :: r, d0, ds, p', st', r', h => by simp [xV] at h; obtain ⟨rfl, rfl, rfl, rfl⟩ := h; simp
 | .close :: r, d0, ds, p', st', r', h => by
  have := xZ (ts := r) (show xV r (d0 ++ [.cl]) = _ from h)
  simp at this ⊢;omega
 | .lst _ _ :: r, d0, ds, p', st', r', h => by
  have := xZ (ts := r) (show xV r d0 = _ from h)
  simp;omega
 | .again _ :: r, d0, ds, p', st', r', h => by
  have := xZ (ts := r) (show xV r d0 = _ from h)
  simp;omega
structure Mc.Sm (m : Mc) : Prop where
 k : m.stk.length < 900000
 d : m.deeds.length < 900000
 a : ∀ a ∈ m.act, a.length < 900000
theorem Mc.Sm.fit {m : Mc} (h : m.Sm) : m.Fit := ⟨by have := h.d; omega, by have := h.k; omega, fun a ha => by have := h.a a ha; omega⟩
theorem K4 {S0 : aO} {m : Mc} {way : Int} {ds : List Deed} {p k : Nat} {st : Option eN} {r : List Task} {a : List Nat} (F : m.Sm) (hu : xV m.stk m.deeds = some (ds, p, st, r)) (ha : m.act[p]? = some (k :: a)) (hw : way = 0 \/ way = 1) :
  hC [.cel S0.length, .dat (.int way)] (eG S0 m) = .ok (.dat .non) (eG S0 (({ m with stk := r, deeds := ds } : Mc).leave p a st way)) := by
 have Fk := F.k;have Fd := F.d;cases hs : m.stk with
 | nil => rw [hs] at hu; simp [xV] at hu
 | cons t ts =>
  rw [hs] at hu;have hlen := xZ hu;rw [hs] at Fk;simp only [aR] at Fk hlen;have e1 := yN (S0 := S0) hs;have e2 := xY (S0 := S0) (way := .dat (.int way)) ts t { m with stk := ts } ds p st r 1000000 rfl hu (by omega) (by simp; omega)
  have e3 := GH (S0 := S0) (m := { m with stk := r, deeds := ds }) (st := st) (way := way) ⟨by simp; omega, by simp; omega, F.fit.a⟩ ha hw
  have hi := zE (S0 := S0) (m := { m with stk := r, deeds := ds }) (f := "leave") (by decide)
  rw [xS];unfold iB;simp! [fE, e1, AO, e2, hY hi, GV, GU, e3];rfl
inductive SR where
 | ok (m : Mc) | err (i : Int) (m : Mc) | no
def gT (s : Stt) (m : Mc) : SR := match s with
 | .cmd c => .ok { m with deeds := m.deeds ++ [.cmd c] }
 | .fin w => (match xV m.stk m.deeds with
  | some (ds, p, st, r) => (match m.act[p]? with
   | some (_ :: a) => .ok (({ m with stk := r, deeds := ds } : Mc).leave p a st w)
   | _ => .no)
  | none => .no)
 | .keep b => .ok { m with deeds := m.deeds ++ [.op], stk := .lst b 0 :: .close :: m.stk }
 | .either x y => (match m.bits[m.taken]? with
  | none => .err (m.taken : Int) m
  | some b => .ok { m with taken := m.taken + 1, stk := .lst (if b = 0 then x else y) 0 :: m.stk })
 | .again b => .ok { m with stk := .again b :: m.stk }
 | .call g f x y => (match m.act[g.toNat]?, m.bs[g.toNat]? with
  | some a, some b => if a.head? = some m.taken then .err (-2) { m with deeds := m.deeds ++ (if f then [.op] else []) } else .ok (({ m with deeds := m.deeds ++ (if f then [.op] else []) } : Mc).enter g.toNat a b (some (g, f, x, y)))
  | _, _ => .no)
 | _ => .no
def eJ (m : Mc) : SR := match m.stk with
 | [] => .no
 | .lst l i :: r => (match l[i]? with
  | none => .ok { m with stk := r }
  | some s => gT s { m with stk := .lst l (i + 1) :: r })
 | .close :: r => .ok { m with stk := r, deeds := m.deeds ++ [.cl] }
 | .again b :: r => (match m.bits[m.taken]? with
  | none => .err (m.taken : Int) { m with stk := r }
  | some x => if x = 1 then .ok { m with taken := m.taken + 1, stk := .lst b 0 :: .again b :: r } else .ok { m with taken := m.taken + 1, stk := r })
 | .call p st :: r => (match m.act[p]? with
  | some (_ :: a) => .ok (({ m with stk := r } : Mc).leave p a st 0)
  | _ => .no)
def Ua (r : Res Vl) (S0 : aO) (x : SR) : Prop := match x with
 | .ok m => r = .ok (.dat .non) (eG S0 m)
 | .err i m => r = .err (uZ i) (eG S0 m)
 | .no => True
structure Mc.Wf (m : Mc) : Prop where
 t : m.taken <= m.bits.length
 b : ∀ b ∈ m.bits, b = 0 \/ b = 1
theorem OU {S0 : aO} {m m' : Mc} {ρ : Ev} {b : FE} {t : Task} (F : m'.stk.length < 5000000) (hb : b ρ (eG S0 m) = .ok (.dat t.d) (eG S0 m')) : wN b ρ (.cel (S0.length + 2)) (eG S0 m) = .ok (.dat .non) (eG S0 { m' with stk := t :: m'.stk }) := by
 rw [lP vK, hb, eF, mR vK (by rw [oI]; exact Hi (by omega)), <- rvD_cons, F5]
theorem OT {S0 : aO} {m m' : Mc} {ρ : Ev} {b : FE} {e : Er} (hb : b ρ (eG S0 m) = .err e (eG S0 m')) : wN b ρ (.cel (S0.length + 2)) (eG S0 m) = .err e (eG S0 m') := by
 rw [lP vK, hb, CQ]
theorem OP {S0 : aO} {m : Mc} {s : Stt} {many : Int} {k : Nat} (ho : s.Ok many k) (F : m.Sm) (W : m.Wf) : Ua (iN [.cel S0.length, .dat s.d] (eG S0 m)) S0 (gT s m) := by
 have Fk := F.k;have Fd := F.d;rw [A9];unfold iS;cases s with
 | bad => trivial
 | odd x => trivial
 | cmd c =>
  have e1 := oX (S0 := S0) (m := m) (ρ := [some (.cel S0.length), some (.dat c.d), some (.dat (.str (Stt.cmd c).word))]) (b := aC 1) (t := .cmd c) (by omega) rfl
  have hw : ∀ S, bO (.dat c.d) (.dat (.int 0)) S = .ok (.dat (.str (Stt.cmd c).word)) S := fun S => BV (s := .cmd c) rfl
  show _ = _
  simp! [Stt.d, hw, Et ho, pO, e1];rfl
 | fin w =>
  simp only [gT];cases hu : xV m.stk m.deeds with
  | none => trivial
  | some x =>
   obtain ⟨ds, p, st, r⟩ := x;dsimp only;cases ha : m.act[p]? with
   | none => trivial
   | some l =>
    cases l with
    | nil => trivial
    | cons k0 a =>
     have e1 := K4 (S0 := S0) (way := w) F hu ha (by obtain ⟨h1, h2⟩ := ho; omega)
     have hi := zE (S0 := S0) (m := m) (f := "unwind") (by decide)
     show _ = _
     simp! [Stt.d, cM, fZ, iU JW, hY hi, e1];rfl
 | keep b =>
  have e1 := oX (S0 := S0) (m := m) (ρ := [some (.cel S0.length), some (.dat (.tup [.str "keep", .lst (bE b)])), some (.dat (.str "keep"))]) (b := cH (aB (mC (.str "open")) aK)) (t := .op) (by omega) (by simp! [Deed.d])
  have e2 := oT (S0 := S0) (m := { m with deeds := m.deeds ++ [.op] }) (ρ := [some (.cel S0.length), some (.dat (.tup [.str "keep", .lst (bE b)])), some (.dat (.str "keep"))]) (b := cH (aB (mC (.str "close")) aK)) (t := .close) (show m.stk.length < 5000000 by omega) (by simp! [Task.d])
  have e3 := oT (S0 := S0) (m := { m with deeds := m.deeds ++ [.op], stk := .close :: m.stk }) (ρ := [some (.cel S0.length), some (.dat (.tup [.str "keep", .lst (bE b)])), some (.dat (.str "keep"))]) (b := cH (aB (mC (.str "list")) (aB (aP bO (aC 1) (mC (.int 1))) (aB (mC (.int 0)) aK)))) (t := .lst b 0) (by simp; omega) (by simp! [fZ]; rfl)
  have f2 := fE (S0 := S0) (m := { m with deeds := m.deeds ++ [.op] })
  have f3 := fE (S0 := S0) (m := { m with deeds := m.deeds ++ [.op], stk := .close :: m.stk })
  show _ = _
  simp! [Stt.d, cM, iU CN, pO, e1, f2, e2, f3, e3];rfl
 | either x y =>
  simp only [gT];have hi := zE (S0 := S0) (m := m) (f := "take") (by decide)
  cases hb : m.bits[m.taken]? with
  | none =>
   have e1 := Iv (S0 := S0) (m := m) (by have := W.t; have := kF.mp hb; omega)
   have e2 := OT (S0 := S0) (m := m) (m' := m) (e := uZ (m.taken : Int)) (ρ := [some (.cel S0.length), some (.dat (.tup [.str "either", .lst (bE x), .lst (bE y)])), some (.dat (.str "either"))]) (b := cH (aB (mC (.str "list")) (aB (aP bO (aC 1) (aP (dA false) (mC (.int 1)) (pG "Execution" "take" dP (aC 0) aK))) (aB (mC (.int 0)) aK)))) (by simp! [hY hi, e1])
   show _ = _
   simp! [Stt.d, cM, iU tD, fE, e2];rfl
  | some b =>
   have e1 := Iu (S0 := S0) hb;have hix : ∀ S, bO (.dat (.tup [.str "either", .lst (bE x), .lst (bE y)])) (.dat (.int (1 + b))) S = .ok (.dat (.lst (bE (if b = 0 then x else y)))) S := fun S => by
    rcases W.b b (bI hb) with rfl | rfl
    ·exact fZ
    ·exact pW
   have e2 := OU (S0 := S0) (m := m) (m' := { m with taken := m.taken + 1 }) (ρ := [some (.cel S0.length), some (.dat (.tup [.str "either", .lst (bE x), .lst (bE y)])), some (.dat (.str "either"))]) (b := cH (aB (mC (.str "list")) (aB (aP bO (aC 1) (aP (dA false) (mC (.int 1)) (pG "Execution" "take" dP (aC 0) aK))) (aB (mC (.int 0)) aK)))) (t := .lst (if b = 0 then x else y) 0) (show m.stk.length < 5000000 by omega) (by simp! [hY hi, e1, hix]; rfl)
   show _ = _
   simp! [Stt.d, cM, iU tD, fE, e2];rfl
 | again b =>
  have e2 := oT (S0 := S0) (m := m) (ρ := [some (.cel S0.length), some (.dat (.tup [.str "again", .lst (bE b)])), some (.dat (.str "again"))]) (b := cH (aB (mC (.str "again")) (aB (aP bO (aC 1) (mC (.int 1))) aK))) (t := .again b) (by omega) (by simp! [fZ]; rfl)
  show _ = _
  simp! [Stt.d, cM, iU AU, fE, e2];rfl
 | call g f x y =>
  obtain ⟨⟨_, g0, g1⟩, _⟩ := ho;simp only [gT];have hgn : g = (g.toNat : Int) := by omega
  cases ha : m.act[g.toNat]? with
  | none => trivial
  | some a =>
   cases hb : m.bs[g.toNat]? with
   | none => trivial
   | some b =>
    dsimp only;have main : ∀ ds : List Deed, ds.length <= m.deeds.length + 1 -> Ua (dZ [.cel S0.length, .dat (.int g), .dat (Iw (some (g, f, x, y)))] (eG S0 { m with deeds := ds })) S0 (if a.head? = some m.taken then .err (-2) { m with deeds := ds } else .ok (({ m with deeds := ds } : Mc).enter g.toNat a b (some (g, f, x, y)))) := fun ds hds => by
     rw [show (D.int g) = D.int ((g.toNat : Nat) : Int) by rw [<- hgn]]
     split
     ·rename_i hh
      cases a with
      | nil => simp at hh
      | cons k0 a =>
       simp at hh;subst hh;exact OB (m := { m with deeds := ds }) ha
     ·rename_i hh
      refine H7 (m := { m with deeds := ds }) ⟨by simp; omega, by simp; omega, F.fit.a⟩ ha hb (fun a' k' h' e => hh ?_)
      have h2 : m.act[g.toNat]? = some (k' :: a') := h';rw [ha] at h2;cases h2;simp [e]
    have hd : (Stt.call g f x y).d = Iw (some (g, f, x, y)) := rfl;have hsd : Iw (some (g, f, x, y)) = .tup [.str "call", .int g, .bl f, .lst [.lst (bE x), .lst (bE y)]] := rfl;have hi := fun ds => zE (S0 := S0) (m := { m with deeds := ds }) (f := "enter") (by decide)
    cases f with
    | false =>
     have mm := main m.deeds (by omega)
     have hi0 := hi m.deeds;simp only [Ai, if_false, cP];rw [hsd] at mm;simp! [Stt.d, cM, fZ, pW, iU zF, hY hi0]
     revert mm
     split
     ·intro mm
      have mm' : _ = _ := mm
      show _ = _
      simp! [mm'];rfl
     ·intro mm
      have mm' : _ = _ := mm
      show _ = _
      simp! [mm'];rfl
    | true =>
     have mm := main (m.deeds ++ [.op]) (by simp)
     have e1 := oX (S0 := S0) (m := m) (ρ := [some (.cel S0.length), some (.dat (.tup [.str "call", .int g, .bl true, .lst [.lst (bE x), .lst (bE y)]])), some (.dat (.str "call"))]) (b := cH (aB (mC (.str "open")) aK)) (t := .op) (by omega) (by simp! [Deed.d])
     simp only [if_true];rw [hsd] at mm;simp! [Stt.d, cM, fZ, pW, iU zF, pO, e1, hY (hi (m.deeds ++ [.op]))]
     revert mm
     split
     ·intro mm
      have mm' : _ = _ := mm
      show _ = _
      simp! [mm'];rfl
     ·intro mm
      have mm' : _ = _ := mm
      show _ = _
      simp! [mm'];rfl
def Oa (many : Int) (b : List Stt) : Prop := ∃ k, OkL many b k
def Task.OkT (many : Int) : Task -> Prop
 | .lst l _ => Oa many l
 | .close => True
 | .again b => Oa many b
 | .call _ none => True
 | .call _ (some c) => Oa many c.2.2.1 /\ Oa many c.2.2.2
theorem P4 {S0 : aO} {m : Mc} {many : Int} (T : ∀ t ∈ m.stk, t.OkT many) (F : m.Sm) (W : m.Wf) : Ua (jF [.cel S0.length] (eG S0 m)) S0 (eJ m) := by
 have Fk := F.k;have Fd := F.d;rw [Ag];unfold jN;cases hs : m.stk with
 | nil => simp only [eJ, hs]; trivial
 | cons t r =>
  have hT := T t (by rw [hs]; exact aT ..)
  rw [hs] at Fk;simp only [aR] at Fk;have ep := yN (S0 := S0) hs;simp only [eJ, hs];cases t with
  | lst l i =>
   obtain ⟨k, hl⟩ := hT;dsimp only;have h1 : ∀ S, bO (.dat (Task.lst l i).d) (.dat (.int 1)) S = .ok (.dat (.lst (bE l))) S := fun _ => fZ
   have h2 : ∀ S, bO (.dat (Task.lst l i).d) (.dat (.int 2)) S = .ok (.dat (.int (i : Int))) S := fun _ => pW
   cases hi : l[i]? with
   | none =>
    have := kF.mp hi
    show _ = _
    simp! [fE, ep, qF, Task.word, h1, h2, cV, decide_eq_false (show ¬ ((i : Nat) : Int) < (l.length : Int) by omega)]
    rfl
   | some s =>
    have hil := (aH.mp hi).1;have hs' := hl.mem s (bI hi);have hix : atI (bE l) (i : Int) = some s.d := by
     rw [gV (n := i) rfl, pR, bN, hi]; rfl
    have e1 := oT (S0 := S0) (m := { m with stk := r }) (ρ := [some (.cel S0.length), some (.dat (Task.lst l i).d)]) (b := cH (aB (mC (.str "list")) (aB (aP bO (aC 1) (mC (.int 1))) (aB (aP (dA false) (aP bO (aC 1) (mC (.int 2))) (mC (.int 1))) aK)))) (t := .lst l (i + 1)) (show r.length < 5000000 by omega) (by simp! [h1, h2]; rfl)
    have f1 := fE (S0 := S0) (m := { m with stk := r })
    have hi' := zE (S0 := S0) (m := { m with stk := .lst l (i + 1) :: r }) (f := "begin") (by decide)
    have bg := OP (S0 := S0) (m := { m with stk := .lst l (i + 1) :: r }) hs' ⟨by simp; omega, by simp; omega, F.a⟩ ⟨W.t, W.b⟩
    simp! [fE, ep, qF, Task.word, h1, h2, cV, decide_eq_true (show ((i : Nat) : Int) < (l.length : Int) by omega), f1, e1, tV hix, hY hi']
    revert bg
    cases gT s { m with stk := .lst l (i + 1) :: r } with
    | no => intro _; trivial
    | ok m' => intro bg; have bg' : _ = _ := bg; show _ = _; simp! [bg']; rfl
    | err j m' => intro bg; have bg' : _ = _ := bg; show _ = _; simp! [bg']; rfl
  | close =>
   dsimp only;have e1 := oX (S0 := S0) (m := { m with stk := r }) (ρ := [some (.cel S0.length), some (.dat Task.close.d)]) (b := aC 1) (t := .cl) (show m.deeds.length < 5000000 by omega) rfl
   have f1 := pO (S0 := S0) (m := { m with stk := r })
   show _ = _
   simp! [fE, ep, qF, Task.word, f1, e1];rfl
  | again b =>
   dsimp only;have h1 : ∀ S, bO (.dat (Task.again b).d) (.dat (.int 1)) S = .ok (.dat (.lst (bE b))) S := fun _ => fZ
   have hi := zE (S0 := S0) (m := { m with stk := r }) (f := "take") (by decide)
   cases hb : m.bits[m.taken]? with
   | none =>
    have e1 := Iv (S0 := S0) (m := { m with stk := r }) (by have := W.t; have := kF.mp hb; show m.taken = m.bits.length; omega)
    show _ = _
    simp! [fE, ep, qF, Task.word, hY hi, e1];rfl
   | some x =>
    have e1 := Iu (S0 := S0) (m := { m with stk := r }) hb
    rcases W.b x (bI hb) with rfl | rfl
    ·show _ = _
     simp! [fE, ep, qF, Task.word, hY hi, e1];rfl
    ·have e2 := oT (S0 := S0) (m := { m with stk := r, taken := m.taken + 1 }) (ρ := [some (.cel S0.length), some (.dat (Task.again b).d)]) (b := aC 1) (t := .again b) (show r.length < 5000000 by omega) rfl
     have f2 := fE (S0 := S0) (m := { m with stk := r, taken := m.taken + 1 })
     have e3 := oT (S0 := S0) (m := { m with stk := .again b :: r, taken := m.taken + 1 }) (ρ := [some (.cel S0.length), some (.dat (Task.again b).d)]) (b := cH (aB (mC (.str "list")) (aB (aP bO (aC 1) (mC (.int 1))) (aB (mC (.int 0)) aK)))) (t := .lst b 0) (by simp; omega) (by simp! [h1]; rfl)
     have f3 := fE (S0 := S0) (m := { m with stk := .again b :: r, taken := m.taken + 1 })
     show _ = _
     simp! [fE, ep, qF, Task.word, hY hi, e1, f2, e2, f3, e3];rfl
  | call p st =>
   dsimp only;cases ha : m.act[p]? with
   | none => trivial
   | some l =>
    cases l with
    | nil => trivial
    | cons k a =>
     have hi := zE (S0 := S0) (m := { m with stk := r }) (f := "leave") (by decide)
     have e1 := GH (S0 := S0) (m := { m with stk := r }) (st := st) (way := 0) ⟨by simp; omega, by simp; omega, F.fit.a⟩ ha (.inl rfl)
     show _ = _
     simp! [fE, ep, qF, Task.word, hY hi, GV, GU, e1];rfl
structure Mc.Keep (many : Int) (m m' : Mc) : Prop where
 bs : m'.bs = m.bs
 bits : m'.bits = m.bits
 tot : m'.stk.length + m'.deeds.length <= m.stk.length + m.deeds.length + 3
 act : ∀ a ∈ m'.act, ∃ b ∈ m.act, a.length <= b.length + 1
 al : m'.act.length = m.act.length
 tk : ∀ t ∈ m'.stk, t.OkT many
 wf : m'.Wf
theorem FG {l : List (List Nat)} {p : Nat} {a b : List Nat} (h : l[p]? = some b) (hl : a.length <= b.length + 1) : ∀ c ∈ l.set p a, ∃ d ∈ l, c.length <= d.length + 1 := fun c hc => by
 rcases sF hc with hc | hc
 ·exact ⟨c, hc, by omega⟩
 ·rw [hc]; exact ⟨b, bI h, hl⟩
theorem nR {l : List (List Nat)} : ∀ c ∈ l, ∃ d ∈ l, c.length <= d.length + 1 := fun c hc => ⟨c, hc, by omega⟩
theorem OkL.b {many : Int} {l : List Stt} {k : Nat} (h : OkL many l k) : Oa many l := ⟨k, h⟩
theorem CH {many : Int} {m0 m : Mc} {p k : Nat} {a : List Nat} {st : Option eN} {way : Int} (hb : m.bs = m0.bs) (hi : m.bits = m0.bits) (ht : m.stk.length + m.deeds.length + 1 <= m0.stk.length + m0.deeds.length + 1) (hact : m.act = m0.act) (ha : m.act[p]? = some (k :: a)) (T : ∀ t ∈ m.stk, t.OkT many) (hst : (Task.call p st).OkT many) (W : m.Wf) : Mc.Keep many m0 (m.leave p a st way) := by
 cases st with
 | none => exact ⟨hb, hi, by simp only [Mc.leave]; omega, by simp only [Mc.leave]; rw [hact] at ha ⊢; exact FG ha (by simp; omega), by simp [Mc.leave, hact], T, ⟨W.t, W.b⟩⟩
 | some c =>
  refine ⟨hb, hi, ?_, by simp only [Mc.leave]; rw [hact] at ha ⊢; exact FG ha (by simp; omega), by simp [Mc.leave, hact], fun t h => ?_, ⟨W.t, W.b⟩⟩
  ·simp only [Mc.leave, aR, bL]
   split <;> simp <;> omega
  ·simp only [Mc.leave] at h
   rcases bM.mp h with rfl | h
   ·show Oa many _
    split
    ·exact hst.1
    ·exact hst.2
   ·exact T t h
theorem BJ : ∀ {ts : List Task} {d0 ds : List Deed} {p : Nat} {st : Option eN} {r : List Task}, xV ts d0 = some (ds, p, st, r) -> Task.call p st ∈ ts /\ ∀ t ∈ r, t ∈ ts
 | .call p st :: r, d0, ds, p', st', r', h => by simp [xV] at h; obtain ⟨rfl, rfl, rfl, rfl⟩ := h; exact ⟨by simp, fun t ht => by simp [ht]⟩
 | .close :: r, d0, ds, p', st', r', h => by
  obtain ⟨h1, h2⟩ := BJ (ts := r) (show xV r (d0 ++ [.cl]) = _ from h)
  exact ⟨aJ _ h1, fun t ht => aJ _ (h2 t ht)⟩
 | .lst _ _ :: r, d0, ds, p', st', r', h => by
  obtain ⟨h1, h2⟩ := BJ (ts := r) (show xV r d0 = _ from h)
  exact ⟨aJ _ h1, fun t ht => aJ _ (h2 t ht)⟩
 | .again _ :: r, d0, ds, p', st', r', h => by
  obtain ⟨h1, h2⟩ := BJ (ts := r) (show xV r d0 = _ from h)
  exact ⟨aJ _ h1, fun t ht => aJ _ (h2 t ht)⟩
theorem IY {many : Int} {m m' : Mc} {s : Stt} {k : Nat} (ho : s.Ok many k) (hB : ∀ b ∈ m.bs, Oa many b) (T : ∀ t ∈ m.stk, t.OkT many) (W : m.Wf) (h : gT s m = .ok m') : Mc.Keep many m m' := by
 cases s with
 | bad => cases h
 | odd x => cases h
 | cmd c => cases h; exact ⟨rfl, rfl, by simp; omega, nR, rfl, T, ⟨W.t, W.b⟩⟩
 | fin w =>
  simp only [gT] at h;cases hu : xV m.stk m.deeds with
  | none => rw [hu] at h; cases h
  | some x =>
   obtain ⟨ds, p, st, r⟩ := x;rw [hu] at h;dsimp only at h;cases ha : m.act[p]? with
   | none => rw [ha] at h; cases h
   | some l =>
    rw [ha] at h;cases l with
    | nil => cases h
    | cons k0 a =>
     cases h;have hl := xZ hu;obtain ⟨u1, u2⟩ := BJ hu;exact CH (m0 := m) (m := { m with stk := r, deeds := ds }) rfl rfl (by simp; omega) rfl ha (fun t ht => T t (u2 t ht)) (T _ u1) ⟨W.t, W.b⟩
 | keep b =>
  cases h;refine ⟨rfl, rfl, by simp; omega, nR, rfl, fun t ht => ?_, ⟨W.t, W.b⟩⟩
  simp only [bM] at ht;rcases ht with rfl | rfl | ht
  ·exact ho.2.b
  ·trivial
  ·exact T t ht
 | either x y =>
  simp only [gT] at h;cases hb : m.bits[m.taken]? with
  | none => rw [hb] at h; cases h
  | some b =>
   rw [hb] at h;cases h;have hl := (aH.mp hb).1;refine ⟨rfl, rfl, by simp; omega, nR, rfl, fun t ht => ?_, ⟨hl, W.b⟩⟩
   rcases bM.mp ht with rfl | ht
   ·show Oa many _
    split
    ·exact ho.2.1.b
    ·exact ho.2.2.b
   ·exact T t ht
 | again b =>
  cases h;refine ⟨rfl, rfl, by simp; omega, nR, rfl, fun t ht => ?_, ⟨W.t, W.b⟩⟩
  rcases bM.mp ht with rfl | ht
  ·exact ho.2.b
  ·exact T t ht
 | call g f x y =>
  simp only [gT] at h;cases ha : m.act[g.toNat]? with
  | none => rw [ha] at h; cases h
  | some a =>
   cases hb : m.bs[g.toNat]? with
   | none => rw [ha, hb] at h; cases h
   | some b =>
    rw [ha, hb] at h;dsimp only at h;split at h
    ·cases h
    ·cases h
     refine ⟨rfl, rfl, ?_, ?_, by simp [Mc.enter], fun t ht => ?_, ⟨W.t, W.b⟩⟩
     ·simp only [Mc.enter, aR, bL]
      split <;> simp <;> omega
     ·exact FG ha (by simp)
     ·simp only [Mc.enter, bM] at ht
      rcases ht with rfl | rfl | ht
      ·exact hB b (bI hb)
      ·exact ⟨ho.2.1.b, ho.2.2.b⟩
      ·exact T t ht
theorem KG {many : Int} {m m' : Mc} (hB : ∀ b ∈ m.bs, Oa many b) (T : ∀ t ∈ m.stk, t.OkT many) (W : m.Wf) (h : eJ m = .ok m') : Mc.Keep many m m' := by
 cases hs : m.stk with
 | nil => simp only [eJ, hs] at h; cases h
 | cons t r =>
  have hT := T t (by rw [hs]; exact aT ..)
  have hr : ∀ t ∈ r, t.OkT many := fun t ht => T t (by rw [hs]; exact aJ _ ht)
  have hl : m.stk.length = r.length + 1 := by rw [hs]; rfl
  simp only [eJ, hs] at h;cases t with
  | lst l i =>
   obtain ⟨k, hlk⟩ := hT;dsimp only at h;cases hi : l[i]? with
   | none => rw [hi] at h; cases h; exact ⟨rfl, rfl, by simp; omega, nR, rfl, hr, ⟨W.t, W.b⟩⟩
   | some s =>
    rw [hi] at h;have kk := IY (m := { m with stk := .lst l (i + 1) :: r }) (hlk.mem s (bI hi)) hB (fun t ht => by
     rcases bM.mp ht with rfl | ht
     ·exact ⟨k, hlk⟩
     ·exact hr t ht) ⟨W.t, W.b⟩ h
    exact ⟨kk.bs, kk.bits, by have := kk.tot; simp at this; omega, kk.act, kk.al, kk.tk, kk.wf⟩
  | close => cases h; exact ⟨rfl, rfl, by simp; omega, nR, rfl, hr, ⟨W.t, W.b⟩⟩
  | again b =>
   dsimp only at h;cases hb : m.bits[m.taken]? with
   | none => rw [hb] at h; cases h
   | some x =>
    rw [hb] at h;have hbl := (aH.mp hb).1;dsimp only at h;split at h
    ·cases h
     refine ⟨rfl, rfl, by simp; omega, nR, rfl, fun t ht => ?_, ⟨hbl, W.b⟩⟩
     simp only [bM] at ht;rcases ht with rfl | rfl | ht
     ·exact hT
     ·exact hT
     ·exact hr t ht
    ·cases h
     exact ⟨rfl, rfl, by simp; omega, nR, rfl, hr, ⟨hbl, W.b⟩⟩
  | call p st =>
   dsimp only at h;cases ha : m.act[p]? with
   | none => rw [ha] at h; cases h
   | some l =>
    rw [ha] at h;cases l with
    | nil => cases h
    | cons k a =>
     cases h;exact CH (m0 := m) (m := { m with stk := r }) rfl rfl (by simp; omega) rfl ha hr hT ⟨W.t, W.b⟩
def runM : Nat -> Mc -> SR
 | 0, _ => .no
 | k + 1, m => match m.stk with
  | [] => .ok m
  | _ :: _ => match eJ m with
   | .ok m' => runM k m'
   | .err i m' => .err i m'
   | .no => .no
theorem Fs {S0 : aO} {many : Int} {a b c d e : Option Vl} : ∀ (k fuel : Nat) (m : Mc), k <= fuel -> (∀ b ∈ m.bs, Oa many b) -> (∀ t ∈ m.stk, t.OkT many) -> m.Wf -> m.stk.length + m.deeds.length + 3 * k <= 800000 -> (∀ a ∈ m.act, a.length + k <= 800000) ->
  match runM k m with
  | .ok m' => pY (mB (aP E6 (m1 eT (fY "Execution" "stack" (aC 5))) (mC (.int 0)))) eL fuel [a, b, c, d, e, some (.cel S0.length)] (eG S0 m) = .next [a, b, c, d, e, some (.cel S0.length)] (eG S0 m')
  | .err i m' => ∃ ρ', pY (mB (aP E6 (m1 eT (fY "Execution" "stack" (aC 5))) (mC (.int 0)))) eL fuel [a, b, c, d, e, some (.cel S0.length)] (eG S0 m) = .err (uZ i) ρ' (eG S0 m')
  | .no => True
 | 0, fuel, m, _, _, _, _, _, _ => trivial
 | k + 1, fuel, m, hf, hB, hT, W, ht, ha => by
  obtain ⟨f, rfl⟩ : ∃ f, fuel = f + 1 := ⟨fuel - 1, by omega⟩
  unfold runM;cases hs : m.stk with
  | nil =>
   dsimp only;have hl : eT (.cel (S0.length + 2)) (eG S0 m) = .ok (.dat (.int 0)) (eG S0 m) := by rw [nW vK, oI, hs]; rfl
   exact Lu (by simp! [fE, hl])
  | cons t r =>
   dsimp only;have hl : eT (.cel (S0.length + 2)) (eG S0 m) = .ok (.dat (.int ((r.length + 1 : Nat) : Int))) (eG S0 m) := by rw [nW vK, oI, hs]; rfl
   have h1 : (mB (aP E6 (m1 eT (fY "Execution" "stack" (aC 5))) (mC (.int 0)))) [a, b, c, d, e, some (.cel S0.length)] (eG S0 m) = .ok true (eG S0 m) := by simp! [fE, hl, decide_eq_true (show (0 : Int) < ((r.length + 1 : Nat) : Int) by omega)]
   have st := P4 (S0 := S0) hT ⟨by omega, by omega, fun a h => by have := ha a h; omega⟩ W
   have hi := zE (S0 := S0) (m := m) (f := "step") (by decide)
   revert st
   cases q : eJ m with
   | no => intro _; trivial
   | ok m' =>
    intro st;have st' : _ = _ := st;have K := KG hB hT W q;have ih := Fs (S0 := S0) (a := a) (b := b) (c := c) (d := d) (e := e) k f m' (by omega) (by rw [K.bs]; exact hB) K.tk K.wf (by have := K.tot; omega) (fun a h => by obtain ⟨b, h1, h2⟩ := K.act a h; have := ha b h1; omega)
    dsimp only;rw [BI h1 (ρ' := [a, b, c, d, e, some (.cel S0.length)]) (S' := eG S0 m') (by unfold eL; simp! [hY hi, st'])]
    exact ih
   | err i m' =>
    intro st;have st' : _ = _ := st;dsimp only;refine ⟨[a, b, c, d, e, some (.cel S0.length)], ?_⟩
    rw [pY, h1, lN, if_pos rfl, show eL [a, b, c, d, e, some (.cel S0.length)] (eG S0 m) = .err (uZ i) [a, b, c, d, e, some (.cel S0.length)] (eG S0 m') by unfold eL; simp! [hY hi, st']]
theorem CI {m : Mc} {p : Nat} {a : List Nat} {st : Option eN} {way : Int} : (m.leave p a st way).bits = m.bits /\ (m.leave p a st way).bs = m.bs := by cases st <;> exact ⟨rfl, rfl⟩
theorem IZ {s : Stt} {m m' : Mc} (h : gT s m = .ok m') : m'.bits = m.bits /\ m'.bs = m.bs := by
 cases s with
 | bad => cases h
 | odd x => cases h
 | cmd c => cases h; exact ⟨rfl, rfl⟩
 | keep b => cases h; exact ⟨rfl, rfl⟩
 | again b => cases h; exact ⟨rfl, rfl⟩
 | fin w =>
  simp only [gT] at h;split at h
  ·split at h
   ·cases h; exact CI
   ·cases h
  ·cases h
 | either x y =>
  simp only [gT] at h;split at h
  ·cases h
  ·cases h; exact ⟨rfl, rfl⟩
 | call g f x y =>
  simp only [gT] at h;split at h
  ·split at h
   ·cases h
   ·cases h; exact ⟨rfl, rfl⟩
  ·cases h
theorem KH {m m' : Mc} (h : eJ m = .ok m') : m'.bits = m.bits /\ m'.bs = m.bs := by
 unfold eJ at h;split at h
 ·cases h
 ·split at h
  ·cases h; exact ⟨rfl, rfl⟩
  ·have := IZ h; exact this
 ·cases h; exact ⟨rfl, rfl⟩
 ·split at h
  ·cases h
  ·split at h
   ·cases h; exact ⟨rfl, rfl⟩
   ·cases h; exact ⟨rfl, rfl⟩
 ·split at h
  ·cases h; exact CI
  ·cases h
theorem C4 : ∀ {k : Nat} {m m' : Mc}, runM k m = .ok m' -> m'.bits = m.bits /\ m'.bs = m.bs
 | 0, m, m', h => by cases h
 | k + 1, m, m', h => by
  unfold runM at h;split at h
  ·cases h; exact ⟨rfl, rfl⟩
  ·split at h
   ·rename_i m1 q
    have h1 := KH q;have h2 := C4 h;exact ⟨h2.1.trans h1.1, h2.2.trans h1.2⟩
   ·cases h
   ·cases h
def wM (bs : List (List Stt)) (bits : List Int) : Mc := ⟨bs, bits, 0, [], [], bQ bs.length [], 0⟩
theorem setX {S0 : aO} {fs : List (Str × Vl)} {ext : List Cell} {f : Str} {d : Vl} {ρ : Ev} (hl : fs.length < 1000) : xG "Execution" f ρ d (.cel S0.length) (S0 ++ (.ins "Execution" fs :: ext)) = .next ρ (S0 ++ (.ins "Execution" (nJ f d fs) :: ext)) := by
 rw [CP (fs := fs) (by simp) hl]
 simp
theorem Q7 {S0 : aO} {bs : List (List Stt)} {bits : List Int} (hl : bs.length <= 10) : Dk true "Execution" gP [.dat (.lst (bls bs)), .dat (.lst (bits.map D.int))] S0 = .ok (.cel S0.length) (eG S0 (wM bs bits)) := by
 have e : gP [.cel S0.length, .dat (.lst (bls bs)), .dat (.lst (bits.map D.int))] (S0 ++ [.ins "Execution" []]) = .ok (.dat .non) (eG S0 (wM bs bits)) := by
  rw [Ah];unfold jO;have hsz : (bls bs).length <= sizeLine := sz (by rw [wB]; omega)
  have s1 : ∀ {ρ : Ev} {d : Vl} {ext : List Cell} {f : Str}, xG "Execution" f ρ d (.cel S0.length) (S0 ++ (.ins "Execution" [] :: ext)) = .next ρ (S0 ++ (.ins "Execution" [(f, d)] :: ext)) := setX (by simp)
  simp! [s1, setX, aR, cY, nJ, bL, dG, iF, dR, Nm hsz, wB]
  show _ = Res.ok _ (S0 ++ _)
  simp only [cE, wM, ID, List.length_replicate, List.map_replicate, bD];rfl
 unfold Dk;rw [e];rfl
def startM (bs : List (List Stt)) (bits : List Int) (p : Nat) (b : List Stt) : Mc := (wM bs bits).enter p [] b none
theorem EO {S : aO} {a0 a1 a2 a5 : Option Vl} : ∀ (bs : List Int) (i : Nat), (∀ b ∈ bs, b = 0 \/ b = 1) -> loop (.tp [3, 4]) gL (eA i (bs.map D.int)) [a0, a1, a2, none, none, a5] S = .next [a0, a1, a2, none, none, a5] S
 | [], i, _ => rfl
 | b :: r, i, h => by
  have hb : (decide (0 <= b) && decide (b <= 1)) = true := by rcases h b (aT ..) with rfl | rfl <;> rfl
  rw [aM, eA, loop];simp only [oG, jW, aR, cY, if_true, bW, cK];rw [gL];simp! [Dl, hb];rw [<- gL];exact EO r (i + 1) fun b hb => h b (aJ _ hb)
def OV (r : SR) (S : aO) : Res Vl := match r with
 | .ok m => if m.taken < m.bits.length then .err (uZ (m.taken : Int)) S else .ok (.dat (.tup [.int m.ended, .lst (m.deeds.map Deed.d)])) S
 | .err i _ => .err (uZ i) S
 | .no => .stuck
theorem F4 {S0 : aO} {m : Mc} : (eG S0 m).take S0.length = S0 := by simp [eG]
theorem Qq {S0 : aO} {bs : List (List Stt)} {bits : List Int} {p k : Nat} {b : List Stt} (ls : LS S0) (G : Good2 bs) (hb : bs[p]? = some b) (hbits : ∀ b ∈ bits, b = 0 \/ b = 1) (hk : k <= 100000) (hr : runM k (startM bs bits p b) ≠ .no) :
  dB [.dat (gB bs), .dat (.int (p : Int)), .dat (.lst (bits.map D.int))] S0 = OV (runM k (startM bs bits p b)) S0 := by
 have hp := (aH.mp hb).1;have hl3 := G.l3;have hl : bs.length <= 10 := by omega
 have lsb : (S0.all fun c => c.below S0.length) = true := cD.mpr fun c hc => ls c hc _
 have e1 := H7 (S0 := S0) (m := wM bs bits) (p := p) (a := []) (b := b) (st := none) ⟨by simp [wM], by simp [wM], fun a h => by simp [wM] at h; obtain ⟨_, rfl⟩ := h; simp⟩ (by simp [wM, hp]) hb (fun a k h => by simp [wM, hp] at h)
 have hB : ∀ b ∈ bs, Oa (bs.length : Int) b := fun b hb => (G.ok b hb).b
 have hi := zE (S0 := S0) (m := wM bs bits) (f := "enter") (by decide)
 have hib : ∀ S, pJ S "Book" "bodies" (.dat (gB bs)) = true := fun _ => rfl
 have lp := Fs (S0 := S0) (many := (bs.length : Int)) (a := some (.dat (gB bs))) (b := some (.dat (.int (p : Int)))) (c := some (.dat (.lst (bits.map D.int)))) (d := none) (e := none) k 1000000 (startM bs bits p b) (by omega) hB (fun t ht => by
  simp only [startM, Mc.enter, wM, bM, List.not_mem_nil, or_false] at ht;rcases ht with rfl | rfl
  ·exact hB b (bI hb)
  ·trivial) ⟨iL _, hbits⟩ (by simp [startM, Mc.enter, wM]; omega) (fun a ha => by
  have ha' : a ∈ (bQ bs.length ([] : List Nat)).set p [0] := ha;rcases sF ha' with h | h
  ·rw [(List.mem_replicate.mp h).2]; simp; omega
  ·rw [h]; simp; omega)
 rw [Cm];unfold lX;simp! [NT hl, decide_eq_true (show (0 : Int) <= (p : Int) by omega), decide_eq_true (show (p : Int) < (bs.length : Int) by omega), EO bits 0 hbits, hY (hib S0), LV G.ok (show 3 <= 9 by omega) hl, Q7 hl, hY hi, show D.non = Iw none from rfl, e1, AO]
 rw [show eG S0 ((wM bs bits).enter p [] b none) = eG S0 (startM bs bits p b) from rfl]
 revert lp hr
 cases q : runM k (startM bs bits p b) with
 | no => intro hr; exact absurd rfl hr
 | err i m' =>
  intro _ lp;obtain ⟨ρ', e2⟩ := lp;simp! [e2];dsimp only [cE, trunc, OV];rw [F4, if_pos lsb]
 | ok m' =>
  intro _ e2;have e2' : _ = _ := e2;have hbits' : m'.bits = bits := (C4 q).1;simp! [e2', nQ, aN]
  by_cases ht : m'.taken < m'.bits.length
  ·simp! [decide_eq_true (show ((m'.taken : Nat) : Int) < (bits.length : Int) by rw [<- hbits']; omega), nQ]
   dsimp only [cE, trunc, OV];rw [F4, if_pos lsb, if_pos ht];rfl
  ·simp! [decide_eq_false (show ¬ ((m'.taken : Nat) : Int) < (bits.length : Int) by rw [<- hbits']; omega), O4, pO, nX (CU (S0 := S0) (m := m'))]
   dsimp only [cE, trunc, OV];rw [take_set (by omega), F4, if_neg ht, show (Vl.below S0.length (Vl.dat (D.tup [D.int m'.ended, D.lst (m'.deeds.map Deed.d)])) && S0.all fun c => c.below S0.length) = true by rw [lsb]; rfl, if_pos rfl]
def Bn (n : Nat) (i : Int) : Prop := i.natAbs < 2 ^ n
structure Pen where
 x : Int
 y : Int
 u : Int
 v : Int
 p : Int
 q : Int
def Pen.ns (z : Pen) : List Int := [z.x, z.y, z.u, z.v, z.p, z.q]
abbrev Pen.ds (z : Pen) : List D := [.int z.x, .int z.y, .int z.u, .int z.v, .int z.p, .int z.q]
abbrev Pen.d (z : Pen) : D := .tup z.ds
def Bi : Nat -> Int × Int -> Int × Int
 | 0, w => w
 | n + 1, w => Bi n (-w.2, w.1)
def Cmd.run : Cmd -> Pen -> Pen
 | .go k, z => { z with x := z.x + k * z.u, y := z.y + k * z.v }
 | .turn k, z => { z with u := (Bi k.toNat (z.u, z.v)).1, v := (Bi k.toNat (z.u, z.v)).2 }
 | .mirror, z => { z with v := -z.v }
 | .scale k, z => { z with u := k * z.u, v := k * z.v }
 | .aim a b, z => { z with u := a, v := b }
 | .place a b, z => { z with x := a, y := b }
 | .mark, z => { z with p := z.x, q := z.y }
 | .ret, z => { z with x := z.p, y := z.q }
 | .exch, z => ⟨z.p, z.q, z.u, z.v, z.x, z.y⟩
theorem mul9 {k j : Int} (h : -9 <= k /\ k <= 9) : IntMulOk k j := mulL (by omega) (by omega)
def dot (f : Nat -> Int) : Nat -> Int
 | 0 => 0
 | n + 1 => dot f n + f n
theorem mulB {a b : Nat} {i j : Int} (ha : Bn a i) (hb : Bn b j) (h0 : 0 < a) (h1 : 0 < b) (h : a + b <= 1000000) : IntMulOk i j := (wide_mul ha hb h0 h1 h).ok
theorem Bn.mul {a b : Nat} {i j : Int} (ha : Bn a i) (hb : Bn b j) : Bn (a + b) (i * j) := wide_lt ha hb
theorem Bn.zero {a : Nat} : Bn a 0 := by
 show 0 < 2 ^ a
 exact Nat.two_pow_pos a
theorem Bn.dot {a : Nat} {f : Nat -> Int} : ∀ {n : Nat}, (∀ j, j < n -> Bn a (f j)) -> (dot f n).natAbs <= n * 2 ^ a
 | 0, _ => by simp [PH.dot]
 | n + 1, h => by
  have h1 := Bn.dot (n := n) fun j hj => h j (by omega)
  have h2 : (f n).natAbs < 2 ^ a := h n (by omega)
  have e : PH.dot f (n + 1) = PH.dot f n + f n := rfl;rw [e, Nat.succ_mul];omega
theorem Bn.dot7 {a : Nat} {f : Nat -> Int} (h : ∀ j, j < 7 -> Bn a (f j)) : Bn (a + 3) (PH.dot f 7) := by
 have := Bn.dot h;have p : 0 < 2 ^ a := Nat.two_pow_pos a
 show (PH.dot f 7).natAbs < 2 ^ (a + 3)
 rw [Nat.pow_add];omega
def gt (M : List Int) (i : Nat) : Int := M.getD i 0
theorem Dq {M : List Int} {a n : Nat} (h : ∀ x ∈ M, Bn a x) : Bn a (gt M n) := by
 by_cases hn : n < M.length
 ·have e : gt M n = M[n] := by
   unfold gt;rw [bF, cJ hn];rfl
  rw [e];exact h _ (uE hn)
 ·have e : gt M n = 0 := by
   unfold gt;rw [bF, cX (by omega)]
   rfl
  rw [e];exact Bn.zero
theorem Fw {M : List Int} {n : Nat} (h : M.length = n) : (aV n).map (gt M) = M := by
 apply List.ext_getElem
 ·simp [h]
 ·intro i h1 h2
  rw [List.getElem_map, List.getElem_range];unfold gt;rw [bF, cJ h2];rfl
def pK (M : List Int) (z : Pen) (i : Nat) : Int := dot (fun j => gt M (7 * i + j) * gt ((1 : Int) :: z.ns) j) 7
theorem jL {f g : Nat -> Int} : ∀ {n : Nat}, (∀ k, k < n -> f k = g k) -> dot f n = dot g n
 | 0, _ => rfl
 | n + 1, h => by
  show dot f n + f n = dot g n + g n
  rw [jL fun k hk => h k (by omega), h n (by omega)]
theorem H9 : ∀ n : Nat, dot (fun _ => 0) n = 0
 | 0 => rfl
 | n + 1 => by
  show dot (fun _ => 0) n + 0 = 0
  rw [H9 n]; rfl
theorem Ji (f g : Nat -> Int) : ∀ n : Nat, dot (fun k => f k + g k) n = dot f n + dot g n
 | 0 => rfl
 | n + 1 => by
  show dot (fun k => f k + g k) n + (f n + g n) = dot f n + f n + (dot g n + g n)
  rw [Ji f g n]; omega
theorem HB (c : Int) (f : Nat -> Int) : ∀ n : Nat, dot (fun k => c * f k) n = c * dot f n
 | 0 => by simp [dot]
 | n + 1 => by
  show dot (fun k => c * f k) n + c * f n = c * (dot f n + f n)
  rw [HB c f n, Int.mul_add]
theorem HA (c : Nat -> Int) (b : Nat -> Nat -> Int) (a : Nat -> Int) (m : Nat) : ∀ n : Nat, dot (fun k => c k * dot (fun l => b k l * a l) m) n = dot (fun l => dot (fun k => c k * b k l) n * a l) m
 | 0 => by
  show 0 = dot (fun l => 0 * a l) m
  rw [jL (g := fun _ => 0) fun k _ => Int.zero_mul _, H9]
 | n + 1 => by
  show dot (fun k => c k * dot (fun l => b k l * a l) m) n + c n * dot (fun l => b n l * a l) m = dot (fun l => (dot (fun k => c k * b k l) n + c n * b n l) * a l) m
  rw [HA c b a m n, <- HB, <- Ji];exact jL fun l _ => by rw [Int.add_mul, Int.mul_assoc]
def delta (i j : Nat) : Int := if i = j then 1 else 0
theorem Ac (x : Nat -> Int) (j : Nat) : ∀ n : Nat, dot (fun k => x k * delta k j) n = if j < n then x j else 0
 | 0 => rfl
 | n + 1 => by
  show dot (fun k => x k * delta k j) n + x n * delta n j = _
  rw [Ac x j n];unfold delta
  by_cases h : n = j
  ·subst h
   rw [if_neg (by omega), if_pos rfl, if_pos (by omega)]; omega
  ·rw [if_neg h, qT, Int.add_zero]
   by_cases h2 : j < n
   ·rw [if_pos h2, if_pos (by omega)]
   ·rw [if_neg h2, if_neg (by omega)]
@[irreducible] def mx (f : Nat -> Nat -> Int) : List Int := (aV 49).map fun t => f (t / 7) (t % 7)
theorem CC (f : Nat -> Nat -> Int) : (mx f).length = 49 := by
 unfold mx;simp
theorem NU {f : Nat -> Int} {n t : Nat} (h : t < n) : gt ((aV n).map f) t = f t := by
 unfold gt;rw [bF, bN, kN h];rfl
theorem CO {f : Nat -> Nat -> Int} {i j : Nat} (hi : i < 7) (hj : j < 7) : gt (mx f) (7 * i + j) = f i j := by
 unfold mx;rw [NU (by omega), show (7 * i + j) / 7 = i by omega, show (7 * i + j) % 7 = j by omega]
theorem Sn {f g : Nat -> Nat -> Int} (h : ∀ i j, i < 7 -> j < 7 -> f i j = g i j) : mx f = mx g := by
 unfold mx
 apply gX
 intro t ht;have := fP.mp ht;exact h _ _ (by omega) (by omega)
theorem Re {M : List Int} (h : M.length = 49) : mx (fun i j => gt M (7 * i + j)) = M := by
 rw [<- Fw h];unfold mx
 apply gX
 intro t ht;have ht := fP.mp ht;rw [Fw h]
 show gt M (7 * (t / 7) + t % 7) = gt M t
 rw [show 7 * (t / 7) + t % 7 = t by omega]
theorem mx_eq {M N : List Int} (hM : M.length = 49) (hN : N.length = 49) (h : ∀ i j, i < 7 -> j < 7 -> gt M (7 * i + j) = gt N (7 * i + j)) : M = N := by
 rw [<- Re hM, <- Re hN];exact Sn h
theorem Mu {f : Nat -> Nat -> Int} {a : Nat} (h : ∀ i j, i < 7 -> j < 7 -> Bn a (f i j)) : ∀ x ∈ mx f, Bn a x := fun x hx => by
 unfold mx at hx;obtain ⟨t, ht, rfl⟩ := iM.mp hx;have := fP.mp ht;exact h _ _ (by omega) (by omega)
def rows (f : Nat -> Nat -> Int) (n : Nat) : List Int := (aV n).flatMap fun i => (aV 7).map (f i)
theorem AL (f : Nat -> Nat -> Int) (n : Nat) : rows f (n + 1) = rows f n ++ (aV 7).map (f n) := by
 unfold rows;rw [show aV (n + 1) = aV n ++ [n] from DA, List.flatMap_append]
 simp only [List.flatMap_cons, List.flatMap_nil, cP]
theorem Fu (f : Nat -> Nat -> Int) : ∀ n, (rows f n).length = 7 * n
 | 0 => rfl
 | n + 1 => by rw [AL, bL, Fu f n]; simp; omega
theorem Ft (f : Nat -> Nat -> Int) : ∀ n, rows f n = (aV (7 * n)).map fun t => f (t / 7) (t % 7)
 | 0 => rfl
 | n + 1 => by
  rw [AL, Ft f n, show 7 * (n + 1) = 7 * n + 7 by omega, List.range_add, cQ, gJ]
  congr 1
  apply gX
  intro j hj;have := fP.mp hj
  show f n j = f ((7 * n + j) / 7) ((7 * n + j) % 7)
  rw [show (7 * n + j) / 7 = n by omega, show (7 * n + j) % 7 = j by omega]
theorem J4 (f : Nat -> Nat -> Int) : rows f 7 = mx f := by
 unfold mx;exact Ft f 7
def qK (A B : List Int) : List Int := mx fun i j => dot (fun k => gt B (7 * i + k) * gt A (7 * k + j)) 7
theorem Ad (A B : List Int) : (qK A B).length = 49 := CC _
theorem HI {A B : List Int} {a b : Nat} (ha : ∀ x ∈ A, Bn a x) (hb : ∀ x ∈ B, Bn b x) : ∀ x ∈ qK A B, Bn (a + b + 3) x := Mu fun i j _ _ => Bn.dot7 fun k _ => by
 rw [Nat.add_comm a b];exact Bn.mul (Dq hb) (Dq ha)
@[irreducible] def unitM : List Int := mx delta
theorem uH : unitM.length = 49 := by
 unfold unitM;exact CC _
theorem K5 : ((aV 49).map fun t : Nat => (if decide ((0 + (t : Int)) % 8 = 0) = true then (1 : Int) else 0)) = unitM := by
 unfold unitM mx
 decide
def zeroP : Pen := ⟨0, 0, 0, 0, 0, 0⟩
def oB (j : Nat) : Pen := ⟨delta 0 j, delta 1 j, delta 2 j, delta 3 j, delta 4 j, delta 5 j⟩
def vc (z : Pen) (i : Nat) : Int := gt ((1 : Int) :: z.ns) i
def jS (r : Pen -> Pen) (i j : Nat) : Int := if j = 0 then vc (r zeroP) i else vc (r (oB (j - 1))) i - vc (r zeroP) i
@[irreducible] def probeM (r : Pen -> Pen) : List Int := mx (jS r)
theorem C6 (r : Pen -> Pen) : (probeM r).length = 49 := by
 unfold probeM;exact CC _
def MatOf (r : Pen -> Pen) (M : List Int) : Prop := M.length = 49 /\ ∀ z i, i < 7 -> vc (r z) i = pK M z i
theorem JM {j : Nat} (h : j < 7) : j = 0 \/ j = 1 \/ j = 2 \/ j = 3 \/ j = 4 \/ j = 5 \/ j = 6 := by omega
theorem IF (M : List Int) (i : Nat) : pK M zeroP i = gt M (7 * i) := by
 simp [pK, dot, zeroP, Pen.ns, gt]
theorem IG (A B : List Int) (z w : Pen) (hw : ∀ k, k < 7 -> vc w k = pK A z k) (i : Nat) (hi : i < 7) : pK (qK A B) z i = pK B w i := by
 unfold pK;rw [jL (g := fun j => dot (fun k => gt B (7 * i + k) * gt A (7 * k + j)) 7 * vc z j) fun j hj => by
  unfold qK;rw [CO hi hj];rfl]
 rw [<- HA (fun k => gt B (7 * i + k)) (fun k j => gt A (7 * k + j)) (fun j => vc z j) 7 7]
 exact jL fun k hk => by
  show _ * pK A z k = _ * vc w k
  rw [hw k hk]
theorem MatOf.comp {r s : Pen -> Pen} {A B : List Int} (h : MatOf r A) (k : MatOf s B) : MatOf (fun z => s (r z)) (qK A B) := ⟨Ad _ _, fun z i hi => by rw [k.2 _ _ hi, IG A B z (r z) (fun l hl => h.2 _ _ hl) i hi]⟩
theorem MatOf.unit : MatOf (fun z => z) unitM := ⟨uH, fun z i hi => by
 unfold pK;rw [jL (g := fun j => vc z j * delta j i) fun j hj => by
  unfold unitM;rw [CO hi hj, Int.mul_comm];unfold delta
  by_cases e : i = j
  ·rw [if_pos e, if_pos e.symm]; rfl
  ·rw [if_neg e, if_neg fun z => e z.symm, qT, qT]]
 rw [Ac, if_pos hi]⟩
theorem MatOf.of {r : Pen -> Pen} (h : ∀ z i, i < 7 -> vc (r z) i = dot (fun j => jS r i j * vc z j) 7) : MatOf r (probeM r) := ⟨C6 r, fun z i hi => by
 rw [h z i hi];unfold pK;exact jL fun j hj => by
  unfold probeM;rw [CO hi hj];rfl⟩
def Cmd.mat (m : Cmd) : List Int := probeM m.run
theorem Cmd.matOf {m : Cmd} (ok : m.Ok) : MatOf m.run m.mat := MatOf.of fun z i hi => by
 cases m with
 | turn k =>
  have hk : k = 1 \/ k = 2 \/ k = 3 := by have := ok.1; have := ok.2; omega
  rcases hk with e | e | e <;> subst e <;> rcases JM hi with h | h | h | h | h | h | h <;> subst h <;> simp [dot, jS, vc, gt, Cmd.run, zeroP, oB, delta, Pen.ns, Bi]
 | _ => rcases JM hi with h | h | h | h | h | h | h <;> subst h <;> simp [dot, jS, vc, gt, Cmd.run, zeroP, oB, delta, Pen.ns]
theorem Cmd.mat_bd {m : Cmd} (ok : m.Ok) : ∀ x ∈ m.mat, Bn 5 x := by
 unfold Cmd.mat probeM;refine Mu fun i j hi hj => ?_
 cases m with
 | turn k =>
  have hk : k = 1 \/ k = 2 \/ k = 3 := by have := ok.1; have := ok.2; omega
  rcases hk with e | e | e <;> subst e <;> rcases JM hi with h | h | h | h | h | h | h <;> subst h <;> rcases JM hj with h | h | h | h | h | h | h <;> subst h <;> simp [Bn, jS, vc, gt, Cmd.run, zeroP, oB, delta, Pen.ns, Bi]
 | go k =>
  have := ok.1; have := ok.2;rcases JM hi with h | h | h | h | h | h | h <;> subst h <;> rcases JM hj with h | h | h | h | h | h | h <;> subst h <;> simp [Bn, jS, vc, gt, Cmd.run, zeroP, oB, delta, Pen.ns] <;> omega
 | scale k =>
  have := ok.1; have := ok.2;rcases JM hi with h | h | h | h | h | h | h <;> subst h <;> rcases JM hj with h | h | h | h | h | h | h <;> subst h <;> simp [Bn, jS, vc, gt, Cmd.run, zeroP, oB, delta, Pen.ns] <;> omega
 | aim a b =>
  have := ok.1.1; have := ok.1.2; have := ok.2.1; have := ok.2.2;rcases JM hi with h | h | h | h | h | h | h <;> subst h <;> rcases JM hj with h | h | h | h | h | h | h <;> subst h <;> simp [Bn, jS, vc, gt, Cmd.run, zeroP, oB, delta, Pen.ns] <;> omega
 | place a b =>
  have := ok.1.1; have := ok.1.2; have := ok.2.1; have := ok.2.2;rcases JM hi with h | h | h | h | h | h | h <;> subst h <;> rcases JM hj with h | h | h | h | h | h | h <;> subst h <;> simp [Bn, jS, vc, gt, Cmd.run, zeroP, oB, delta, Pen.ns] <;> omega
 | _ => rcases JM hi with h | h | h | h | h | h | h <;> subst h <;> rcases JM hj with h | h | h | h | h | h | h <;> subst h <;> simp [Bn, jS, vc, gt, Cmd.run, zeroP, oB, delta, Pen.ns]
theorem oP {i j k l m n : Nat} {a b c d e f : D} {ρ : Ev} {S : aO} : NJ (.tp [i, j, k, l, m, n]) ρ (.dat (.tup [a, b, c, d, e, f])) S = .next ((((((ρ.set i (some (.dat a))).set j (some (.dat b))).set k (some (.dat c))).set l (some (.dat d))).set m (some (.dat e))).set n (some (.dat f))) S := rfl
theorem CL {z : Pen} {S : aO} : rO [.dat z.d] S = .ok (.dat (.bl true)) S := by
 rw [Oe];unfold zV;simp! [xH, iZ, oG, eD, sz, aR, cY, bW, cK];rfl
theorem DF {S : aO} {a0 a1 a2 a3 a6 a7 a8 : Option Vl} : ∀ (n : Nat) (lo : Int) (w : Int × Int), loop (.nm 9) kY (gH lo n) [a0, a1, a2, a3, some (.dat (.int w.1)), some (.dat (.int w.2)), a6, a7, a8, none] S = .next [a0, a1, a2, a3, some (.dat (.int (Bi n w).1)), some (.dat (.int (Bi n w).2)), a6, a7, a8, none] S
 | 0, lo, w => rfl
 | n + 1, lo, w => by
  have := DF (S := S) (a0 := a0) (a1 := a1) (a2 := a2) (a3 := a3) (a6 := a6) (a7 := a7) (a8 := a8) n (lo + 1) (-w.2, w.1);rw [lC, loop];simp only [oG, jW];rw [kY];simp! [if_true];rw [<- kY];exact this
theorem qG {c : Cmd} {z : Pen} {S : aO} (h : c.Ok) : kH [.dat z.d, .dat c.d] S = .ok (.dat (c.run z).d) S := by
 rw [Ig];unfold tH;cases c with
 | go k =>
  simp! [oP, Pen.d, Pen.ds, Cmd.d, cM, fZ, pL (mul9 h)];rfl
 | turn k =>
  obtain ⟨h1, h2⟩ := h;simp! [oP, Pen.d, Pen.ds, Cmd.d, cM, fZ, jK (show -(2 ^ 62) <= k by omega) (show k < 2 ^ 62 by omega), DF (k.toNat) 0 (z.u, z.v)]
  rfl
 | mirror => simp! [oP, Pen.d, Pen.ds, Cmd.d, cM]; rfl
 | scale k =>
  simp! [oP, Pen.d, Pen.ds, Cmd.d, cM, fZ, pL (mul9 (show -9 <= k /\ k <= 9 by have := h.1; have := h.2; omega))]
  rfl
 | aim a b => simp! [oP, Pen.d, Pen.ds, Cmd.d, cM, fZ, pW]; rfl
 | place a b => simp! [oP, Pen.d, Pen.ds, Cmd.d, cM, fZ, pW]; rfl
 | mark => simp! [oP, Pen.d, Pen.ds, Cmd.d, cM]; rfl
 | ret => simp! [oP, Pen.d, Pen.ds, Cmd.d, cM]; rfl
 | exch => simp! [oP, Pen.d, Pen.ds, Cmd.d, cM]; rfl
def mL (S0 : aO) (xs ys : List D) : aO := S0 ++ [.lst xs, .lst ys]
section
variable {S0 : aO} {xs ys : List D}
theorem M5 : (mL S0 xs ys)[S0.length]? = some (.lst xs) := by simp [mL]
theorem M4 : (mL S0 xs ys)[S0.length + 1]? = some (.lst ys) := by simp [mL]
theorem SH {c : List D} : (mL S0 xs ys).set S0.length (.lst c) = mL S0 c ys := by simp [mL]
theorem Ly {c : List D} : (mL S0 xs ys).set (S0.length + 1) (.lst c) = mL S0 xs c := by
 rw [mL, dE _ _ (by omega), show S0.length + 1 - S0.length = 1 by omega]; rfl
theorem Lx {c : Cell} : ((mL S0 xs ys).set S0.length c).take S0.length = S0 := by simp [mL]
theorem M3 {ρ : Ev} {b : FE} {d : D} (F : xs.length < 5000000) (hb : b ρ (mL S0 xs ys) = .ok (.dat d) (mL S0 xs ys)) : wN b ρ (.cel S0.length) (mL S0 xs ys) = .ok (.dat .non) (mL S0 (xs ++ [d]) ys) := by
 rw [lP M5, hb, eF, mR M5 (Hi (by omega)), SH]
theorem M0 {ρ : Ev} {b : FE} {d : D} (F : ys.length < 5000000) (hb : b ρ (mL S0 xs ys) = .ok (.dat d) (mL S0 xs ys)) : wN b ρ (.cel (S0.length + 1)) (mL S0 xs ys) = .ok (.dat .non) (mL S0 xs (ys ++ [d])) := by
 rw [lP M4, hb, eF, mR M4 (Hi (by omega)), Ly]
theorem Lz {d : D} : rV (.cel (S0.length + 1)) (mL S0 xs (ys ++ [d])) = .ok (.dat d) (mL S0 xs ys) := by
 simp only [rV, M4];rw [show (ys ++ [d])[(ys ++ [d]).length - 1]? = some d by simp]
 dsimp only;rw [jV, Ly]
theorem Ov : S0 ++ [.lst xs] ++ [.lst ys] = mL S0 xs ys := by simp [mL]
end
theorem UR {a b c d e f : D} : cutD [a, b, c, d, e, f] none (some 4) = [a, b, c, d] := by
 unfold cutD;rw [HT.sIx_none, show ((4 : Int)) = ((4 : Nat) : Int) from rfl, HT.sIx_nat]
 simp
theorem cut_4 {a b c d e f : D} : cutD [a, b, c, d, e, f] (some 4) none = [e, f] := by
 unfold cutD;rw [HT.sIx_none, show ((4 : Int)) = ((4 : Nat) : Int) from rfl, HT.sIx_nat]
 simp
structure Ps where
 pens : List Pen
 z : Pen
 stk : List Pen
def GP (t z : Pen) : Pen := ⟨t.x, t.y, t.u, t.v, z.p, z.q⟩
def HC : Deed -> Ps -> Option Ps
 | .cmd c, s => some ⟨s.pens ++ [c.run s.z], c.run s.z, s.stk⟩
 | .op, s => some ⟨s.pens, s.z, s.z :: s.stk⟩
 | .cl, s => match s.stk with
  | [] => none
  | t :: k => some ⟨s.pens, GP t s.z, k⟩
def kK : List Deed -> Ps -> Option Ps
 | [], s => some s
 | d :: r, s => match HC d s with
  | none => none
  | some s' => kK r s'
def Deed.Ok : Deed -> Prop
 | .cmd c => c.Ok
 | _ => True
theorem F8 {c : Cmd} {S : aO} : bO (.dat c.d) (.dat (.int 0)) S = .ok (.dat (.str c.word)) S := by
 cases c <;> exact cM
theorem BH {c : Cmd} {w : Str} (h : w = "open" \/ w = "close" \/ w = "hold" \/ w = "shut") : decide (c.word = w) = false := by
 rcases h with rfl | rfl | rfl | rfl <;> cases c <;> rfl
def t4 (z : Pen) : D := .tup [.int z.x, .int z.y, .int z.u, .int z.v]
theorem BN {S0 : aO} {a0 : Option Vl} : ∀ (ds : List Deed) (s s' : Ps), (∀ d ∈ ds, d.Ok) -> kK ds s = some s' -> s.pens.length + s.stk.length + ds.length <= 1000000 ->
  loop (.nm 4) eR (ds.map Deed.d) [a0, some (.dat s.z.d), some (.cel S0.length), some (.cel (S0.length + 1)), none] (mL S0 (s.pens.map Pen.d) (uR t4 s.stk)) = .next [a0, some (.dat s'.z.d), some (.cel S0.length), some (.cel (S0.length + 1)), none] (mL S0 (s'.pens.map Pen.d) (uR t4 s'.stk))
 | [], s, s', _, h, _ => by cases h; rfl
 | d :: r, s, s', ok, h, hl => by
  rw [aR] at hl;have okd := ok d (aT ..);rw [aM, loop];simp only [oG, jW];rw [eR];cases d with
  | cmd c =>
   have ih := BN (S0 := S0) (a0 := a0) r ⟨s.pens ++ [c.run s.z], c.run s.z, s.stk⟩ s' (fun d hd => ok d (aJ _ hd)) h (by simp; omega)
   simp! [Deed.d, F8, BH (c := c) (w := "open") (.inl rfl), BH (c := c) (w := "close") (.inr (.inl rfl)), qG (show c.Ok from okd), M3 (d := (c.run s.z).d) (S0 := S0) (xs := s.pens.map Pen.d) (ys := uR t4 s.stk) (by rw [aN]; omega)]
   rw [<- eR, <- ih];simp only [cQ, aM, bD]
  | op =>
   have ih := BN (S0 := S0) (a0 := a0) r ⟨s.pens, s.z, s.z :: s.stk⟩ s' (fun d hd => ok d (aJ _ hd)) h (by simp; omega)
   have hb : ∀ {x : Option Vl}, B7 false (aC 1) pV (gG (mC (.int 4))) [a0, some (.dat s.z.d), some (.cel S0.length), some (.cel (S0.length + 1)), x] (mL S0 (s.pens.map Pen.d) (uR t4 s.stk)) = .ok (.dat (t4 s.z)) (mL S0 (s.pens.map Pen.d) (uR t4 s.stk)) := by
    intro x;simp! [Pen.d, Pen.ds, UR];rfl
   simp! [Deed.d, cM, M0 (by rw [oI]; omega) hb]
   rw [<- eR, <- ih];simp only [rvD_cons, t4]
  | cl =>
   cases hk : s.stk with
   | nil => simp [kK, HC, hk] at h
   | cons t k =>
    simp only [kK, HC, hk] at h;have ih := BN (S0 := S0) (a0 := a0) r ⟨s.pens, GP t s.z, k⟩ s' (fun d hd => ok d (aJ _ hd)) h (by simp; rw [hk] at hl; simp at hl; omega)
    rw [rvD_cons];simp! [Deed.d, cM, Lz, cut_4, t4, O2, aR, cY, sz, iF, dR];rw [<- eR, <- ih];rfl
theorem Rc {S : aO} {ds : List Deed} {z : Pen} {s' : Ps} (ls : LS S) (ok : ∀ d ∈ ds, d.Ok) (h : kK ds ⟨[], z, []⟩ = some s') (hl : ds.length <= 900000) :
  jZ [.dat (.lst (ds.map Deed.d)), .dat z.d] S = .ok (.dat (.tup [.lst (s'.pens.map Pen.d), s'.z.d])) S := by
 have lp := BN (S0 := S) (a0 := some (.dat (.lst (ds.map Deed.d)))) ds ⟨[], z, []⟩ s' ok h (by simp; omega)
 have lsb : (S.all fun c => c.below S.length) = true := cD.mpr fun c hc => ls c hc _
 simp only [bD, uR, List.reverse_nil] at lp;rw [Cy];unfold nD;simp! [bL, aR, cY, qS, Ov, lp, nX (M5 (S0 := S))];dsimp only [cE, trunc];rw [Lx, show (Vl.below S.length (Vl.dat (D.tup [D.lst (s'.pens.map Pen.d), s'.z.d])) && S.all fun c => c.below S.length) = true by rw [lsb]; rfl, if_pos rfl]
def Deed.l : Deed -> D
 | .cmd c => c.d
 | .op => .tup [.str "hold"]
 | .cl => .tup [.str "shut"]
theorem ixL2 {a b c : D} {r : List D} {S : aO} : bO (.dat (.lst (a :: b :: c :: r))) (.dat (.int 2)) S = .ok (.dat c) S := tV (atI_nat (j := 2) rfl)
abbrev mD (M : List Int) : D := .lst (M.map D.int)
theorem NV {M : List Int} {i : Nat} (h : i < M.length) : (M.map D.int)[i]? = some (.int (gt M i)) := by
 rw [bN, cJ h]
 show some (D.int M[i]) = some (D.int (M.getD i 0))
 rw [bF, cJ h];rfl
theorem ixM {M : List Int} {t : Int} {n : Nat} {S : aO} (e : t = (n : Int)) (h : n < M.length) : bO (.dat (mD M)) (.dat (.int t)) S = .ok (.dat (.int (gt M n))) S := by
 rw [e];exact tV (atI_nat (NV h))
theorem R3 {M : List Int} {lo hi : Option Int} : cutD (M.map D.int) lo hi = ((M.drop (HT.sIx M.length 0 lo)).take (HT.sIx M.length M.length hi - HT.sIx M.length 0 lo)).map D.int := by
 unfold cutD;rw [aN, <- List.map_drop, <- Hb]
theorem cut7 {M : List Int} {a b : Int} {k : Nat} (h : 7 * k + 7 <= M.length) (ha : a = ((7 * k : Nat) : Int)) (hb : b = ((7 * k + 7 : Nat) : Int)) : cutD (M.map D.int) (some a) (some b) = ((aV 7).map fun j => gt M (7 * k + j)).map D.int := by
 subst ha hb;rw [R3, HT.sIx_nat, HT.sIx_nat, ET (by omega), ET (by omega)]
 rw [show (M.drop (7 * k)).take (7 * k + 7 - 7 * k) = (aV 7).map fun j => gt M (7 * k + j) from ?_]
 apply List.ext_getElem
 ·simp; omega
 ·intro i h1 h2
  simp only [aN, List.length_range] at h2;rw [List.getElem_take, List.getElem_drop, List.getElem_map, List.getElem_range];unfold gt;rw [bF, cJ (by omega)]
  rfl
theorem Ip {f g : Nat -> D} : ∀ {l : List Nat}, Lk (l.map f) (l.map g) = l.map fun j => .tup [f j, g j]
 | [] => rfl
 | x :: r => by rw [aM, aM, Lk, Ip]; rfl
theorem g_zip {a b : FE} {ρ : Ev} {S : aO} {xs ys : List D} (ha : a ρ S = .ok (.dat (.lst xs)) S) (hb : b ρ S = .ok (.dat (.lst ys)) S) : Pr a b ρ S = .ok (Lk xs ys) S := by
 unfold Pr;rw [ha, eF, hb, eF]
theorem As {S : aO} : sS [] S = .ok (.dat (mD unitM)) S := by
 rw [Ie];unfold xP zL;simp! [jK (show -(2 ^ 62) <= (49 : Int) by decide) (show (49 : Int) < 2 ^ 62 by decide)]
 rw [show gH 0 49 = (aV 49).map (fun k : Nat => D.int (0 + (k : Int))) from rfl]
 rw [iO (g := fun k : Nat => D.int (if decide ((0 + (k : Int)) % 8 = 0) = true then 1 else 0)) (sz (by decide)) fun k _ => ⟨_, rfl, ?_⟩]
 ·dsimp only [newL, cE]
  rw [show (aV 49).map (fun k : Nat => D.int (if decide ((0 + (k : Int)) % 8 = 0) = true then 1 else 0)) = ((aV 49).map (fun k : Nat => (if decide ((0 + (k : Int)) % 8 = 0) = true then (1 : Int) else 0))).map D.int by rw [gJ]; rfl, K5]
  rfl
 ·simp! [lO (show (0 : Int) < 8 by decide)]
def Fv (A B : List Int) (i k : Nat) : List Int := (aV 7).map fun j => dot (fun l => gt B (7 * i + l) * gt A (7 * l + j)) k
theorem MY {A B : List Int} {i : Nat} : Fv A B i 0 = [0, 0, 0, 0, 0, 0, 0] := rfl
theorem Jm {S : aO} {A B : List Int} {a b i : Nat} {a2 : Option Vl} (hA : A.length = 49) (hB : B.length = 49) (ba : ∀ x ∈ A, Bn a x) (bb : ∀ x ∈ B, Bn b x) (a0 : 0 < a) (b0 : 0 < b) (hab : a + b <= 1000000) (hi : i < 7) : ∀ (n k : Nat), n + k = 7 ->
  loop (.nm 5) kZ (gH (k : Int) n) [some (.dat (mD A)), some (.dat (mD B)), a2, some (.dat (.int (i : Int))), some (.dat (mD (Fv A B i k))), none, none, none, none] S = .next [some (.dat (mD A)), some (.dat (mD B)), a2, some (.dat (.int (i : Int))), some (.dat (mD (Fv A B i 7))), none, none, none, none] S
 | 0, k, h => by
  obtain rfl : k = 7 := by omega
  rfl
 | n + 1, k, h => by
  have ih := Jm (S := S) (a2 := a2) hA hB ba bb a0 b0 hab hi n (k + 1) (by omega)
  rw [lC, loop];simp only [oG, jW];rw [kZ];have e1 : Fv A B i (k + 1) = (aV 7).map fun j => dot (fun l => gt B (7 * i + l) * gt A (7 * l + j)) k + gt B (7 * i + k) * gt A (7 * k + j) := rfl
  have m7 : ∀ {x : Nat}, IntMulOk (7 : Int) (x : Int) := mulL (by decide) (by decide)
  have ix := ixM (M := B) (t := 7 * (i : Int) + (k : Int)) (n := 7 * i + k) (S := S) (by omega) (by omega)
  simp! [pL m7, ix]
  by_cases hc : gt B (7 * i + k) = 0
  ·simp! [hc]
   rw [<- kZ, show ((k : Int) + 1) = ((k + 1 : Nat) : Int) by omega, <- ih, e1]
   simp only [hc, Int.zero_mul, Int.add_zero];rfl
  ·have hz : (Pr (aC 4) (B7 false (aC 0) (gG (aP rW (mC (.int 7)) (aC 5))) (gG (aP (dA false) (aP rW (mC (.int 7)) (aC 5)) (mC (.int 7)))))) [some (.dat (mD A)), some (.dat (mD B)), a2, some (.dat (.int (i : Int))), some (.dat (mD (Fv A B i k))), some (.dat (.int (k : Int))), some (.dat (.int (gt B (7 * i + k)))), none, none] S = .ok ((aV 7).map fun j => .tup [.int (dot (fun l => gt B (7 * i + l) * gt A (7 * l + j)) k), .int (gt A (7 * k + j))]) S := by
    rw [g_zip (xs := (Fv A B i k).map D.int) (ys := ((aV 7).map fun j => gt A (7 * k + j)).map D.int) (by simp! [if_true]) (by simp! [pL m7, cut7 (M := A) (a := 7 * (k : Int)) (b := 7 * (k : Int) + 7) (k := k) (by omega) (by omega) (by omega)])]
    rw [Fv, gJ, gJ, Ip];rfl
   simp! [decide_eq_false hc, hz];rw [iO (g := fun j : Nat => D.int (dot (fun l => gt B (7 * i + l) * gt A (7 * l + j)) k + gt B (7 * i + k) * gt A (7 * k + j))) (sz (by decide)) fun j hj => ⟨_, rfl, ?_⟩]
   ·simp! [if_true]
    rw [<- kZ, show ((k : Int) + 1) = ((k + 1 : Nat) : Int) by omega, <- ih, e1]
    simp only [mD, gJ];rfl
   ·simp! [jW, pL (mulB (Dq bb) (Dq ba) b0 a0 (by omega))]
theorem lst7 {cl : Bool} {S : aO} {a b c d e f g : D} : Cu cl [.dat a, .dat b, .dat c, .dat d, .dat e, .dat f, .dat g] S = newL cl [a, b, c, d, e, f, g] S := rfl
theorem HH {S : aO} {A B : List Int} {a b : Nat} (hA : A.length = 49) (hB : B.length = 49) (ba : ∀ x ∈ A, Bn a x) (bb : ∀ x ∈ B, Bn b x) (a0 : 0 < a) (b0 : 0 < b) (hab : a + b <= 1000000) : ∀ (n i : Nat), n + i = 7 ->
  loop (.nm 3) oF (gH (i : Int) n) [some (.dat (mD A)), some (.dat (mD B)), some (.dat (mD (rows (fun i j => dot (fun k => gt B (7 * i + k) * gt A (7 * k + j)) 7) i))), none, none, none, none, none, none] S = .next [some (.dat (mD A)), some (.dat (mD B)), some (.dat (mD (qK A B))), none, none, none, none, none, none] S
 | 0, i, h => by
  obtain rfl : i = 7 := by omega
  rw [J4];rfl
 | n + 1, i, h => by
  have ih := HH (S := S) hA hB ba bb a0 b0 hab n (i + 1) (by omega)
  have inn := Jm (S := S) (i := i) (a2 := some (.dat (mD (rows (fun i j => dot (fun k => gt B (7 * i + k) * gt A (7 * k + j)) 7) i)))) hA hB ba bb a0 b0 hab (by omega) 7 0 rfl
  rw [MY, lR] at inn;simp only [mD, aM, bD] at inn;rw [lC, loop];simp only [oG, jW];rw [oF];simp! [lst7, jK (show -(2 ^ 62) <= (7 : Int) by decide) (show (7 : Int) < 2 ^ 62 by decide), inn, gE, aN, Fu, Fv, List.length_range, sz (show 7 * i + 7 <= 1000 by omega)]
  rw [<- oF, show ((i : Int) + 1) = ((i + 1 : Nat) : Int) by omega, <- ih, AL]
  simp only [mD, cQ]
theorem B4 {S : aO} {A B : List Int} {a b : Nat} (hA : A.length = 49) (hB : B.length = 49) (ba : ∀ x ∈ A, Bn a x) (bb : ∀ x ∈ B, Bn b x) (a0 : 0 < a) (b0 : 0 < b) (hab : a + b <= 1000000) :
  sU [.dat (mD A), .dat (mD B)] S = .ok (.dat (mD (qK A B))) S := by
 have lp := HH (S := S) hA hB ba bb a0 b0 hab 7 0 rfl;rw [show rows (fun i j => dot (fun k => gt B (7 * i + k) * gt A (7 * k + j)) 7) 0 = [] from rfl, lR] at lp
 rw [Ih];unfold xQ;simp! [jK (show -(2 ^ 62) <= (7 : Int) by decide) (show (7 : Int) < 2 ^ 62 by decide), show D.lst [] = mD [] from rfl, lp]
 rfl
def qE (M : List Int) : List Int := mx fun i j => if i = 0 \/ 4 < i then gt M (7 * i + j) else gt M 0 * delta i j
theorem AR (M : List Int) : (qE M).length = 49 := CC _
def JU (M : List Int) : List Int := M.take 7 ++ ((unitM.drop 7).take 28).map (gt M 0 * ·) ++ M.drop 35
theorem Ds {A B : List Int} {t : Nat} : gt (A ++ B) t = if t < A.length then gt A t else gt B (t - A.length) := by
 unfold gt;rw [bF, bF, bF, List.getElem?_append]
 by_cases h : t < A.length
 ·rw [if_pos h, if_pos h]
 ·rw [if_neg h, if_neg h]
theorem JY {A : List Int} {n t : Nat} (h : t < n) : gt (A.take n) t = gt A t := by
 unfold gt;rw [bF, bF, dW, if_pos h]
theorem JZ {A : List Int} {n t : Nat} : gt (A.drop n) t = gt A (n + t) := by
 unfold gt;rw [bF, bF, List.getElem?_drop]
theorem TX {A : List Int} {c : Int} {t : Nat} : gt (A.map (c * ·)) t = c * gt A t := by
 unfold gt;rw [bF, bF, bN];cases A[t]? with
 | none => simp
 | some x => rfl
theorem N9 {M : List Int} (h : M.length = 49) : JU M = qE M := by
 have l1 : (M.take 7).length = 7 := by rw [iE, h]; rfl
 have l2 : (((unitM.drop 7).take 28).map (gt M 0 * ·)).length = 28 := by rw [aN, iE, oA, uH]; rfl
 refine mx_eq ?_ (AR M) fun i j hi hj => ?_
 ·unfold JU
  rw [bL, bL, l1, l2, oA, h]
 ·unfold JU qE
  rw [CO hi hj, Ds, bL, l1, l2, Ds, l1]
  by_cases h0 : i = 0
  ·rw [if_pos (by omega), if_pos (by omega), if_pos (.inl h0), JY (by omega)]
  ·by_cases h4 : 4 < i
   ·rw [if_neg (by omega), if_pos (.inr h4), JZ, show 35 + (7 * i + j - (7 + 28)) = 7 * i + j by omega]
   ·rw [if_pos (by omega), if_neg (by omega), if_neg (by omega), TX, JY (by omega), JZ, show 7 + (7 * i + j - 7) = 7 * i + j by omega]
    unfold unitM;rw [CO hi hj]
theorem Bh {x : Int} (h : x ∈ unitM) : x = 0 \/ x = 1 := by
 unfold unitM mx at h;obtain ⟨t, _, rfl⟩ := iM.mp h;unfold delta
 by_cases e : t / 7 = t % 7
 ·right; rw [if_pos e]
 ·left; rw [if_neg e]
theorem Py {S : aO} {M : List Int} (h : M.length = 49) : qZ [.dat (mD M)] S = .ok (.dat (mD (qE M))) S := by
 rw [Cz];unfold rG;have i0 := ixM (M := M) (t := 0) (n := 0) (S := S) rfl (by omega)
 have c1 : cutD (unitM.map D.int) (some 7) (some 35) = ((unitM.drop 7).take 28).map D.int := by
  rw [R3, show ((7 : Int)) = ((7 : Nat) : Int) from rfl, show ((35 : Int)) = ((35 : Nat) : Int) from rfl, HT.sIx_nat, HT.sIx_nat, uH]
  rfl
 have c2 : cutD (M.map D.int) none (some 7) = (M.take 7).map D.int := by
  rw [R3, HT.sIx_none, show ((7 : Int)) = ((7 : Nat) : Int) from rfl, HT.sIx_nat, h]
  rfl
 have c3 : cutD (M.map D.int) (some 35) none = (M.drop 35).map D.int := by
  rw [R3, HT.sIx_none, show ((35 : Int)) = ((35 : Nat) : Int) from rfl, HT.sIx_nat, h]
  rw [show min 35 49 = 35 from rfl, vT (by simp; omega)]
 simp! [i0, As, c1];rw [iO (g := fun x : Int => D.int (gt M 0 * x)) (sz (by simp; omega)) fun x hx => ⟨_, rfl, ?_⟩]
 ·rw [show (List.map (fun x : Int => D.int (gt M 0 * x)) ((unitM.drop 7).take 28)) = (((unitM.drop 7).take 28).map (gt M 0 * ·)).map D.int by rw [gJ]; rfl]
  have l1 : (M.take 7).length = 7 := by rw [iE, h]; rfl
  have l2 : (((unitM.drop 7).take 28).map (gt M 0 * ·)).length = 28 := by rw [aN, iE, oA, uH]; rfl
  have q1 : ∀ {cl : Bool}, dA cl (.dat (.lst ((M.take 7).map D.int))) (.dat (.lst ((((unitM.drop 7).take 28).map (gt M 0 * ·)).map D.int))) S = newL cl ((M.take 7).map D.int ++ (((unitM.drop 7).take 28).map (gt M 0 * ·)).map D.int) S := gE (by rw [aN, aN, l1, l2]; exact sz (by decide))
  have q2 : ∀ {cl : Bool}, dA cl (.dat (.lst ((M.take 7).map D.int ++ (((unitM.drop 7).take 28).map (gt M 0 * ·)).map D.int))) (.dat (.lst ((M.drop 35).map D.int))) S = newL cl ((M.take 7).map D.int ++ (((unitM.drop 7).take 28).map (gt M 0 * ·)).map D.int ++ (M.drop 35).map D.int) S := gE (by rw [bL, aN, aN, l1, l2, aN, oA, h]; exact sz (by decide))
  simp! [c2, c3, q1, q2];rw [<- cQ, <- cQ]
  show Res.ok (Vl.dat (mD (JU M))) S = _
  rw [N9 h]
 ·have hs : x = 0 \/ x = 1 := Bh (List.mem_of_mem_drop (xU hx))
  simp! [pL (show IntMulOk (gt M 0) x from mulR (by omega) (by omega))]
theorem LG {k j : Nat} : (if decide ((0 + (k : Int)) = (j : Int)) = true then (1 : Int) else 0) = delta k j := by
 unfold delta
 by_cases h : k = j
 ·subst h; simp
 ·rw [decide_eq_false (by omega), if_neg h]; rfl
theorem Ot {cl : Bool} {j : Nat} {S : aO} {a0 a1 a2 a4 a5 a6 a7 a8 : Option Vl} : xH cl (.nm 6) fX (m1 pX (aP fF (aC 6) (aC 3))) [a0, a1, a2, some (.dat (.int (j : Int))), a4, a5, a6, a7, a8] [6] (gH 0 6) S = newL cl (oB j).ds S := by
 rw [show gH 0 6 = (aV 6).map (fun k : Nat => D.int (0 + (k : Int))) from rfl, iO (g := fun k : Nat => D.int (delta k j)) (sz (by decide)) fun k _ => ⟨_, rfl, ?_⟩]
 ·rfl
 ·simp! [if_true]
  rw [LG]
theorem PY {S : aO} : Ar (.dat (.int 6)) S = .ok (gH 0 6) S := by rw [jK (by decide) (by decide)]; rfl
theorem rng7 {S : aO} : Ar (.dat (.int 7)) S = .ok (gH 0 7) S := by rw [jK (by decide) (by decide)]; rfl
theorem ixP {z : Pen} {t : Int} {n : Nat} {S : aO} (e : t = (n : Int)) (h : n < 6) : bO (.dat z.d) (.dat (.int t)) S = .ok (.dat (.int (gt z.ns n))) S := by
 rw [e];exact Gg (atI_nat (NV (M := z.ns) h))
def rY (r : Pen -> Pen) (j : Nat) : D := .lst ((aV 7).map fun i => D.int (jS r i j))
theorem GA {S : aO} {c : Cmd} (h : c.Ok) : ∀ (n j : Nat), n + j = 6 ->
  loop (.nm 3) mU (gH (j : Int) n) [some (.dat c.d), some (.dat (c.run zeroP).d), some (.cel S.length), none, none, none, none, none, none] (S ++ [.lst ((aV (j + 1)).map (rY c.run))]) = .next [some (.dat c.d), some (.dat (c.run zeroP).d), some (.cel S.length), none, none, none, none, none, none] (S ++ [.lst ((aV 7).map (rY c.run))])
 | 0, j, e => by
  obtain rfl : j = 6 := by omega
  rfl
 | n + 1, j, e => by
  have ih := GA (S := S) h n (j + 1) (by omega)
  rw [lC, loop];simp only [oG, jW];rw [mU];have hb : ∀ {T : aO} {a3 a4 a6 : Option Vl}, AB false (iY (mC (.int 6))) (.nm 6) fX rD [6] [some (.dat c.d), some (.dat (c.run zeroP).d), some (.cel S.length), a3, a4, some (.dat (c.run (oB j)).d), a6, none, none] T = .ok (.dat (.lst ((aV 6).map fun i => D.int (gt (c.run (oB j)).ns i - gt (c.run zeroP).ns i)))) T := by
   intro T a3 a4 a6;simp! [PY];rw [show gH 0 6 = (aV 6).map (fun k : Nat => D.int (0 + (k : Int))) from rfl, iO (g := fun i : Nat => D.int (gt (c.run (oB j)).ns i - gt (c.run zeroP).ns i)) (sz (by decide)) fun k hk => ⟨_, rfl, ?_⟩]
   ·rfl
   ·unfold rD
    simp! [ixP (z := c.run (oB j)) (t := 0 + (k : Int)) (n := k) (by omega) (fP.mp hk), ixP (z := c.run zeroP) (t := 0 + (k : Int)) (n := k) (by omega) (fP.mp hk)]
  have hg : (S ++ [.lst ((aV (j + 1)).map (rY c.run))])[S.length]? = some (.lst ((aV (j + 1)).map (rY c.run))) := by simp
  have ha : ∀ {b : FE} {ρ : Ev} {d : D}, b ρ (S ++ [.lst ((aV (j + 1)).map (rY c.run))]) = .ok (.dat d) (S ++ [.lst ((aV (j + 1)).map (rY c.run))]) -> wN b ρ (.cel S.length) (S ++ [.lst ((aV (j + 1)).map (rY c.run))]) = .ok (.dat .non) (S ++ [.lst ((aV (j + 1)).map (rY c.run) ++ [d])]) := by
   intro b ρ d hd;rw [lP hg, hd, eF, mR hg (Hi (by simp; omega))]
   simp
  simp! [PY, Ot, show D.tup (oB j).ds = (oB j).d from rfl, qG h]
  rw [ha (d := rY c.run (j + 1)) (by simp! [hb]; rw [gE (by simp; exact sz (by decide))]; rfl)]
  simp! [if_true];rw [<- mU, show ((j : Int) + 1) = ((j + 1 : Nat) : Int) by omega, <- ih, DA (n := j + 1), cQ]
  rfl
theorem Di {i i1 : Nat} {mj : FI} {e : FE} {vs1 : List Nat} {ρ : Ev} {S : aO} {f : Nat -> D} {ys : List Nat} {g : Nat -> Nat -> D} {f1 : Nat -> D} : ∀ (xs : List Nat), (∀ x ∈ xs, mj (ρ.set i (some (.dat (f x)))) S = .ok (ys.map f1) S) -> (∀ x ∈ xs, ∀ y ∈ ys, e ((wipeE (ρ.set i (some (.dat (f x)))) vs1).set i1 (some (.dat (f1 y)))) S = .ok (.dat (g x y)) S) ->
  GJ (.nm i) fX mj (.nm i1) fX e vs1 ρ (xs.map f) S = .ok (xs.flatMap fun x => ys.map (g x)) S
 | [], _, _ => rfl
 | x :: r, h1, h2 => by
  have ih := Di (i := i) (i1 := i1) (mj := mj) (e := e) (vs1 := vs1) (ρ := ρ) (S := S) (f := f) (ys := ys) (g := g) (f1 := f1) r (fun x hx => h1 x (aJ _ hx)) fun x hx => h2 x (aJ _ hx)
  rw [aM, GJ];simp only [oG, fX, if_true];rw [h1 x (aT ..)];dsimp only;have q : iZ (.nm i1) fX e (wipeE (ρ.set i (some (.dat (f x)))) vs1) (ys.map f1) S = .ok (ys.map (g x)) S := zD fun y hy => ⟨_, rfl, h2 x (aT ..) y hy⟩
  rw [q];dsimp only;rw [ih];rfl
theorem GW {xs : List D} {t : Int} {n : Nat} {d : D} {S : aO} (e : t = (n : Int)) (h : xs[n]? = some d) : bO (.dat (.lst xs)) (.dat (.int t)) S = .ok (.dat d) S := by
 rw [e];exact tV (atI_nat h)
theorem K8 {T : aO} {n : Nat} {c : Cell} {d : D} (h : (T.all fun c => c.below T.length) = true) (hn : n = T.length) : trunc n (.ok (.dat d) (T ++ [c])) = .ok (.dat d) T := by
 subst hn;unfold trunc;dsimp only;rw [List.take_left, h];rfl
theorem Hu {S : aO} {c : Cmd} (lb : (S.all fun c => c.below S.length) = true) (h : c.Ok) : qC [.dat c.d] S = .ok (.dat (mD c.mat)) S := by
 have lp := GA (S := S) h 6 0 rfl;rw [lR] at lp;have ex := qG (c := c) (z := zeroP) (S := S) h;rw [HV];unfold vS;have hg : (S ++ [.lst ((aV 7).map (rY c.run))])[S.length]? = some (.lst ((aV 7).map (rY c.run))) := by simp
 have hst : (cN true (aB (cN false (aB (mC (.int 1)) (Rg (aC 1) aK))) aK)) [some (.dat c.d), some (.dat (c.run zeroP).d), none, none, none, none, none, none, none] S = .ok (.cel S.length) (S ++ [.lst ((aV (0 + 1)).map (rY c.run))]) := rfl;have hz : (cH (aB (mC (.int 0)) (aB (mC (.int 0)) (aB (mC (.int 0)) (aB (mC (.int 0)) (aB (mC (.int 0)) (aB (mC (.int 0)) aK))))))) [some (.dat c.d), none, none, none, none, none, none, none, none] S = .ok (.dat zeroP.d) S := rfl;have l2 : (Ss false (iY (mC (.int 7))) (.nm 7) fX (iY (mC (.int 7))) (.nm 8) fX (aP bO (aP bO (aC 2) (aC 8)) (aC 7)) [7, 8] [8]) [some (.dat c.d), some (.dat (c.run zeroP).d), some (.cel S.length), none, none, none, none, none, none] (S ++ [.lst ((aV 7).map (rY c.run))]) = .ok (.dat (mD c.mat)) (S ++ [.lst ((aV 7).map (rY c.run))]) := by
  unfold Ss;simp! [rng7];rw [show gH 0 7 = (aV 7).map (fun k : Nat => D.int (0 + (k : Int))) from rfl]
  rw [Di (ys := aV 7) (f1 := fun k : Nat => D.int (0 + (k : Int))) (g := fun i j => D.int (jS c.run i j)) (aV 7)]
  ·dsimp only
   rw [show (aV 7).flatMap (fun x => (aV 7).map fun j => D.int (jS c.run x j)) = (rows (jS c.run) 7).map D.int by rw [rows, List.map_flatMap]; simp only [gJ]; rfl, J4, if_pos (by rw [aN, CC]; exact sz (by decide))]
   rw [show mx (jS c.run) = c.mat by unfold Cmd.mat probeM; rfl]
  ·intro x hx
   simp! [rng7];rfl
  ·intro x hx y hy
   have hx := fP.mp hx;have hy := fP.mp hy;have i1 : bO (.cel S.length) (.dat (.int (0 + (y : Int)))) (S ++ [.lst ((aV 7).map (rY c.run))]) = .ok (.dat (rY c.run y)) (S ++ [.lst ((aV 7).map (rY c.run))]) := Jc hg (by rw [Int.zero_add]; exact atI_nat (by rw [bN, kN hy]; rfl))
   have i2 : bO (.dat (rY c.run y)) (.dat (.int (0 + (x : Int)))) (S ++ [.lst ((aV 7).map (rY c.run))]) = .ok (.dat (.int (jS c.run x y))) (S ++ [.lst ((aV 7).map (rY c.run))]) := GW (n := x) (by omega) (by rw [bN, kN hx]; rfl)
   simp! [wipeE, i1, i2]
 simp only [Jb, Rw, Rv, Ru, Na, IQ, IP, Ex, Ew, Nc, eF, hz];simp! [Et h, hz, ex, hst, PY, lp, l2];rw [cE, K8 lb rfl]
theorem Kk {S : aO} {c : Cmd} (ls : LS S) (h : c.Ok) : qC [.dat c.d] S = .ok (.dat (mD c.mat)) S := Hu (cD.mpr fun c hc => ls c hc _) h
structure Ms where
 m : List Int
 stk : List (List Int)
def vL : Deed -> Ms -> Option Ms
 | .cmd c, s => some ⟨qK s.m c.mat, s.stk⟩
 | .op, s => some ⟨unitM, s.m :: s.stk⟩
 | .cl, s => match s.stk with
  | [] => none
  | P :: k => some ⟨qK P (qE s.m), k⟩
def kL : List Deed -> Ms -> Option Ms
 | [], s => some s
 | d :: r, s => match vL d s with
  | none => none
  | some s' => kL r s'
def rF : List Deed -> Nat
 | [] => 0
 | .cmd _ :: r => rF r + 1
 | _ :: r => rF r
def MbL : List (List Int) -> Nat -> Prop
 | [], _ => True
 | M :: k, n => ∃ a, 0 < a /\ a <= n /\ M.length = 49 /\ (∀ x ∈ M, Bn a x) /\ MbL k (n - a)
theorem MbL.mono : ∀ {l : List (List Int)} {n m : Nat}, MbL l n -> n <= m -> MbL l m
 | [], _, _, _, _ => trivial
 | M :: k, n, m, ⟨a, h0, h1, h2, h3, h4⟩, h => ⟨a, h0, by omega, h2, h3, h4.mono (by omega)⟩
theorem Lw : ∀ x ∈ unitM, Bn 1 x := fun x hx => by
 rcases Bh hx with rfl | rfl <;> (unfold Bn; decide)
theorem JT {M : List Int} {a : Nat} (h : ∀ x ∈ M, Bn a x) : ∀ x ∈ qE M, Bn a x := Mu fun i j _ _ => by
 by_cases e : i = 0 \/ 4 < i
 ·rw [if_pos e]; exact Dq h
 ·rw [if_neg e]
  unfold delta
  by_cases e2 : i = j
  ·rw [if_pos e2, Int.mul_one]; exact Dq h
  ·rw [if_neg e2, qT]; exact Bn.zero
theorem F6 {d : Deed} {s s' : Ms} {n : Nat} (ok : d.Ok) (h : MbL (s.m :: s.stk) n) (e : vL d s = some s') : MbL (s'.m :: s'.stk) (n + 8) := by
 obtain ⟨a, h0, h1, h2, h3, h4⟩ := h;cases d with
 | cmd c =>
  cases e;exact ⟨a + 5 + 3, by omega, by omega, Ad _ _, HI h3 (Cmd.mat_bd ok), h4.mono (by omega)⟩
 | op =>
  cases e;exact ⟨1, by omega, by omega, uH, Lw, a, h0, by omega, h2, h3, h4.mono (by omega)⟩
 | cl =>
  unfold vL at e;dsimp only at e;cases hk : s.stk with
  | nil => rw [hk] at e; cases e
  | cons P k =>
   rw [hk] at e h4;cases e;obtain ⟨b, g0, g1, g2, g3, g4⟩ := h4;exact ⟨b + a + 3, by omega, by omega, Ad _ _, HI g3 (JT h3), g4.mono (by omega)⟩
section
variable {S0 : aO} {xs : List D}
theorem Ak : (S0 ++ [Cell.lst xs])[S0.length]? = some (.lst xs) := by simp
theorem Ml {c : Cell} : (S0 ++ [Cell.lst xs]).set S0.length c = S0 ++ [c] := by simp
theorem JI {ρ : Ev} {b : FE} {d : D} (F : xs.length < 5000000) (hb : b ρ (S0 ++ [.lst xs]) = .ok (.dat d) (S0 ++ [.lst xs])) : wN b ρ (.cel S0.length) (S0 ++ [.lst xs]) = .ok (.dat .non) (S0 ++ [.lst (xs ++ [d])]) := by
 rw [lP Ak, hb, eF, mR Ak (Hi (by omega)), Ml]
theorem Ph {d : D} : rV (.cel S0.length) (S0 ++ [.lst (xs ++ [d])]) = .ok (.dat d) (S0 ++ [.lst xs]) := by
 simp only [rV, Ak];rw [show (xs ++ [d])[(xs ++ [d]).length - 1]? = some d by simp]
 dsimp only;rw [jV, Ml]
end
theorem Ee {S0 : aO} {a0 a1 a2 a3 a4 : Option Vl} (ls : LS S0) : ∀ (ds : List Deed) (s s' : Ms) (n k : Nat), (∀ d ∈ ds, d.Ok) -> kL ds s = some s' -> MbL (s.m :: s.stk) n -> n + 8 * ds.length <= 900000 -> s.stk.length + ds.length <= 900000 ->
  loop (.nm 8) iT (ds.map Deed.d) [a0, a1, a2, a3, a4, some (.dat (mD s.m)), some (.cel S0.length), some (.dat (.int (k : Int))), none] (S0 ++ [.lst (uR mD s.stk)]) = .next [a0, a1, a2, a3, a4, some (.dat (mD s'.m)), some (.cel S0.length), some (.dat (.int ((k + rF ds : Nat) : Int))), none] (S0 ++ [.lst (uR mD s'.stk)])
 | [], s, s', n, k, _, h, _, _, _ => by cases h; rfl
 | d :: r, s, s', n, k, ok, h, hm, hn, hl => by
  rw [aR] at hn hl;have okd := ok d (aT ..);have okr : ∀ d ∈ r, d.Ok := fun d hd => ok d (aJ _ hd)
  obtain ⟨a, h0, h1, h2, h3, h4⟩ := id hm;rw [aM, loop];simp only [oG, jW];rw [iT];cases d with
  | cmd c =>
   have ih := Ee (S0 := S0) (a0 := a0) (a1 := a1) (a2 := a2) (a3 := a3) (a4 := a4) ls r ⟨qK s.m c.mat, s.stk⟩ s' (n + 8) (k + 1) okr h (F6 okd hm rfl) (by omega) (by dsimp only; omega)
   simp! [Deed.d, F8, BH (c := c) (w := "open") (.inl rfl), BH (c := c) (w := "close") (.inr (.inl rfl)), Kk ls.app (show c.Ok from okd), B4 h2 (show c.mat.length = 49 from C6 _) h3 (Cmd.mat_bd (show c.Ok from okd)) h0 (by decide) (by omega : a + 5 <= 1000000)]
   rw [<- iT, show ((k + rF (Deed.cmd c :: r) : Nat) : Int) = ((k + 1 + rF r : Nat) : Int) by simp [rF]; omega, <- ih]
   rfl
  | op =>
   have ih := Ee (S0 := S0) (a0 := a0) (a1 := a1) (a2 := a2) (a3 := a3) (a4 := a4) ls r ⟨unitM, s.m :: s.stk⟩ s' (n + 8) k okr h (F6 okd hm rfl) (by omega) (by simp; omega)
   simp! [Deed.d, cM, JI (d := mD s.m) (S0 := S0) (xs := uR mD s.stk) (by rw [oI]; omega), As]
   rw [<- iT, show ((k + rF (Deed.op :: r) : Nat) : Int) = ((k + rF r : Nat) : Int) from rfl, <- ih]
   simp only [rvD_cons]
  | cl =>
   cases hk : s.stk with
   | nil => simp [kL, vL, hk] at h
   | cons P q =>
    have e1 : vL .cl s = some ⟨qK P (qE s.m), q⟩ := by simp [vL, hk]
    simp only [kL, vL, hk] at h;rw [hk] at h4 hl;obtain ⟨b, g0, g1, g2, g3, g4⟩ := h4;have ih := Ee (S0 := S0) (a0 := a0) (a1 := a1) (a2 := a2) (a3 := a3) (a4 := a4) ls r ⟨qK P (qE s.m), q⟩ s' (n + 8) k okr h (F6 okd hm e1) (by omega) (by simp at hl ⊢; omega)
    rw [rvD_cons];simp! [Deed.d, cM, Ph, Py h2, B4 g2 (AR s.m) g3 (JT h3) g0 h0 (by omega : b + a <= 1000000)]
    rw [<- iT, show ((k + rF (Deed.cl :: r) : Nat) : Int) = ((k + rF r : Nat) : Int) from rfl, <- ih]
theorem SY {S : aO} {x0 x1 x2 : Vl} {w : Int} {ds : List Deed} {z : Pen} {s' : Ps} (ls : LS S) (he : dB [x0, x1, x2] S = .ok (.dat (.tup [.int w, .lst (ds.map Deed.d)])) S) (ok : ∀ d ∈ ds, d.Ok) (h : kK ds ⟨[], z, []⟩ = some s') (hl : ds.length <= 900000) :
  GB [x0, x1, x2, .dat z.d] S = .ok (.dat (.tup [.int w, s'.z.d, .int (s'.pens.length : Int)])) S := by
 rw [E_ran];unfold Jt;simp! [he, CL, Rc ls ok h hl, aN];rfl
theorem Pp {f : Pen -> Pen} {M : List Int} (h : MatOf f M) : gt M 0 = 1 := by
 have := h.2 zeroP 0 (by decide)
 rw [IF] at this;exact this.symm
theorem MatOf.kept {f : Pen -> Pen} {M : List Int} (h : MatOf f M) : MatOf (fun y => GP y (f y)) (qE M) := ⟨AR M, fun z i hi => by
 by_cases e : i = 0 \/ 4 < i
 ·have e2 : pK (qE M) z i = pK M z i := by
   unfold pK;refine jL fun j hj => ?_
   unfold qE;rw [CO hi hj, if_pos e]
  rw [e2, <- h.2 z i hi];rcases (by omega : i = 0 \/ i = 5 \/ i = 6) with rfl | rfl | rfl <;> rfl
 ·have e2 : pK (qE M) z i = vc z i := by
   unfold pK;rw [jL (g := fun j => vc z j * delta j i) fun j hj => by
    unfold qE;rw [CO hi hj, if_neg e, Pp h, Int.one_mul, Int.mul_comm];unfold delta
    by_cases e3 : i = j
    ·rw [if_pos e3, if_pos e3.symm]; rfl
    ·rw [if_neg e3, if_neg fun z => e3 z.symm, qT, qT]]
   rw [Ac, if_pos hi]
  rw [e2];rcases (by omega : i = 1 \/ i = 2 \/ i = 3 \/ i = 4) with rfl | rfl | rfl | rfl <;> rfl⟩
inductive Chain : List (List Int) -> (Pen -> List Pen) -> Prop
 | nil : Chain [] (fun _ => [])
 | cons {P : List Int} {k : List (List Int)} {ts : Pen -> List Pen} {f : Pen -> Pen} : MatOf f P -> Chain k ts -> Chain (P :: k) (fun z => f ((ts z).headD z) :: ts z)
def Inv (s : Ms) (p : Pen -> Ps) : Prop := ∃ (ts : Pen -> List Pen) (f : Pen -> Pen), Chain s.stk ts /\ MatOf f s.m /\ ∀ z, (p z).stk = ts z /\ (p z).z = f ((ts z).headD z)
theorem LI {d : Deed} {s s' : Ms} {p : Pen -> Ps} (ok : d.Ok) (I : Inv s p) (h : vL d s = some s') : ∃ p' : Pen -> Ps, (∀ z, HC d (p z) = some (p' z)) /\ Inv s' p' /\ ∀ z, (p' z).pens.length = (p z).pens.length + rF [d] := by
 obtain ⟨ts, f, C, hf, hz⟩ := I;cases d with
 | cmd c =>
  cases h;exact ⟨fun z => ⟨(p z).pens ++ [c.run (p z).z], c.run (p z).z, (p z).stk⟩, fun z => rfl, ⟨ts, fun z => c.run (f z), C, hf.comp (Cmd.matOf ok), fun z => ⟨(hz z).1, by dsimp only; rw [(hz z).2]⟩⟩, fun z => by simp [rF]⟩
 | op =>
  cases h;exact ⟨fun z => ⟨(p z).pens, (p z).z, (p z).z :: (p z).stk⟩, fun z => rfl, ⟨_, fun z => z, .cons hf C, MatOf.unit, fun z => ⟨by dsimp only; rw [(hz z).1, (hz z).2], by dsimp only; rw [(hz z).2]; rfl⟩⟩, fun z => rfl⟩
 | cl =>
  unfold vL at h;dsimp only at h;obtain ⟨m, stk⟩ := s;cases C with
  | nil => cases h
  | @cons P k ts g hg C2 =>
   cases h;refine ⟨fun z => ⟨(p z).pens, GP (g ((ts z).headD z)) (p z).z, ts z⟩, fun z => ?_, ⟨ts, fun y => GP (g y) (f (g y)), C2, hg.comp hf.kept, fun z => ⟨rfl, by dsimp only; rw [(hz z).2]; rfl⟩⟩, fun z => rfl⟩
   dsimp only [HC];rw [(hz z).1]
theorem LM {d : Deed} {r : List Deed} : rF (d :: r) = rF [d] + rF r := by
 cases d <;> simp [rF] <;> omega
theorem CY : ∀ {ds : List Deed} {s s' : Ms} {p : Pen -> Ps}, (∀ d ∈ ds, d.Ok) -> Inv s p -> kL ds s = some s' -> ∃ p' : Pen -> Ps, (∀ z, kK ds (p z) = some (p' z)) /\ Inv s' p' /\ ∀ z, (p' z).pens.length = (p z).pens.length + rF ds
 | [], s, s', p, _, I, h => by cases h; exact ⟨p, fun z => rfl, I, fun z => rfl⟩
 | d :: r, s, s', p, ok, I, h => by
  unfold kL at h;cases e : vL d s with
  | none => rw [e] at h; cases h
  | some s1 =>
   rw [e] at h;obtain ⟨p1, h1, I1, n1⟩ := LI (ok d (aT ..)) I e;obtain ⟨p2, h2, I2, n2⟩ := CY (fun d hd => ok d (aJ _ hd)) I1 h
   exact ⟨p2, fun z => by unfold kK; rw [h1 z]; exact h2 z, I2, fun z => by rw [n2, n1, LM (d := d) (r := r)]; omega⟩
theorem LH {ds : List Deed} {s' : Ms} (ok : ∀ d ∈ ds, d.Ok) (h : kL ds ⟨unitM, []⟩ = some s') (hs : s'.stk = []) : ∃ p' : Pen -> Ps, (∀ z, kK ds ⟨[], z, []⟩ = some (p' z)) /\ MatOf (fun z => (p' z).z) s'.m /\ ∀ z, (p' z).pens.length = rF ds := by
 obtain ⟨p', h1, ⟨ts, f, C, hf, hz⟩, n⟩ := CY (p := fun z => ⟨[], z, []⟩) ok ⟨_, fun z => z, .nil, MatOf.unit, fun z => ⟨rfl, rfl⟩⟩ h
 refine ⟨p', h1, ?_, fun z => by rw [n]; simp⟩
 rw [hs] at C;cases C;rw [show (fun z => (p' z).z) = f from funext fun z => (hz z).2]
 exact hf
theorem pw40 {S : aO} : LD (.dat (.int 10)) (.dat (.int 40)) S = .ok (.dat (.int 10000000000000000000000000000000000000000)) S := rfl
theorem dw10 (a : Int) : IntMulOk a 69621 := mulR (by decide) (by decide)
theorem Ki {S : aO} {p : Nat} {ks : List Int} (hP : PoolAt S p ks) : ∃ (d : Int) (ks' : List Int), mQ [.cel p] S = .ok (.dat (.int d)) (S.set p (PL ks')) /\ Bn 137 d /\ ks'.length = ks.length := by
 obtain ⟨d1, k1, e1, h0, h1, l1⟩ := fL hP (k := 3) (by decide) (by decide)
 have P1 := hP.next l1;rw [Ii];unfold tI
 by_cases hd : d1 = 0
 ·subst hd
  obtain ⟨d2, k2, e2, h2, h3, l2⟩ := fL P1 (k := 9) (by decide) (by decide)
  simp only [eI] at e2;simp! [e1, e2];exact ⟨d2 - 4, k2, rfl, by unfold Bn; omega, by omega⟩
 ·obtain ⟨u, hu⟩ : ∃ u, k1[0]? = some u := ⟨k1[0]'(by have := hP.2; omega), by simp [show 0 < k1.length by have := hP.2; omega]⟩
  have hl2 : 2 <= k1.length := P1.2;have hp1 := sL (d := .lst ((k1.set 0 (u + 1)).map D.int)) P1.1;rw [eI] at hp1;have e2 : (kA (fun x y => x + y) (aC 0) (mC (.int 0)) (mC (.int 1))) [some (.cel p), some (.dat (.int d1)), none, none] (S.set p (PL k1)) = .next [some (.cel p), some (.dat (.int d1)), none, none] (S.set p (PL (k1.set 0 (u + 1)))) := by
   rw [A5 rfl rfl rfl P1.1 rfl hu, eI]
  have hn : (1 : Int) + (u + 1) % ((k1.length : Int) - 1) = ((1 + ((u + 1) % ((k1.length : Int) - 1)).toNat : Nat) : Int) := by
   have := dU (u + 1) (show ((k1.length : Int) - 1) ≠ 0 by omega)
   omega
  have hlt : 1 + ((u + 1) % ((k1.length : Int) - 1)).toNat < k1.length := by
   have := dX (u + 1) (show 0 < ((k1.length : Int) - 1) by omega)
   have := dU (u + 1) (show ((k1.length : Int) - 1) ≠ 0 by omega)
   omega
  generalize hj : 1 + ((u + 1) % ((k1.length : Int) - 1)).toNat = j at hn hlt;obtain ⟨c, hc⟩ : ∃ c, (k1.set 0 (u + 1))[j]? = some c := ⟨(k1.set 0 (u + 1))[j]'(by simpa using hlt), by simp [hlt]⟩
  have h00 : (k1.set 0 (u + 1))[0]? = some (u + 1) := by
   rw [aX, if_pos rfl, if_pos (by omega)]
  have lk1 : (k1.set 0 (u + 1)).length = k1.length := by simp
  have P2 : PoolAt (S.set p (PL (k1.set 0 (u + 1)))) p (k1.set 0 (u + 1)) := ⟨hp1, by rw [lk1]; exact hl2⟩
  obtain ⟨d3, k3, e3, h4, h5, l3⟩ := fL P2 (k := 2) (by decide) (by decide)
  rw [eI] at e3;generalize hk : k1.set 0 (u + 1) = kk at *;simp! [e1, decide_eq_false hd, e2, mZ (k := 0) (n := 0) hp1 rfl h00, nW hp1, aN, lk1, lO (show (0 : Int) < (k1.length : Int) - 1 by omega), hn, mZ hp1 rfl hc, pL (dw2 _), pL (dw10 _), pw40, lO (show (0 : Int) < 10000000000000000000000000000000000000000 by decide), e3]
  have b0 := dU (c * 48271 + (u + 1) * 69621) (show (10000000000000000000000000000000000000000 : Int) ≠ 0 by decide)
  have b1 := dX (c * 48271 + (u + 1) * 69621) (show (0 : Int) < 10000000000000000000000000000000000000000 by decide)
  generalize (c * 48271 + (u + 1) * 69621) % 10000000000000000000000000000000000000000 = v at b0 b1;rcases (by omega : d3 = 0 \/ d3 = 1) with rfl | rfl
  ·simp! [if_true]
   exact ⟨v, k3, rfl, by unfold Bn; omega, by omega⟩
  ·simp! [if_true]
   exact ⟨5 - v, k3, rfl, by unfold Bn; omega, by omega⟩
theorem DV {S : aO} {p : Nat} {ks : List Int} (h : PoolAt S p ks) : S.set p (PL ks) = S := by
 obtain ⟨h1, _⟩ := h;obtain ⟨hp, e⟩ := aH.mp h1;rw [show (PL ks : Cell) = S[p] from e.symm, List.set_getElem_self]
theorem JQ {α : Type} {f : α -> D} {md : FD} {P : α -> Prop} {p : Nat} {a1 : Option Vl} (hmd : ∀ {S : aO} {ks : List Int}, PoolAt S p ks -> ∃ (x : α) (ks' : List Int), md [.cel p] S = .ok (.dat (f x)) (S.set p (PL ks')) /\ P x /\ ks'.length = ks.length) : ∀ (ds : List D) (S : aO) (ks : List Int), PoolAt S p ks ->
  ∃ (xs : List α) (ks' : List Int), iZ (.nm 2) fX (aY md (aB (aC 0) aK)) [some (.cel p), a1, none] ds S = .ok (xs.map f) (S.set p (PL ks')) /\ xs.length = ds.length /\ (∀ x ∈ xs, P x) /\ ks'.length = ks.length
 | [], S, ks, h => ⟨[], ks, by rw [DV h]; rfl, rfl, (fun x hx => by cases hx), rfl⟩
 | d :: r, S, ks, h => by
  obtain ⟨x, k1, e1, hx, l1⟩ := hmd h;obtain ⟨xs, k2, e2, hl, hxs, l2⟩ := JQ (a1 := a1) hmd r _ _ (h.next l1);rw [eI] at e2;refine ⟨x :: xs, k2, ?_, by simp [hl], fun y hy => ?_, by omega⟩
  ·rw [iZ]
   simp only [oG, Ja, if_true];simp! [e1];rw [e2];rfl
  ·rcases bM.mp hy with rfl | hy
   ·exact hx
   ·exact hxs y hy
theorem Se {S : aO} {p : Nat} {ks : List Int} (hP : PoolAt S p ks) : ∃ (z : Pen) (ks' : List Int), BQ [.cel p] S = .ok (.dat z.d) (S.set p (PL ks')) /\ (∀ x ∈ z.ns, Bn 137 x) /\ ks'.length = ks.length := by
 obtain ⟨ns, k1, e1, hl, hb, l1⟩ := JQ (f := D.int) (md := mQ) (P := Bn 137) (a1 := none) Ki (gH 0 6) S ks hP;rw [RN];unfold Bb;simp! [PY];have e2 : xH false (.nm 2) fX (aY mQ (aB (aC 0) aK)) [some (.cel p), none, none] [2] (gH 0 6) S = .ok (.dat (.lst (ns.map D.int))) (S.set p (PL k1)) := by
  unfold xH;rw [if_pos (sz (by decide)), show wipeE [some (Vl.cel p), none, none] [2] = [some (Vl.cel p), none, none] from rfl, e1]
  rfl
 match ns, hl, hb, e2 with
 | [a, b, c, d, e, f], _, hb, e2 =>
  simp! [e2, aM, bD, BB, GX, ixL2, GW (xs := [.int a, .int b, .int c, .int d, .int e, .int f]) (t := 3) (n := 3) rfl rfl, GW (xs := [.int a, .int b, .int c, .int d, .int e, .int f]) (t := 4) (n := 4) rfl rfl, GW (xs := [.int a, .int b, .int c, .int d, .int e, .int f]) (t := 5) (n := 5) rfl rfl];exact ⟨⟨a, b, c, d, e, f⟩, k1, rfl, hb, l1⟩
mutual
def D.Sm : D -> Prop
 | .int i => -9 <= i /\ i <= 9
 | .str x => (reprText x).length <= 20
 | .lst xs => D.Sms xs
 | .tup xs => D.Sms xs
 | .ins _ _ _ => False
 | .dct => False
 | .opq _ => False
 | _ => True
def D.Sms : List D -> Prop
 | [] => True
 | x :: r => D.Sm x /\ D.Sms r
end
mutual
def D.tx : D -> Nat
 | .lst xs => D.txs xs + 3
 | .tup xs => D.txs xs + 3
 | _ => 20
def D.txs : List D -> Nat
 | [] => 0
 | x :: r => D.tx x + 2 + D.txs r
end
theorem NS {i : Int} (h : -9 <= i /\ i <= 9) : ((toString i : String) : Str).length <= 20 /\ i.natAbs.log2 < 1920 := by
 obtain ⟨h1, h2⟩ := h;rcases (by omega : i = -9 \/ i = -8 \/ i = -7 \/ i = -6 \/ i = -5 \/ i = -4 \/ i = -3 \/ i = -2 \/ i = -1 \/ i = 0 \/ i = 1 \/ i = 2 \/ i = 3 \/ i = 4 \/ i = 5 \/ i = 6 \/ i = 7 \/ i = 8 \/ i = 9) with rfl | rfl | rfl | rfl | rfl | rfl | rfl | rfl | rfl | rfl | rfl | rfl | rfl | rfl | rfl | rfl | rfl | rfl | rfl <;> decide +kernel
mutual
theorem DI : ∀ (d : D) (p : PyData), d.Sm -> d.py = some p -> p.shown.length <= d.tx /\ p.showable = true /\ p.hasDict = false
 | .non, p, _, e => by cases e; exact ⟨by decide +kernel, rfl, rfl⟩
 | .bl b, p, _, e => by cases e; cases b <;> exact ⟨by decide +kernel, rfl, rfl⟩
 | .int i, p, h, e => by
  cases e;exact ⟨(NS h).1, decide_eq_true (NS h).2, rfl⟩
 | .str x, p, h, e => by cases e; exact ⟨h, rfl, rfl⟩
 | .lst xs, p, h, e => by
  simp only [D.py] at e;cases q : D.pys xs with
  | none => rw [q] at e; cases e
  | some ps =>
   rw [q] at e;cases e;obtain ⟨h1, h2, h3⟩ := AG xs ps h q;refine ⟨?_, h2, h3⟩
   have := listText_len_le (PyData.shownAll ps)
   show (listText (PyData.shownAll ps)).length <= D.txs xs + 3
   omega
 | .tup xs, p, h, e => by
  simp only [D.py] at e;cases q : D.pys xs with
  | none => rw [q] at e; cases e
  | some ps =>
   rw [q] at e;cases e;obtain ⟨h1, h2, h3⟩ := AG xs ps h q;refine ⟨?_, h2, h3⟩
   have := tupleText_len_le (PyData.shownAll ps)
   show (tupleText (PyData.shownAll ps)).length <= D.txs xs + 3
   omega
 | .ins _ _ _, p, h, e => h.elim
 | .dct, p, h, e => h.elim
 | .opq _, p, h, e => h.elim
theorem AG : ∀ (xs : List D) (ps : List PyData), D.Sms xs -> D.pys xs = some ps -> ((PyData.shownAll ps).map (·.length)).sum + 2 * (PyData.shownAll ps).length <= D.txs xs /\ PyData.showableAll ps = true /\ PyData.hasDictAll ps = false
 | [], ps, _, e => by cases e; exact ⟨bV _, rfl, rfl⟩
 | x :: r, ps, h, e => by
  simp only [D.pys] at e;cases q1 : D.py x with
  | none => rw [q1] at e; cases e
  | some p =>
   cases q2 : D.pys r with
   | none => rw [q1, q2] at e; cases e
   | some ps' =>
    rw [q1, q2] at e;cases e;obtain ⟨a1, a2, a3⟩ := DI x p h.1 q1;obtain ⟨b1, b2, b3⟩ := AG r ps' h.2 q2;refine ⟨?_, ?_, ?_⟩
    ·simp only [PyData.shownAll, aM, List.sum_cons, aR, D.txs]
     omega
    ·simp only [PyData.showableAll, a2, b2, AD]
    ·simp only [PyData.hasDictAll, a3, b3, HZ]
end
mutual
theorem st_sm {many : Int} (hm : many <= 9) : ∀ (s : Stt) (k : Nat), s.Ok many k -> s.d.Sm /\ s.d.tx + 2 <= 150 * s.size
 | .cmd c, k, h => by
  cases c with
  | go z => exact ⟨⟨by show (reprText _).length <= 20; decide +kernel, h, trivial⟩, by simp [Stt.d, Cmd.d, D.tx, D.txs, Stt.size]⟩
  | turn z => exact ⟨⟨by show (reprText _).length <= 20; decide +kernel, ⟨by have := h.1; omega, by have := h.2; omega⟩, trivial⟩, by simp [Stt.d, Cmd.d, D.tx, D.txs, Stt.size]⟩
  | scale z => exact ⟨⟨by show (reprText _).length <= 20; decide +kernel, ⟨by have := h.1; omega, by have := h.2; omega⟩, trivial⟩, by simp [Stt.d, Cmd.d, D.tx, D.txs, Stt.size]⟩
  | aim a b => exact ⟨⟨by show (reprText _).length <= 20; decide +kernel, h.1, h.2, trivial⟩, by simp [Stt.d, Cmd.d, D.tx, D.txs, Stt.size]⟩
  | place a b => exact ⟨⟨by show (reprText _).length <= 20; decide +kernel, h.1, h.2, trivial⟩, by simp [Stt.d, Cmd.d, D.tx, D.txs, Stt.size]⟩
  | mirror => exact ⟨⟨by show (reprText _).length <= 20; decide +kernel, trivial⟩, by simp [Stt.d, Cmd.d, D.tx, D.txs, Stt.size]⟩
  | mark => exact ⟨⟨by show (reprText _).length <= 20; decide +kernel, trivial⟩, by simp [Stt.d, Cmd.d, D.tx, D.txs, Stt.size]⟩
  | ret => exact ⟨⟨by show (reprText _).length <= 20; decide +kernel, trivial⟩, by simp [Stt.d, Cmd.d, D.tx, D.txs, Stt.size]⟩
  | exch => exact ⟨⟨by show (reprText _).length <= 20; decide +kernel, trivial⟩, by simp [Stt.d, Cmd.d, D.tx, D.txs, Stt.size]⟩
 | .fin w, k, h => ⟨⟨by show (reprText _).length <= 20; decide +kernel, ⟨by have := h.1; omega, by have := h.2; omega⟩, trivial⟩, by simp [Stt.d, D.tx, D.txs, Stt.size]⟩
 | .bad, k, h => ⟨⟨by show (reprText _).length <= 20; decide +kernel, trivial⟩, by simp [Stt.d, D.tx, D.txs, Stt.size]⟩
 | .odd x, k, h => h.elim
 | .keep b, k, h => by
  obtain ⟨h1, h2⟩ := uJ hm b (k - 1) h.2;exact ⟨⟨by show (reprText _).length <= 20; decide +kernel, h1, trivial⟩, by simp [Stt.d, D.tx, D.txs, Stt.size]; omega⟩
 | .again b, k, h => by
  obtain ⟨h1, h2⟩ := uJ hm b (k - 1) h.2;exact ⟨⟨by show (reprText _).length <= 20; decide +kernel, h1, trivial⟩, by simp [Stt.d, D.tx, D.txs, Stt.size]; omega⟩
 | .either a b, k, h => by
  obtain ⟨h1, h2⟩ := uJ hm a (k - 1) h.2.1;obtain ⟨h3, h4⟩ := uJ hm b (k - 1) h.2.2;exact ⟨⟨by show (reprText _).length <= 20; decide +kernel, h1, h3, trivial⟩, by simp [Stt.d, D.tx, D.txs, Stt.size]; omega⟩
 | .call g f a b, k, h => by
  obtain ⟨h1, h2⟩ := uJ hm a (k - 1) h.2.1;obtain ⟨h3, h4⟩ := uJ hm b (k - 1) h.2.2;exact ⟨⟨by show (reprText _).length <= 20; decide +kernel, ⟨by have := h.1.2.1; omega, by have := h.1.2.2; omega⟩, trivial, ⟨h1, h3, trivial⟩, trivial⟩, by simp [Stt.d, D.tx, D.txs, Stt.size]; omega⟩
theorem uJ {many : Int} (hm : many <= 9) : ∀ (l : List Stt) (k : Nat), OkL many l k -> D.Sms (bE l) /\ D.txs (bE l) <= 150 * bP l
 | [], k, h => ⟨trivial, by simp [bE, D.txs]⟩
 | s :: r, k, h => by
  obtain ⟨h1, h2⟩ := st_sm hm s k h.1.1;obtain ⟨h3, h4⟩ := uJ hm r k h.2;exact ⟨⟨h1, h3⟩, by simp only [bE, D.txs, bP]; omega⟩
end
theorem KF {many : Int} {l : List Stt} {k : Nat} {S : aO} (hm : many <= 9) (h : OkL many l k) (hk : k <= 20) (hl : l.length <= 1000) (hs : bP l <= 1000) : ∃ z, Cv (.dat (.lst (bE l))) S = .ok (.dat (.str z)) S := by
 obtain ⟨h1, h2⟩ := jC l k h;obtain ⟨p, e1, e2, e3⟩ := JB (.lst (bE l)) ⟨by rw [cV]; exact hl, h1⟩
 obtain ⟨h3, h4⟩ := uJ hm l k h;obtain ⟨a1, a2, a3⟩ := DI (.lst (bE l)) p h3 e1;have hd : isDisplay p = true := by
  simp only [D.py] at e1;cases q : D.pys (bE l) with
  | none => rw [q] at e1; cases e1
  | some ps => rw [q] at e1; cases e1; rfl
 refine ⟨p.shown, ?_⟩
 unfold Cv;rw [show uD S (.dat (.lst (bE l))) = some p from e1]
 dsimp only;rw [if_pos ⟨a2, a3, hd, by rw [e3]; simp only [D.ht]; omega, cC a1 (by simp only [D.tx]; exact cC (show D.txs (bE l) + 3 <= 150003 by omega) (by decide))⟩]
mutual
/-- all lists within have eight statements at most -/
def Stt.Lb : Stt -> Prop
 | .keep b => b.length <= 8 /\ Ob b
 | .again b => b.length <= 8 /\ Ob b
 | .either a b => (a.length <= 8 /\ Ob a) /\ b.length <= 8 /\ Ob b
 | .call _ _ a b => (a.length <= 8 /\ Ob a) /\ b.length <= 8 /\ Ob b
 | _ => True
def Ob : List Stt -> Prop
 | [] => True
 | s :: r => s.Lb /\ Ob r
end
mutual
theorem lb_S : ∀ {s : Stt}, s.size <= 9 -> s.Lb
 | .cmd c, h => trivial
 | .fin w, h => trivial
 | .keep b, h => by
  have h : bP b + 1 <= 9 := h;exact ⟨cC (eB b) (by omega), Hz (by omega)⟩
 | .again b, h => by
  have h : bP b + 1 <= 9 := h;exact ⟨cC (eB b) (by omega), Hz (by omega)⟩
 | .either a b, h => by
  have h : bP a + bP b + 1 <= 9 := h;exact ⟨⟨cC (eB a) (by omega), Hz (by omega)⟩, cC (eB b) (by omega), Hz (by omega)⟩
 | .call g f a b, h => by
  have h : bP a + bP b + 1 <= 9 := h;exact ⟨⟨cC (eB a) (by omega), Hz (by omega)⟩, cC (eB b) (by omega), Hz (by omega)⟩
 | .bad, h => trivial
 | .odd _, h => trivial
theorem Hz : ∀ {l : List Stt}, bP l <= 8 -> Ob l
 | [], h => trivial
 | s :: r, h => by
  have h : s.size + bP r <= 8 := h;exact ⟨lb_S (by omega), Hz (by omega)⟩
end
mutual
theorem Stt.Gd.okb {many : Int} : ∀ {s : Stt} {n : Nat}, s.Gd many n -> s.Lb -> s.Ok many n
 | .cmd c, n, h, _ => h
 | .fin c, n, h, _ => h
 | .keep b, n, h, l => ⟨h.1, GdL.okb h.2 l.2 (cC l.1 (by decide))⟩
 | .again b, n, h, l => ⟨h.1, GdL.okb h.2 l.2 (cC l.1 (by decide))⟩
 | .either a b, n, h, l => ⟨h.1, GdL.okb h.2.1 l.1.2 (cC l.1.1 (by decide)), GdL.okb h.2.2 l.2.2 (cC l.2.1 (by decide))⟩
 | .call g f a b, n, h, l => ⟨h.1, GdL.okb h.2.1 l.1.2 (cC l.1.1 (by decide)), GdL.okb h.2.2 l.2.2 (cC l.2.1 (by decide))⟩
 | .bad, n, h, _ => h.elim
 | .odd _, n, h, _ => h.elim
theorem GdL.okb {many : Int} : ∀ {l : List Stt} {n : Nat}, GdL many l n -> Ob l -> l.length <= 10 -> OkL many l n
 | [], n, _, _, _ => trivial
 | s :: r, n, h, l8, hl => by
  simp only [aR] at hl;exact ⟨⟨Stt.Gd.okb h.1 l8.1, by omega⟩, GdL.okb h.2 l8.2 (by omega)⟩
end
theorem N5 : ∀ {l : List Stt}, Ob l -> ∀ s ∈ l, s.Lb
 | x :: r, h, s, hs => by
  rcases bM.mp hs with rfl | hs
  ·exact h.1
  ·exact N5 h.2 s hs
def SG (many : Int) (s : Stt) : Prop := ∃ k, k <= 3 /\ s.Gd many k /\ s.size <= 12 /\ s.Lb
def BG (many : Int) (l : List Stt) : Prop := l.length <= 8 /\ ∀ s ∈ l, SG many s
theorem II {many : Int} : ∀ {l : List Stt} {k : Nat}, GdL many l k -> ∀ s ∈ l, s.Gd many k
 | x :: r, k, h, s, hs => by
  rcases bM.mp hs with rfl | hs
  ·exact h.1
  ·exact II h.2 s hs
theorem BG.of {many : Int} {l : List Stt} {k : Nat} (h : GdL many l k) (hk : k <= 3) (hl : l.length <= 8) (hs : bP l <= 12) (hb : Ob l) : BG many l := ⟨hl, fun s hm => ⟨k, hk, II h s hm, by have := Bo hm; omega, N5 hb s hm⟩⟩
theorem SG.keep {many : Int} {b : List Stt} (h : SG many (.keep b)) : BG many b := by
 obtain ⟨k, hk, h1, h2, h3⟩ := h;exact BG.of h1.2 (by omega) h3.1 (by simp [Stt.size] at h2; omega) h3.2
theorem SG.again {many : Int} {b : List Stt} (h : SG many (.again b)) : BG many b := by
 obtain ⟨k, hk, h1, h2, h3⟩ := h;exact BG.of h1.2 (by omega) h3.1 (by simp [Stt.size] at h2; omega) h3.2
theorem SG.either {many : Int} {a b : List Stt} (h : SG many (.either a b)) : BG many a /\ BG many b := by
 obtain ⟨k, hk, h1, h2, h3⟩ := h;simp [Stt.size] at h2;exact ⟨BG.of h1.2.1 (by omega) h3.1.1 (by omega) h3.1.2, BG.of h1.2.2 (by omega) h3.2.1 (by omega) h3.2.2⟩
theorem SG.call {many g : Int} {f : Bool} {a b : List Stt} (h : SG many (.call g f a b)) : (0 <= g /\ g < many) /\ BG many a /\ BG many b := by
 obtain ⟨k, hk, h1, h2, h3⟩ := h;simp [Stt.size] at h2;exact ⟨h1.1.2, BG.of h1.2.1 (by omega) h3.1.1 (by omega) h3.1.2, BG.of h1.2.2 (by omega) h3.2.1 (by omega) h3.2.2⟩
theorem SG.cmd {many : Int} {c : Cmd} (h : SG many (.cmd c)) : c.Ok := by
 obtain ⟨k, hk, h1, h2⟩ := h;exact h1
theorem SG.fin {many w : Int} (h : SG many (.fin w)) : w = 0 \/ w = 1 := by
 obtain ⟨k, hk, h1, h2⟩ := h;have := h1.1; have := h1.2;omega
theorem SG.noodd {many : Int} {s : Stt} (h : SG many s) : s.isOdd = false := by
 obtain ⟨k, hk, h1, h2⟩ := h;cases s with
 | odd x => exact h1.elim
 | _ => rfl
theorem str_ok {many : Int} {a b : List Stt} {S : aO} (hm : many <= 9) (h : SG many (.either a b)) : ∃ z, Cv (.dat (.lst (bE a))) S = .ok (.dat (.str z)) S := by
 obtain ⟨k, hk, h1, h2, h3⟩ := h;simp [Stt.size] at h2;exact KF hm (GdL.okb h1.2.1 h3.1.2 (cC h3.1.1 (by decide))) (by omega) (cC (eB a) (by omega)) (by omega)
inductive LT where
 | st (s : Stt) | shut | out (c : eN) (w : Int)
def LT.d : LT -> D
 | .st s => s.d
 | .shut => .tup [.str "shut"]
 | .out c w => .tup [.str "out", SB c, .int w]
def LT.word : LT -> Str
 | .st s => s.word
 | .shut => "shut"
 | .out _ _ => "out"
def LT.Ok (many : Int) : LT -> Prop
 | .st s => SG many s
 | .shut => True
 | .out c w => (0 <= c.1 /\ c.1 < many) /\ BG many c.2.2.1 /\ BG many c.2.2.2 /\ (w = 0 \/ w = 1)
def gM (l : List Stt) : List LT := l.map LT.st
structure Lm where
 bits : List Int
 extra : Nat
 taken : Nat
 way : Int
 deeds : List Deed
 opens : List (Nat × Nat)
 todo : List LT
def JH (o : Nat × Nat) : D := .tup [.int (o.1 : Int), .int (o.2 : Int)]
def lmF (n : Nat) (bs : List (List Stt)) (m : Lm) : List (Str × Vl) := [("bodies", .dat (.lst (bls bs))), ("bits", .cel n), ("extra", .dat (.int (m.extra : Int))), ("taken", .dat (.int (m.taken : Int))), ("way", .dat (.int m.way)), ("deeds", .cel (n + 1)), ("opens", .cel (n + 2)), ("todo", .dat (.lst (m.todo.map LT.d)))]
def eC (S0 : aO) (bs : List (List Stt)) (m : Lm) : aO := S0 ++ [.lst (m.bits.map D.int), .lst (m.deeds.map Deed.l), .lst (uR JH m.opens), .dct (lmF S0.length bs m)]
section
variable {S0 : aO} {bs : List (List Stt)} {m : Lm}
theorem mY : (eC S0 bs m)[S0.length]? = some (.lst (m.bits.map D.int)) := by simp [eC]
theorem pI : (eC S0 bs m)[S0.length + 1]? = some (.lst (m.deeds.map Deed.l)) := by
 rw [eC, bB (by omega), show S0.length + 1 - S0.length = 1 by omega]; rfl
theorem zA : (eC S0 bs m)[S0.length + 2]? = some (.lst (uR JH m.opens)) := by
 rw [eC, bB (by omega), show S0.length + 2 - S0.length = 2 by omega]; rfl
theorem jU : (eC S0 bs m)[S0.length + 3]? = some (.dct (lmF S0.length bs m)) := by
 rw [eC, bB (by omega), show S0.length + 3 - S0.length = 3 by omega]; rfl
theorem Pv {xs : List Int} : (eC S0 bs m).set S0.length (.lst (xs.map D.int)) = eC S0 bs { m with bits := xs } := by simp [eC, lmF]
theorem JO {xs : List Deed} : (eC S0 bs m).set (S0.length + 1) (.lst (xs.map Deed.l)) = eC S0 bs { m with deeds := xs } := by
 rw [eC, dE _ _ (by omega), show S0.length + 1 - S0.length = 1 by omega]; rfl
theorem JN {xs : List (Nat × Nat)} : (eC S0 bs m).set (S0.length + 2) (.lst (uR JH xs)) = eC S0 bs { m with opens := xs } := by
 rw [eC, dE _ _ (by omega), show S0.length + 2 - S0.length = 2 by omega]; rfl
theorem yZ {fs : List (Str × Vl)} : (eC S0 bs m).set (S0.length + 3) (.dct fs) = S0 ++ [.lst (m.bits.map D.int), .lst (m.deeds.map Deed.l), .lst (uR JH m.opens), .dct fs] := by
 rw [eC, dE _ _ (by omega), show S0.length + 3 - S0.length = 3 by omega]; rfl
abbrev lv (S0 : aO) : Vl := .cel (S0.length + 3)
theorem Ko : dC (lv S0) (.dat (.str "bodies")) (eC S0 bs m) = .ok (.dat (.lst (bls bs))) (eC S0 bs m) := lQ jU rfl
theorem zC : dC (lv S0) (.dat (.str "bits")) (eC S0 bs m) = .ok (.cel S0.length) (eC S0 bs m) := lQ jU rfl
theorem GG : dC (lv S0) (.dat (.str "extra")) (eC S0 bs m) = .ok (.dat (.int (m.extra : Int))) (eC S0 bs m) := lQ jU rfl
theorem lK : dC (lv S0) (.dat (.str "taken")) (eC S0 bs m) = .ok (.dat (.int (m.taken : Int))) (eC S0 bs m) := lQ jU rfl
theorem T6 : dC (lv S0) (.dat (.str "way")) (eC S0 bs m) = .ok (.dat (.int m.way)) (eC S0 bs m) := lQ jU rfl
theorem nO : dC (lv S0) (.dat (.str "deeds")) (eC S0 bs m) = .ok (.cel (S0.length + 1)) (eC S0 bs m) := lQ jU rfl
theorem CG : dC (lv S0) (.dat (.str "opens")) (eC S0 bs m) = .ok (.cel (S0.length + 2)) (eC S0 bs m) := lQ jU rfl
theorem sY : dC (lv S0) (.dat (.str "todo")) (eC S0 bs m) = .ok (.dat (.lst (m.todo.map LT.d))) (eC S0 bs m) := lQ jU rfl
theorem GE : ((lmF S0.length bs m).map Prod.fst).Nodup := by
 show (["bodies", "bits", "extra", "taken", "way", "deeds", "opens", "todo"] : List Str).Nodup
 decide +kernel
theorem yX {ρ : Ev} {ts : List LT} : vF ρ (.dat (.lst (ts.map LT.d))) (lv S0) (.dat (.str "todo")) (eC S0 bs m) = .next ρ (eC S0 bs { m with todo := ts }) := by
 unfold vF;rw [AV jU (by show 8 < 1000; decide) GE, yZ]
 rfl
theorem Sx {ρ : Ev} {w : Int} : vF ρ (.dat (.int w)) (lv S0) (.dat (.str "way")) (eC S0 bs m) = .next ρ (eC S0 bs { m with way := w }) := by
 unfold vF;rw [AV jU (by show 8 < 1000; decide) GE, yZ]
 rfl
theorem GD {ρ : Ev} {v : FE} (hv : v ρ (eC S0 bs m) = .ok (.dat (.int 1)) (eC S0 bs m)) : vG Gz v ρ (lv S0) (.dat (.str "taken")) (eC S0 bs m) = .next ρ (eC S0 bs { m with taken := m.taken + 1 }) := by
 unfold vG;rw [lK];dsimp only;rw [hv, lN];unfold Ep Gz;dsimp only;rw [AV jU (by show 8 < 1000; decide) GE, yZ]
 rfl
theorem My {ρ : Ev} {v : FE} {k : Nat} (he : m.extra = k + 1) (hv : v ρ (eC S0 bs m) = .ok (.dat (.int 1)) (eC S0 bs m)) : vG Gv v ρ (lv S0) (.dat (.str "extra")) (eC S0 bs m) = .next ρ (eC S0 bs { m with extra := k }) := by
 unfold vG;rw [GG];dsimp only;rw [hv, lN];unfold Ep Gv;dsimp only;rw [AV jU (by show 8 < 1000; decide) GE, yZ, he, show (((k + 1 : Nat) : Int) - 1) = (k : Int) by omega]
 rfl
theorem CF {ρ : Ev} {v : FE} {ds : List Deed} (hl : m.deeds.length + ds.length <= 1000000) (hv : v ρ (eC S0 bs m) = .ok (.dat (.lst (ds.map Deed.l))) (eC S0 bs m)) : vG IU v ρ (lv S0) (.dat (.str "deeds")) (eC S0 bs m) = .next ρ (eC S0 bs { m with deeds := m.deeds ++ ds }) := by
 unfold vG;rw [nO];dsimp only;rw [hv, lN];unfold Ep IU;dsimp only;rw [pI];dsimp only;rw [aN, aN, if_pos (cC hl (by decide))]
 dsimp only;rw [<- cQ, JO, AV jU (by show 8 < 1000; decide) GE, yZ]
 rfl
theorem CK {ρ : Ev} {b : FE} {t : Deed} (F : m.deeds.length < 1000000) (hb : b ρ (eC S0 bs m) = .ok (.dat t.l) (eC S0 bs m)) : wN b ρ (.cel (S0.length + 1)) (eC S0 bs m) = .ok (.dat .non) (eC S0 bs { m with deeds := m.deeds ++ [t] }) := by
 rw [lP pI, hb, eF, mR pI (by rw [aN]; exact Hi (by omega)), show m.deeds.map Deed.l ++ [t.l] = (m.deeds ++ [t]).map Deed.l by simp, JO]
theorem Pw {ρ : Ev} {b : FE} {t : Int} (F : m.bits.length < 1000000) (hb : b ρ (eC S0 bs m) = .ok (.dat (.int t)) (eC S0 bs m)) : wN b ρ (.cel S0.length) (eC S0 bs m) = .ok (.dat .non) (eC S0 bs { m with bits := m.bits ++ [t] }) := by
 rw [lP mY, hb, eF, mR mY (by rw [aN]; exact Hi (by omega)), show m.bits.map D.int ++ [.int t] = (m.bits ++ [t]).map D.int by simp, Pv]
theorem N7 {ρ : Ev} {b : FE} {t : Nat × Nat} (F : m.opens.length < 1000000) (hb : b ρ (eC S0 bs m) = .ok (.dat (JH t)) (eC S0 bs m)) : wN b ρ (.cel (S0.length + 2)) (eC S0 bs m) = .ok (.dat .non) (eC S0 bs { m with opens := t :: m.opens }) := by
 rw [lP zA, hb, eF, mR zA (by rw [oI]; exact Hi (by omega)), <- rvD_cons, JN]
theorem N0 {t : Nat × Nat} {r : List (Nat × Nat)} (h : m.opens = t :: r) : rV (.cel (S0.length + 2)) (eC S0 bs m) = .ok (.dat (JH t)) (eC S0 bs { m with opens := r }) := by
 have e := zA (S0 := S0) (bs := bs) (m := m);rw [h, rvD_cons] at e;simp only [rV, e];rw [show (uR JH r ++ [JH t])[(uR JH r ++ [JH t]).length - 1]? = some (JH t) by simp]
 dsimp only;rw [jV, JN]
end
def strOf (l : List Stt) : Str := match D.py (.lst (bE l)) with
 | some p => p.shown
 | none => ""
theorem SL {many : Int} {a b : List Stt} {S : aO} (hm : many <= 9) (h : SG many (.either a b)) : Cv (.dat (.lst (bE a))) S = .ok (.dat (.str (strOf a))) S := by
 obtain ⟨z, e⟩ := str_ok (S := S) hm h;have e' := e;unfold Cv at e';rw [show uD S (.dat (.lst (bE a))) = D.py (.lst (bE a)) from rfl] at e'
 unfold strOf;split at e'
 ·rename_i p q
  try rw [q]
  try dsimp only
  split at e'
  ·cases e'; exact e
  ·cases e'
 ·cases e'
def OC : Stt -> Int
 | .either a _ => if (!(Builtin.Str.occurrences (strOf a) "call" 0 (strOf a).length 1).isEmpty) = true then 1 else 0
 | _ => 0
theorem OD (s : Stt) : OC s = 0 \/ OC s = 1 := by
 unfold OC;split
 ·split
  ·exact .inr rfl
  ·exact .inl rfl
 ·exact .inl rfl
def sZ (s : Stt) (m : Lm) : Option (Int × Lm) := if m.taken = m.bits.length then (match m.extra with
  | 0 => none
  | k + 1 => some (OC s, { m with extra := k, bits := m.bits ++ [OC s], taken := m.taken + 1 }))
 else match m.bits[m.taken]? with
  | some b => some (b, { m with taken := m.taken + 1 })
  | none => none
def asks : Stt -> Bool
 | .either _ _ => true
 | .again _ => true
 | _ => false
theorem UT {S0 : aO} {bs : List (List Stt)} {m : Lm} {s : Stt} {many : Int} (hm : many <= 9) (hs : SG many s) (ha : asks s = true) (ht : m.taken <= m.bits.length) (hl : m.bits.length < 100000) :
  BR [lv S0, .dat s.d] (eC S0 bs m) = match sZ s m with
   | none => .ok (.dat (.int 2)) (eC S0 bs m)
   | some (b, m') => .ok (.dat (.int b)) (eC S0 bs m') := by
 rw [RP];unfold Bc;unfold sZ
 by_cases h1 : m.taken = m.bits.length
 ·rw [if_pos h1]
  simp! [sH, zC, lK, nW mY, aN, decide_eq_true (show (m.taken : Int) = (m.bits.length : Int) by omega), GG]
  cases h2 : m.extra with
  | zero =>
   simp! [sH];rfl
  | succ k =>
   dsimp only;have i0 : ∀ {S : aO}, bO (.dat s.d) (.dat (.int 0)) S = .ok (.dat (.str s.word)) S := BV hs.noodd;have hap : ∀ {m : Lm}, (m1 pX (pH (aP fF (aP bO (aC 1) (mC (.int 0))) (mC (.str "either"))) (aP OA (mC (.str "call")) (m1 Cv (aP bO (aC 1) (mC (.int 1))))))) [some (lv S0), some (.dat s.d), some (.cel S0.length)] (eC S0 bs m) = .ok (.dat (.int (OC s))) (eC S0 bs m) := by
    intro m;cases s with
    | either a b =>
     simp! [sH, cM, fZ, Stt.d, SL hm hs];rfl
    | again b =>
     simp! [sH, i0, Stt.word];rfl
    | _ => cases ha
   simp! [sH, decide_eq_false (show ¬ (((k + 1 : Nat) : Int) = 0) by omega), My (k := k) h2, Pw (m := { m with extra := k }) (t := OC s) (by dsimp only; omega) hap, GD (m := { m with extra := k, bits := m.bits ++ [OC s] }), lK]
   have i1 : bO (.cel S0.length) (.dat (.int (((m.taken + 1 : Nat) : Int) - 1))) (eC S0 bs { m with extra := k, bits := m.bits ++ [OC s], taken := m.taken + 1 }) = .ok (.dat (.int (OC s))) (eC S0 bs { m with extra := k, bits := m.bits ++ [OC s], taken := m.taken + 1 }) := mZ (n := m.taken) mY (by omega) (by rw [h1]; simp)
   simp! [sH, i1];rfl
 ·rw [if_neg h1]
  obtain ⟨b, hb⟩ : ∃ b, m.bits[m.taken]? = some b := ⟨m.bits[m.taken]'(by omega), by simp [show m.taken < m.bits.length by omega]⟩
  rw [hb];simp! [sH, zC, lK, nW mY, aN, decide_eq_false (show ¬ (m.taken : Int) = (m.bits.length : Int) by omega), GD]
  have i1 : bO (.cel S0.length) (.dat (.int (((m.taken + 1 : Nat) : Int) - 1))) (eC S0 bs { m with taken := m.taken + 1 }) = .ok (.dat (.int b)) (eC S0 bs { m with taken := m.taken + 1 }) := mZ (n := m.taken) mY (by omega) hb
  simp! [sH, i1];rfl
inductive LR where
 | ok (blk : List LT) (m : Lm) | non (m : Lm) | no
def eU : List LT -> Option (List Deed × eN × List LT)
 | [] => none
 | .out c _ :: r => some ([], c, r)
 | .shut :: r => (match eU r with
  | some (ds, c, q) => some (.cl :: ds, c, q)
  | none => none)
 | .st _ :: r => eU r
def CM : LT -> Bool
 | .shut => true
 | _ => false
def NQ : LT -> Bool
 | .out _ _ => true
 | _ => false
theorem zS : ∀ {ts : List LT} {ds : List Deed} {c : eN} {r : List LT}, eU ts = some (ds, c, r) -> ∃ pre w, ts = pre ++ .out c w :: r /\ (∀ t ∈ pre, NQ t = false) /\ (pre.filter CM).map LT.d = ds.map Deed.l /\ ds.length <= pre.length
 | [], ds, c, r, h => by cases h
 | .out c' w :: q, ds, c, r, h => by cases h; exact ⟨[], w, rfl, (fun t h => by cases h), rfl, bV _⟩
 | .shut :: q, ds, c, r, h => by
  simp only [eU] at h;cases e : eU q with
  | none => rw [e] at h; cases h
  | some x =>
   obtain ⟨ds', c', q'⟩ := x;rw [e] at h;cases h;obtain ⟨pre, w, h1, h2, h3, h4⟩ := zS e;refine ⟨.shut :: pre, w, by rw [h1]; rfl, fun t ht => ?_, ?_, by simp; omega⟩
   ·rcases bM.mp ht with rfl | ht
    ·rfl
    ·exact h2 t ht
   ·rw [mJ rfl, aM, h3]
    rfl
 | .st s :: q, ds, c, r, h => by
  obtain ⟨pre, w, h1, h2, h3, h4⟩ := zS (ts := q) h;refine ⟨.st s :: pre, w, by rw [h1]; rfl, fun t ht => ?_, ?_, by simp; omega⟩
  ·rcases bM.mp ht with rfl | ht
   ·rfl
   ·exact h2 t ht
  ·rw [mK (by simp [CM]), h3]
theorem Hx {t : LT} {many : Int} {S : aO} (h : t.Ok many) : bO (.dat t.d) (.dat (.int 0)) S = .ok (.dat (.str t.word)) S := by
 cases t with
 | st s => exact BV (SG.noodd h)
 | shut => exact cM
 | out c w => exact cM
theorem Dh {t : Tg} {mt : FT} {e : FE} {ρ : Ev} {S : aO} {f g : LT -> D} {p : LT -> Bool} : ∀ {xs : List LT}, (∀ x ∈ xs, ∃ ρ1, oG t (.dat (f x)) ρ = some ρ1 /\ mt ρ1 S = .ok (p x) S /\ e ρ1 S = .ok (.dat (g x)) S) -> iZ t mt e ρ (xs.map f) S = .ok ((xs.filter p).map g) S
 | [], _ => rfl
 | x :: xs, h => by
  obtain ⟨ρ1, h1, h2, h3⟩ := h x (aT ..);have ih := Dh (xs := xs) fun y hy => h y (aJ _ hy)
  rw [aM, iZ];simp only [h1, h2];cases q : p x with
  | true =>
   rw [mJ q];simp only [if_true, h3, ih, aM]
  | false =>
   rw [mK (by rw [q]; decide)]
   simp only [Ai, if_false, ih]
def allWords : List Str := ["go", "turn", "mirror", "scale", "aim", "place", "mark", "return", "exchange", "end", "keep", "again", "either", "call", "shut", "out"]
theorem Lq {t : LT} {many : Int} (h : t.Ok many) : t.word ∈ allWords := by
 cases t with
 | shut => simp [allWords, LT.word]
 | out c w => simp [allWords, LT.word]
 | st s =>
  cases s with
  | cmd c => cases c <;> simp [allWords, LT.word, Stt.word, Cmd.word]
  | odd x => exact (by obtain ⟨k, _, h, _⟩ := h; exact h.elim)
  | bad => exact (by obtain ⟨k, _, h, _⟩ := h; exact h.elim)
  | _ => simp [allWords, LT.word, Stt.word]
theorem Oo {t : LT} {many : Int} (h : t.Ok many) : PyData.strOk t.word = true := cD.mp (show allWords.all PyData.strOk = true by decide +kernel) _ (Lq h)
theorem Lp {t : LT} {many : Int} (h : t.Ok many) : (t.word == ("out" : Str)) = NQ t := by
 cases t with
 | shut => rfl
 | out c w => rfl
 | st s =>
  cases s with
  | cmd c => cases c <;> rfl
  | odd x => exact (by obtain ⟨k, _, h, _⟩ := h; exact h.elim)
  | bad => rfl
  | _ => rfl
theorem K2 {t : LT} {many : Int} (h : t.Ok many) : decide (t.word = ("shut" : Str)) = CM t := by
 cases t with
 | shut => rfl
 | out c w => rfl
 | st s =>
  cases s with
  | cmd c => cases c <;> rfl
  | odd x => exact (by obtain ⟨k, _, h, _⟩ := h; exact h.elim)
  | bad => rfl
  | _ => rfl
theorem FV {many : Int} : ∀ {ts : List LT}, (∀ t ∈ ts, t.Ok many) -> D.pys (ts.map fun t => .str t.word) = some (ts.map fun t => .str t.word) /\ PyData.canLayAll0 (ts.map fun t => PyData.str t.word) = true /\ PyData.depthAll (ts.map fun t => PyData.str t.word) = 0
 | [], _ => ⟨rfl, rfl, rfl⟩
 | t :: r, h => by
  obtain ⟨h1, h2, h3⟩ := FV (ts := r) fun t ht => h t (aJ _ ht)
  refine ⟨?_, ?_, ?_⟩
  ·rw [aM, D.pys, h1]
   rfl
  ·rw [aM, PyData.canLayAll0, h2, AD]
   exact Oo (h t (aT ..))
  ·rw [aM, PyData.depthAll, h3]
   rfl
theorem NO {as bs : List PyData} {z d : PyData} (h1 : ∀ x ∈ as, PyData.eqv x d = false) (h2 : PyData.eqv z d = true) : NP (as ++ z :: bs) d = some as.length := by
 unfold NP;rw [Cp];refine ⟨by simp [h2], aV as.length, (aV bs.length).map (as.length + 1 + ·), ?_, fun j hj => ?_⟩
 ·rw [bL, aR, show as.length + (bs.length + 1) = as.length + 1 + bs.length by omega, List.range_add, DA, dG]
  rfl
 ·have hj := fP.mp hj
  rw [aL hj, cJ hj];simp [h1 _ (uE hj)]
theorem Ku {pre r : List LT} {c : eN} {w : Int} {many : Int} {S : aO} (h : ∀ t ∈ pre ++ .out c w :: r, t.Ok many) (hn : ∀ t ∈ pre, NQ t = false) : xJ (.dat (.lst ((pre ++ .out c w :: r).map fun t => .str t.word))) (.dat (.str "out")) S = .ok (.dat (.int (pre.length : Int))) S := by
 obtain ⟨h1, h2, h3⟩ := FV h;have e : uD S (.dat (.lst ((pre ++ .out c w :: r).map fun t => .str t.word))) = some (.list ((pre ++ .out c w :: r).map fun t => .str t.word)) := by
  show D.py (.lst _) = _
  rw [D.py, h1]
 unfold xJ;rw [e];dsimp only [uD, D.py];rw [if_pos ⟨by unfold SeqAt.shaped; rw [show PyData.canLay0 (.list ((pre ++ .out c w :: r).map fun t => .str t.word)) = true from h2, Bool.true_and]; exact decide_eq_true (by show PyData.depthAll _ + 1 <= 64; rw [h3]; decide), by decide +kernel⟩]
 rw [cQ, aM, NO (as := pre.map fun t => .str t.word)]
 ·simp
 ·intro x hx
  obtain ⟨t, ht, rfl⟩ := iM.mp hx
  show (t.word == ("out" : Str)) = false
  rw [Lp (h t (oU _ ht)), hn t ht]
 ·show (("out" : Str) == "out") = true
  decide +kernel
def bZ (bs : List (List Stt)) (t : LT) (m : Lm) : LR := match t with
 | .st (.cmd c) => .ok [] { m with deeds := m.deeds ++ [.cmd c] }
 | .st (.keep b) => .ok (gM b ++ [.shut]) { m with deeds := m.deeds ++ [.op] }
 | .st (.either x y) => (match sZ (.either x y) m with
  | none => .non m
  | some (b, m') => .ok (gM (if b = 0 then x else y)) m')
 | .st (.again b) => (match sZ (.again b) m with
  | none => .non m
  | some (c, m') => .ok (if c = 0 then [] else gM b ++ [.st (.again b)]) m')
 | .st (.call g f x y) => if (g.toNat, m.taken) ∈ m.opens then .non m else (match bs[g.toNat]? with
  | some b => .ok (gM b ++ [.out (g, f, x, y) 0]) { m with opens := (g.toNat, m.taken) :: m.opens, deeds := m.deeds ++ (if f then [.op] else []) }
  | none => .no)
 | .st (.fin w) => (match eU m.todo with
  | some (ds, c, r) => .ok [.out c w] { m with deeds := m.deeds ++ ds, todo := r }
  | none => .no)
 | .out c w => (match m.opens with
  | _ :: o => .ok (gM (if w = 0 then c.2.2.1 else c.2.2.2)) { m with opens := o, way := w, deeds := m.deeds ++ (if c.2.1 then [.cl] else []) }
  | [] => .no)
 | .shut => .ok [] { m with deeds := m.deeds ++ [.cl] }
 | _ => .no
def SE (r : Res Vl) (S0 : aO) (bs : List (List Stt)) (x : LR) : Prop := match x with
 | .ok blk m => r = .ok (.dat (.lst (blk.map LT.d))) (eC S0 bs m)
 | .non m => r = .ok (.dat .non) (eC S0 bs m)
 | .no => True
theorem Bm {l : List Stt} : (gM l).map LT.d = bE l := by
 rw [pR, gM, gJ];rfl
structure Lm.Fit (m : Lm) : Prop where
 t : m.taken <= m.bits.length
 b : m.bits.length < 100000
 d : m.deeds.length < 400000
 o : m.opens.length < 100000
 q : m.todo.length < 400000
 bit : ∀ b ∈ m.bits, b = 0 \/ b = 1
theorem CJ {s : Stt} {m m' : Lm} {b : Int} (F : m.Fit) (h : sZ s m = some (b, m')) : b = 0 \/ b = 1 := by
 unfold sZ at h;split at h
 ·split at h
  ·cases h
  ·cases h; exact OD s
 ·split at h
  ·rename_i q
   cases h;exact F.bit _ (bI q)
  ·cases h
theorem LK {c : Cmd} : decide (c.word = ("either" : Str)) = false := by cases c <;> rfl
theorem OG {c : Cmd} : decide (c.word = ("again" : Str)) = false := by cases c <;> rfl
theorem Qy {c : Cmd} : decide (c.word = ("keep" : Str)) = false := by cases c <;> rfl
theorem Jl {c : Cmd} : decide (c.word = ("call" : Str)) = false := by cases c <;> rfl
theorem Qz {c : Cmd} : decide (c.word = ("end" : Str)) = false := by cases c <;> rfl
theorem UQ {c : Cmd} : decide (c.word = ("out" : Str)) = false := by cases c <;> rfl
def Ho (o : Nat × Nat) : PyData := .tuple [.int (o.1 : Int), .int (o.2 : Int)]
theorem Fy : ∀ {os : List (Nat × Nat)}, D.pys (os.map JH) = some (os.map Ho) /\ PyData.canLayAll0 (os.map Ho) = true /\ PyData.depthAll (os.map Ho) <= 1
 | [] => ⟨rfl, rfl, iL _⟩
 | o :: r => by
  obtain ⟨h1, h2, h3⟩ := Fy (os := r);refine ⟨?_, ?_, ?_⟩
  ·rw [aM, D.pys, h1]
   rfl
  ·rw [aM, PyData.canLayAll0, h2]
   rfl
  ·rw [aM, PyData.depthAll]
   simp only [Ho, PyData.depth, PyData.depthAll];omega
theorem Gc {S0 : aO} {bs : List (List Stt)} {m : Lm} {g : Nat} : fIn false (.dat (.tup [.int (g : Int), .int (m.taken : Int)])) (.cel (S0.length + 2)) (eC S0 bs m) = .ok (.dat (.bl (decide ((g, m.taken) ∈ m.opens)))) (eC S0 bs m) := by
 obtain ⟨h1, h2, h3⟩ := Fy (os := m.opens.reverse);have e1 : uD (eC S0 bs m) (.dat (.tup [.int (g : Int), .int (m.taken : Int)])) = some (Ho (g, m.taken)) := rfl;have e2 : uD (eC S0 bs m) (.cel (S0.length + 2)) = some (.list (m.opens.reverse.map Ho)) := by
  unfold uD;dsimp only;rw [zA];dsimp only;rw [D.py, show uR JH m.opens = m.opens.reverse.map JH from rfl, h1]
 have hs : RU (Ho (g, m.taken)) (.list (m.opens.reverse.map Ho)) = true := by
  unfold RU SeqAt.shaped;rw [show PyData.canLay0 (.list (m.opens.reverse.map Ho)) = true from h2, show decide ((PyData.list (m.opens.reverse.map Ho)).depth <= 64) = true from decide_eq_true (by show PyData.depthAll _ + 1 <= 64; omega)]
  rfl
 have ha : ((m.opens.reverse.map Ho).any fun z => PyData.eqv z (Ho (g, m.taken))) = decide ((g, m.taken) ∈ m.opens) := by
  rw [Bool.eq_iff_iff, List.any_eq_true, decide_eq_true_iff]
  constructor
  ·rintro ⟨z, hz, he⟩
   obtain ⟨o, ho, rfl⟩ := iM.mp hz;simp only [Ho, PyData.eqv, PyData.eqvAll, AD, iD, beq_iff_eq] at he;have : o = (g, m.taken) := by
    obtain ⟨o1, o2⟩ := o;simp only at he;rw [show o1 = g by omega, show o2 = m.taken by omega]
   rw [<- this]
   simpa using ho
  ·intro h
   exact ⟨Ho (g, m.taken), AA (by simpa using h), by simp [Ho, PyData.eqv, PyData.eqvAll]⟩
 unfold fIn;rw [e1, e2];dsimp only;rw [if_pos hs, ha];rfl
theorem R1 {xs : List D} {n : Nat} : cutD xs none (some (n : Int)) = xs.take n := by
 unfold cutD;rw [HT.sIx_none, HT.sIx_nat];simp
theorem Rz {xs : List D} {n : Nat} : cutD xs (some (n : Int)) none = xs.drop n := by
 unfold cutD;rw [HT.sIx_none, HT.sIx_nat, vT (by simp)]
 by_cases h : n <= xs.length
 ·rw [ET h]
 ·rw [Nat.min_eq_right (by omega), Cn, Im (by omega)]
theorem JX {x : Deed} {f : Bool} : cutD [x.l] none (some (if f = true then 1 else 0)) = (if f then [x] else []).map Deed.l := by
 cases f with
 | true => exact R1 (n := 1)
 | false => exact R1 (n := 0)
section
variable {S0 : aO} {bs : List (List Stt)} {m : Lm} {many : Int}
theorem MD {c : Cmd} (F : m.Fit) : SE (iV [lv S0, .dat (LT.st (.cmd c)).d] (eC S0 bs m)) S0 bs (bZ bs (.st (.cmd c)) m) := by
 have Fd := F.d;have e1 := CK (S0 := S0) (bs := bs) (m := m) (t := .cmd c) (ρ := [some (lv S0), some (.dat c.d), some (.dat (.str c.word)), none, none, none, none]) (b := aC 1) (by omega) rfl
 show _ = _
 rw [jD];unfold gC;simp! [sH, LT.d, Stt.d, F8, LK, OG, Qy, Jl, Qz, UQ, nO, e1];rfl
theorem KC (F : m.Fit) : SE (iV [lv S0, .dat LT.shut.d] (eC S0 bs m)) S0 bs (bZ bs .shut m) := by
 have Fd := F.d;have e1 := CK (S0 := S0) (bs := bs) (m := m) (t := .cl) (ρ := [some (lv S0), some (.dat (.tup [.str "shut"])), some (.dat (.str "shut")), none, none, none, none]) (b := aC 1) (by omega) rfl
 show _ = _
 rw [jD];unfold gC;simp! [sH, LT.d, cM, nO, e1];rfl
theorem KD {b : List Stt} (F : m.Fit) (h : SG many (.keep b)) : SE (iV [lv S0, .dat (LT.st (.keep b)).d] (eC S0 bs m)) S0 bs (bZ bs (.st (.keep b)) m) := by
 have Fd := F.d;have hb := h.keep.1;have e1 := CK (S0 := S0) (bs := bs) (m := m) (t := .op) (ρ := [some (lv S0), some (.dat (.tup [.str "keep", .lst (bE b)])), some (.dat (.str "keep")), none, none, none, none]) (b := cH (aB (mC (.str "hold")) aK)) (by omega) rfl
 have ad : ∀ {S : aO} {z : D}, dA false (.dat (.lst (bE b))) (.dat (.lst [z])) S = newL false (bE b ++ [z]) S := gE (by rw [cV]; exact sz (by simp; omega))
 show _ = _
 rw [jD];unfold gC;simp! [sH, LT.d, Stt.d, cM, fZ, nO, e1, ad];rw [cQ, Bm];rfl
theorem MB {c : eN} {w : Int} (F : m.Fit) (h : (LT.out c w).Ok many) : SE (iV [lv S0, .dat (LT.out c w).d] (eC S0 bs m)) S0 bs (bZ bs (.out c w) m) := by
 have Fd := F.d;unfold bZ;dsimp only;cases ho : m.opens with
 | nil => trivial
 | cons o r =>
  show _ = _
  obtain ⟨_, _, _, hw⟩ := h;have e1 := CF (S0 := S0) (bs := bs) (m := { m with opens := r, way := w }) (ds := if c.2.1 then [.cl] else []) (ρ := [some (lv S0), some (.dat (LT.out c w).d), some (.dat (.str "out")), none, none, none, none]) (v := B7 false (cN false (aB (cH (aB (mC (.str "shut")) aK)) aK)) pV (gG (m1 pX (aP bO (aP bO (aC 1) (mC (.int 1))) (mC (.int 2)))))) (by dsimp only; split <;> simp <;> omega) (by
   simp! [sH, LT.d, fZ, NN, show D.tup [D.str (Str.ofString "shut")] = Deed.cl.l from rfl, JX])
  rw [jD];unfold gC;simp! [sH, LT.d, cM, fZ, pW, CG, N0 ho, Sx, I9];simp only [LT.d] at e1;simp! [sH, e1, fZ, pW, I9];rcases hw with rfl | rfl
  ·simp! [sH, BB]
   rw [Bm];rfl
  ·simp! [sH, GX]
   rw [Bm];rfl
theorem Fc {s : Stt} (hm : many <= 9) (F : m.Fit) (h : SG many s) (ha : asks s = true) : SE (iV [lv S0, .dat (LT.st s).d] (eC S0 bs m)) S0 bs (bZ bs (.st s) m) := by
 have eb := UT (S0 := S0) (bs := bs) hm h ha F.t F.b;cases q : sZ s m with
 | none =>
  rw [q] at eb;dsimp only at eb;cases s with
  | either x y =>
   unfold bZ;dsimp only;rw [q]
   show _ = _
   rw [jD];unfold gC;simp only [Stt.d] at eb;simp! [sH, LT.d, Stt.d, cM, eb];rfl
  | again b =>
   unfold bZ;dsimp only;rw [q]
   show _ = _
   rw [jD];unfold gC;simp only [Stt.d] at eb;simp! [sH, LT.d, Stt.d, cM, eb];rfl
  | _ => cases ha
 | some x =>
  obtain ⟨b, m'⟩ := x;have hbit := CJ F q;rw [q] at eb;dsimp only at eb;cases s with
  | either x y =>
   unfold bZ;dsimp only;rw [q]
   show _ = _
   rw [jD];unfold gC;simp only [Stt.d] at eb;rcases hbit with rfl | rfl
   ·simp! [sH, LT.d, Stt.d, cM, eb, fZ]
    rw [Bm];rfl
   ·simp! [sH, LT.d, Stt.d, cM, eb, pW]
    rw [Bm];rfl
  | again b =>
   have hb := h.again.1;unfold bZ;dsimp only;rw [q]
   show _ = _
   rw [jD];unfold gC;simp only [Stt.d] at eb;have ad : ∀ {S : aO}, dA false (.dat (.lst (bE b))) (.dat (.lst [.tup [.str "again", .lst (bE b)]])) S = newL false (bE b ++ [.tup [.str "again", .lst (bE b)]]) S := gE (by rw [cV]; exact sz (by simp; omega))
   rcases hbit with rfl | rfl
   ·simp! [sH, LT.d, Stt.d, cM, eb, fZ, ad, BB]
    rfl
   ·simp! [sH, LT.d, Stt.d, cM, eb, fZ, ad, GX]
    rw [cQ, Bm];rfl
  | _ => cases ha
end
section
variable {S0 : aO} {bs : List (List Stt)} {m : Lm} {many : Int}
theorem KE {g : Int} {f : Bool} {x y : List Stt} (F : m.Fit) (h : SG many (.call g f x y)) (hB : ∀ b ∈ bs, b.length <= 1000) : SE (iV [lv S0, .dat (LT.st (.call g f x y)).d] (eC S0 bs m)) S0 bs (bZ bs (.st (.call g f x y)) m) := by
 have Fd := F.d;have Fo := F.o;obtain ⟨⟨g0, g1⟩, hx, hy⟩ := h.call;obtain ⟨n, rfl⟩ : ∃ n : Nat, g = (n : Int) := ⟨g.toNat, by omega⟩
 unfold bZ;dsimp only;rw [tO]
 by_cases hin : (n, m.taken) ∈ m.opens
 ·rw [if_pos hin]
  show _ = _
  rw [jD];unfold gC;simp! [sH, LT.d, Stt.d, cM, fZ, lK, CG, Gc, decide_eq_true hin];rfl
 ·rw [if_neg hin]
  cases hb : bs[n]? with
  | none => trivial
  | some b =>
   have hbl := hB b (bI hb);have ib : ∀ {S : aO}, bO (.dat (.lst (bls bs))) (.dat (.int (n : Int))) S = .ok (.dat (.lst (bE b))) S := fun {S} => GW (n := n) rfl (by rw [bls, bN, hb]; rfl)
   have e0 := N7 (S0 := S0) (bs := bs) (m := m) (t := (n, m.taken)) (ρ := [some (lv S0), some (.dat (Stt.call (n : Int) f x y).d), some (.dat (.str "call")), none, none, none, none]) (b := cH (aB (aP bO (aC 1) (mC (.int 1))) (aB (aP dC (aC 0) (mC (.str "taken"))) aK))) (by omega) (by
    simp! [sH, Stt.d, fZ, lK];rfl)
   have e1 := CF (S0 := S0) (bs := bs) (m := { m with opens := (n, m.taken) :: m.opens }) (ds := if f then [.op] else []) (ρ := [some (lv S0), some (.dat (Stt.call (n : Int) f x y).d), some (.dat (.str "call")), none, none, none, none]) (v := B7 false (cN false (aB (cH (aB (mC (.str "hold")) aK)) aK)) pV (gG (m1 pX (aP bO (aC 1) (mC (.int 2)))))) (by dsimp only; split <;> simp <;> omega) (by
    simp! [sH, Stt.d, pW, show D.tup [D.str (Str.ofString "hold")] = Deed.op.l from rfl, JX])
   have ad : ∀ {S : aO} {z : D}, dA false (.dat (.lst (bE b))) (.dat (.lst [z])) S = newL false (bE b ++ [z]) S := gE (by rw [cV]; exact wJ (Hi (by simp; omega)))
   show _ = _
   simp only [Stt.d] at e0 e1;rw [jD];unfold gC;simp! [sH, LT.d, Stt.d, cM, fZ, lK, CG, Gc, decide_eq_false hin, e0, e1, Ko, ib, ad];rw [cQ, Bm];rfl
theorem Lo {ts : List LT} {S : aO} {a0 a1 a2 a3 a4 a5 : Option Vl} (h : ∀ t ∈ ts, t.Ok many) (hl : ts.length < 400000) : xH false (.nm 6) fX (aP bO (aC 6) (mC (.int 0))) [a0, a1, a2, a3, a4, a5, none] [6] (ts.map LT.d) S = .ok (.dat (.lst (ts.map fun t => .str t.word))) S := by
 unfold xH;rw [aN, if_pos (wJ (Hi (by omega))), zD (f := LT.d) (g := fun t => .str t.word) fun t ht => ⟨_, rfl, by
  have := Hx (S := S) (h t ht);simp! [sH, this]⟩]
 rfl
theorem PM {ts : List LT} {S : aO} {a0 a1 a2 a3 a4 a5 : Option Vl} (h : ∀ t ∈ ts, t.Ok many) (hl : ts.length < 400000) : xH false (.nm 6) (mB (aP fF (aP bO (aC 6) (mC (.int 0))) (mC (.str "shut")))) (aC 6) [a0, a1, a2, a3, a4, a5, none] [6] (ts.map LT.d) S = .ok (.dat (.lst ((ts.filter CM).map LT.d))) S := by
 unfold xH;rw [aN, if_pos (wJ (Hi (by omega))), Dh (f := LT.d) (g := LT.d) (p := CM) fun t ht => ⟨_, rfl, by
  have := Hx (S := S) (h t ht);simp! [sH, this, K2 (h t ht)], rfl⟩]
 rfl
theorem MC {w : Int} (F : m.Fit) (hw : w = 0 \/ w = 1) (T : ∀ t ∈ m.todo, t.Ok many) : SE (iV [lv S0, .dat (LT.st (.fin w)).d] (eC S0 bs m)) S0 bs (bZ bs (.st (.fin w)) m) := by
 have Fd := F.d;have Fq := F.q;unfold bZ;dsimp only;cases hc : eU m.todo with
 | none => trivial
 | some z =>
  obtain ⟨ds, c, r⟩ := z;obtain ⟨pre, w', h1, h2, h3, h4⟩ := zS hc;have hpl : pre.length < 400000 := by rw [h1] at Fq; simp at Fq; omega
  have T' : ∀ t ∈ pre ++ .out c w' :: r, t.Ok many := by rw [<- h1]; exact T
  have Tp : ∀ t ∈ pre, t.Ok many := fun t ht => T' t (oU _ ht)
  have hix := fun {S : aO} => Ku (S := S) T' h2
  have hl := fun {S : aO} {a0 a1 a2 a3 a4 a5 : Option Vl} => Lo (S := S) (a0 := a0) (a1 := a1) (a2 := a2) (a3 := a3) (a4 := a4) (a5 := a5) T' (by rw [<- h1]; exact Fq)
  have hsh := fun {S : aO} {a0 a1 a2 a3 a4 a5 : Option Vl} => PM (S := S) (a0 := a0) (a1 := a1) (a2 := a2) (a3 := a3) (a4 := a4) (a5 := a5) Tp hpl
  have htk : (List.map LT.d (pre ++ .out c w' :: r)).take pre.length = pre.map LT.d := by simp
  have htd : (List.map LT.d (pre ++ .out c w' :: r)).drop (pre.length + 1) = r.map LT.d := by
   rw [cQ, aM, List.drop_append];simp
  have hat : (List.map LT.d (pre ++ .out c w' :: r))[pre.length]? = some (LT.out c w').d := by simp
  have h5 : ∀ {S : aO}, bO (.dat (.lst (List.map LT.d (pre ++ .out c w' :: r)))) (.dat (.int (pre.length : Int))) S = .ok (.dat (LT.out c w').d) S := fun {S} => GW (n := pre.length) rfl hat
  have h6 : cutD (List.map LT.d (pre ++ .out c w' :: r)) (some ((pre.length : Int) + 1)) none = r.map LT.d := by
   rw [show ((pre.length : Int) + 1) = ((pre.length + 1 : Nat) : Int) by omega, Rz, htd]
  have h7 : cutD (List.map LT.d (pre ++ .out c w' :: r)) none (some (pre.length : Int)) = pre.map LT.d := by rw [R1, htk]
  have lgt := sY (S0 := S0) (bs := bs) (m := m);rw [h1] at lgt;have e1 := CF (S0 := S0) (bs := bs) (m := m) (ds := ds) (ρ := [some (lv S0), some (.dat (Stt.fin w).d), some (.dat (.str "end")), none, some (.dat (.lst (List.map LT.d (pre ++ .out c w' :: r)))), some (.dat (.int (pre.length : Int))), none]) (v := (AB false (jQ (B7 false (aC 4) pV (gG (aC 5)))) (.nm 6) (mB (aP fF (aP bO (aC 6) (mC (.int 0))) (mC (.str "shut")))) (aC 6) [6])) (by omega) (by
   simp! [sH, h7, hsh];rw [h3])
  show _ = _
  simp only [Stt.d] at e1;rw [jD];unfold gC;simp! [sH, LT.d, Stt.d, cM, lgt, hl, hix, e1, h6, yX, h5, fZ];rfl
theorem Oy {t : LT} (hm : many <= 9) (F : m.Fit) (h : t.Ok many) (T : ∀ t ∈ m.todo, t.Ok many) (hB : ∀ b ∈ bs, b.length <= 1000) : SE (iV [lv S0, .dat t.d] (eC S0 bs m)) S0 bs (bZ bs t m) := by
 cases t with
 | shut => exact KC F
 | out c w => exact MB F h
 | st s =>
  cases s with
  | cmd c => exact MD F
  | fin w => exact MC F (SG.fin h) T
  | keep b => exact KD F h
  | again b => exact Fc hm F h rfl
  | either a b => exact Fc hm F h rfl
  | call g f x y => exact KE F h hB
  | bad => trivial
  | odd x => trivial
end
inductive LF where
 | fin (m : Lm) | long (m : Lm) | never (m : Lm) | short (m : Lm) | no (m : Lm)
def isCall : LT -> Bool
 | .st (.call _ _ _ _) => true
 | _ => false
def cO (bs : List (List Stt)) : Nat -> Lm -> LF
 | 0, m => if m.todo = [] then .fin m else .long m
 | k + 1, m => match m.todo with
  | [] => .fin m
  | t :: r => match bZ bs t { m with todo := r } with
   | .ok blk m' => cO bs k { m' with todo := blk ++ m'.todo }
   | .non m' => if isCall t = true then .never m' else .short m'
   | .no => .no m
structure Lm.Inv (many : Int) (k : Nat) (m : Lm) : Prop where
 T : ∀ t ∈ m.todo, t.Ok many
 bit : ∀ b ∈ m.bits, b = 0 \/ b = 1
 t : m.taken <= m.bits.length
 b : m.bits.length + k < 90000
 o : m.opens.length + k < 90000
 d : m.deeds.length + m.todo.length + 12 * k < 400000
theorem Lm.Inv.fit {many : Int} {k : Nat} {m : Lm} (h : m.Inv many k) : m.Fit := ⟨h.t, by have := h.b; omega, by have := h.d; omega, by have := h.o; omega, by have := h.d; omega, h.bit⟩
theorem Lm.Inv.pop {many : Int} {k : Nat} {m : Lm} {t : LT} {r : List LT} (h : m.Inv many k) (e : m.todo = t :: r) : ({ m with todo := r } : Lm).Inv many k /\ t.Ok many := ⟨⟨fun t ht => h.T t (by rw [e]; exact aJ _ ht), h.bit, h.t, h.b, h.o, by have := h.d; rw [e] at this; simp at this; simp; omega⟩, h.T t (by rw [e]; exact aT ..)⟩
theorem oN {s : Stt} {m m' : Lm} {b : Int} (h : sZ s m = some (b, m')) : m'.todo = m.todo /\ m'.deeds = m.deeds /\ m'.opens = m.opens /\ m'.way = m.way /\ m'.taken = m.taken + 1 /\ m'.bits[m.taken]? = some b /\ (∃ x, m'.bits = m.bits ++ x /\ x.length <= 1 /\ ∀ y ∈ x, y = 0 \/ y = 1) := by
 unfold sZ at h;split at h
 ·rename_i ht
  split at h
  ·cases h
  ·cases h
   exact ⟨rfl, rfl, rfl, rfl, rfl, by rw [ht]; simp, _, rfl, by simp, fun y hy => by rw [bC.mp hy]; exact OD s⟩
 ·split at h
  ·rename_i q
   cases h;exact ⟨rfl, rfl, rfl, rfl, rfl, q, [], by simp, by simp, fun y hy => by cases hy⟩
  ·cases h
theorem GL {many : Int} {k : Nat} {s : Stt} {m m' : Lm} {b : Int} {blk : List LT} (I : m.Inv many (k + 1)) (hb : ∀ t ∈ blk, t.Ok many) (hl : blk.length <= 9) (h : sZ s m = some (b, m')) (hlt : m.taken < m'.bits.length) : ({ m' with todo := blk ++ m'.todo } : Lm).Inv many k := by
 obtain ⟨h1, h2, h3, _, h4, _, x, h5, h6, h7⟩ := oN h;have := I.b; have := I.o; have := I.d;refine ⟨fun t ht => ?_, fun y hy => ?_, ?_, ?_, ?_, ?_⟩
 ·simp only [h1] at ht
  rcases cL.mp ht with ht | ht
  ·exact hb t ht
  ·exact I.T t ht
 ·simp only [h5] at hy
  rcases cL.mp hy with hy | hy
  ·exact I.bit y hy
  ·exact h7 y hy
 ·simp only [h4]; omega
 ·simp only [h5, bL]; omega
 ·simp only [h3]; omega
 ·simp only [h1, h2, bL]; omega
theorem JS {s : Stt} {m m' : Lm} {b : Int} (h : sZ s m = some (b, m')) : m.taken < m'.bits.length := by
 obtain ⟨_, _, _, _, _, h6, _⟩ := oN h;exact (aH.mp h6).1
theorem yC {l : List Stt} {many : Int} (h : BG many l) : ∀ t ∈ gM l, t.Ok many := fun t ht => by
 obtain ⟨s, h1, rfl⟩ := iM.mp ht;exact h.2 s h1
theorem vW {l : List Stt} : (gM l).length = l.length := by simp [gM]
theorem gA {bs : List (List Stt)} {many : Int} {k : Nat} {m m' : Lm} {t : LT} {blk : List LT} (hB : ∀ b ∈ bs, BG many b) (I : m.Inv many (k + 1)) (ht : t.Ok many) (h : bZ bs t m = .ok blk m') : ({ m' with todo := blk ++ m'.todo } : Lm).Inv many k := by
 have Ib := I.b; have Io := I.o; have Id := I.d;have app : ∀ {blk : List LT}, (∀ t ∈ blk, t.Ok many) -> ∀ t ∈ blk ++ m.todo, t.Ok many := fun {blk} hb t ht => by
  rcases cL.mp ht with ht | ht
  ·exact hb t ht
  ·exact I.T t ht
 cases t with
 | shut =>
  cases h;exact ⟨I.T, I.bit, I.t, by dsimp only; omega, by dsimp only; omega, by simp; omega⟩
 | out c w =>
  obtain ⟨hg, hx, hy, hw⟩ := ht;unfold bZ at h;dsimp only at h;split at h
  ·rename_i q
   cases h;have hq := congrArg Lg q;have hz : BG many (if w = 0 then c.2.2.1 else c.2.2.2) := by split <;> assumption
   have := hz.1;refine ⟨app (yC hz), I.bit, I.t, by dsimp only; omega, by simp at hq; dsimp only; omega, ?_⟩
   have hcl : (if c.2.1 = true then [Deed.cl] else []).length <= 1 := by split <;> simp
   simp only [bL, vW];omega
  ·cases h
 | st s =>
  cases s with
  | bad => cases h
  | odd x => cases h
  | cmd c =>
   cases h;exact ⟨I.T, I.bit, I.t, by dsimp only; omega, by dsimp only; omega, by simp; omega⟩
  | keep b =>
   cases h;have hz := SG.keep ht;have := hz.1;refine ⟨app fun t ht => ?_, I.bit, I.t, by dsimp only; omega, by dsimp only; omega, by simp [vW]; omega⟩
   rcases cL.mp ht with ht | ht
   ·exact yC hz t ht
   ·rw [bC.mp ht]; trivial
  | either x y =>
   obtain ⟨hx, hy⟩ := SG.either ht;unfold bZ at h;dsimp only at h;split at h
   ·cases h
   ·rename_i b m1 q
    cases h;have hz : BG many (if b = 0 then x else y) := by split <;> assumption
    have := hz.1;exact GL I (yC hz) (by rw [vW]; omega) q (JS q)
  | again b =>
   have hz := SG.again ht;have := hz.1;unfold bZ at h;dsimp only at h;split at h
   ·cases h
   ·rename_i c m1 q
    cases h;refine GL I (fun t h => ?_) (by split <;> simp [vW]; omega) q (JS q)
    split at h
    ·cases h
    ·rcases cL.mp h with h | h
     ·exact yC hz t h
     ·rw [bC.mp h]; exact ht
  | call g f x y =>
   obtain ⟨hg, hx, hy⟩ := SG.call ht;unfold bZ at h;dsimp only at h;split at h
   ·cases h
   ·split at h
    ·rename_i b hb
     cases h;have hz := hB b (bI hb);have := hz.1;refine ⟨app fun t ht => ?_, I.bit, I.t, by dsimp only; omega, by simp; omega, ?_⟩
     ·rcases cL.mp ht with ht | ht
      ·exact yC hz t ht
      ·rw [bC.mp ht]; exact ⟨hg, hx, hy, .inl rfl⟩
     ·have hcl : (if f = true then [Deed.op] else []).length <= 1 := by split <;> simp
      simp only [bL, vW, aR, cY];omega
    ·cases h
  | fin w =>
   have hw := SG.fin ht;unfold bZ at h;dsimp only at h;split at h
   ·rename_i ds c r q
    cases h;obtain ⟨pre, w', h1, h2, h3, h4⟩ := zS q;have hc := I.T (.out c w') (by rw [h1]; simp)
    have hl := congrArg Lg h1;simp only [bL, aR] at hl;refine ⟨fun t ht => ?_, I.bit, I.t, by dsimp only; omega, by dsimp only; omega, by simp; omega⟩
    rcases cL.mp ht with ht | ht
    ·rw [bC.mp ht]; exact ⟨hc.1, hc.2.1, hc.2.2.1, hw⟩
    ·exact I.T t (by rw [h1]; exact List.mem_append_right _ (aJ _ ht))
   ·cases h
def lU (w : Str) (i : Int) (m : Lm) : D := .tup [.str w, .int i, .lst (m.deeds.map Deed.l), .lst (m.bits.map D.int)]
theorem yY : ∀ {S0 : aO} {bs : List (List Stt)} {m : Lm}, (eC S0 bs m).take S0.length = S0 := by
 intro S0 bs m;simp [eC]
theorem zB {S0 : aO} {bs : List (List Stt)} {m : Lm} {c : Cell} : ((eC S0 bs m).set (S0.length + 1) c)[S0.length]? = some (.lst (m.bits.map D.int)) := by
 rw [aX, if_neg (by omega)]
 exact mY
section
variable {S0 : aO} {bs : List (List Stt)} {many : Int} {a0 a1 a2 a3 : Option Vl}
abbrev rE (S0 : aO) (a0 a1 a2 a3 : Option Vl) : Ev := [a0, a1, a2, a3, some (lv S0), none, none, none]
theorem K6 {m : Lm} (h : m.todo = []) : eM [a0, a1, a2, a3, some (lv S0), some x, none, none] (eC S0 bs m) = .next (rE S0 a0 a1 a2 a3) (eC S0 bs m) := by
 rw [eM];simp! [sH, sY, h, bD]
theorem idle {m : Lm} (h : m.todo = []) : ∀ (n : Nat) (lo : Int), loop (.nm 5) eM (gH lo n) (rE S0 a0 a1 a2 a3) (eC S0 bs m) = .next (rE S0 a0 a1 a2 a3) (eC S0 bs m)
 | 0, lo => rfl
 | n + 1, lo => by
  have ih := idle h n (lo + 1);rw [lC, loop];simp only [oG, jW, rE, bW, cK];rw [K6 h];exact ih
theorem FZ (hm : many <= 9) (hB : ∀ b ∈ bs, BG many b) : ∀ (n : Nat) (lo : Int) (m : Lm), m.Inv many n ->
  match cO bs n m with
  | .fin m' => loop (.nm 5) eM (gH lo n) (rE S0 a0 a1 a2 a3) (eC S0 bs m) = .next (rE S0 a0 a1 a2 a3) (eC S0 bs m')
  | .long m' => m'.todo ≠ [] /\ loop (.nm 5) eM (gH lo n) (rE S0 a0 a1 a2 a3) (eC S0 bs m) = .next (rE S0 a0 a1 a2 a3) (eC S0 bs m')
  | .never m' => ∃ S', loop (.nm 5) eM (gH lo n) (rE S0 a0 a1 a2 a3) (eC S0 bs m) = .ret (.dat (lU "never" (-2) m')) S' /\ S'.take S0.length = S0
  | .short m' => ∃ S', loop (.nm 5) eM (gH lo n) (rE S0 a0 a1 a2 a3) (eC S0 bs m) = .ret (.dat (lU "short" (m'.bits.length : Int) m')) S' /\ S'.take S0.length = S0
  | .no _ => True
 | 0, lo, m, I => by
  unfold cO
  by_cases h : m.todo = []
  ·rw [if_pos h]; rfl
  ·rw [if_neg h]; exact ⟨h, rfl⟩
 | n + 1, lo, m, I => by
  unfold cO;cases h : m.todo with
  | nil => exact idle h (n + 1) lo
  | cons t r =>
   dsimp only;obtain ⟨I1, ht⟩ := I.pop h;have tk := Oy (S0 := S0) hm I1.fit ht I1.T (fun b hb => cC (hB b hb).1 (by decide))
   have ix0 : bO (.dat (.lst (t.d :: r.map LT.d))) (.dat (.int 0)) (eC S0 bs m) = .ok (.dat t.d) (eC S0 bs m) := BB;have lgt := sY (S0 := S0) (bs := bs) (m := m);rw [h, aM] at lgt;have hgt : decide ((0 : Int) < (((r.map LT.d).length + 1 : Nat) : Int)) = true := decide_eq_true (by omega)
   have hgt' : decide ((0 : Int) < ((r.length + 1 : Nat) : Int)) = true := decide_eq_true (by omega)
   have hnl : ∀ xs : List D, isNon (Vl.dat (D.lst xs)) = false := fun _ => rfl
   have hcut : cutD (t.d :: r.map LT.d) (some 1) none = r.map LT.d := Rz (n := 1);have hw0 : ∀ {S : aO}, bO (.dat t.d) (.dat (.int 0)) S = .ok (.dat (.str t.word)) S := Hx ht;rw [lC, loop];simp only [oG, jW, rE, bW, cK]
   revert tk
   cases q : bZ bs t { m with todo := r } with
   | no => intro _; trivial
   | ok blk m' =>
    intro tk;have tk' : _ = _ := tk;have I2 := gA hB I1 ht q;have ih := FZ hm hB n (lo + 1) _ I2;have ad : ∀ {S : aO}, dA false (.dat (.lst (blk.map LT.d))) (.dat (.lst (m'.todo.map LT.d))) S = newL false (blk.map LT.d ++ m'.todo.map LT.d) S := gE (by
     have := I2.d;simp at this ⊢;exact wJ (Hi (by omega)))
    have e : eM [a0, a1, a2, a3, some (lv S0), some (.dat (.int lo)), none, none] (eC S0 bs m) = .next (rE S0 a0 a1 a2 a3) (eC S0 bs { m' with todo := blk ++ m'.todo }) := by
     rw [eM];simp! [sH, lgt, hgt, ix0, hcut, yX (ts := r), tk', hnl, sY, ad, <- cQ, yX]
    rw [e];exact ih
   | non m' =>
    intro tk;have tk' : _ = _ := tk;cases hc : isCall t with
    | true =>
     dsimp only;rw [if_pos rfl];have hw : t.word = ("call" : Str) := by
      cases t with
      | st s => cases s <;> first | rfl | cases hc
      | _ => cases hc
     refine ⟨((eC S0 bs m').set (S0.length + 1) .dead).set S0.length .dead, ?_, by rw [take_set (by omega), take_set (by omega), yY]⟩
     have e : eM [a0, a1, a2, a3, some (lv S0), some (.dat (.int lo)), none, none] (eC S0 bs m) = .ret (.dat (lU "never" (-2) m')) (((eC S0 bs m').set (S0.length + 1) .dead).set S0.length .dead) := by
      rw [eM];have lgb : dC (lv S0) (.dat (.str "bits")) ((eC S0 bs m').set (S0.length + 1) .dead) = .ok (.cel S0.length) ((eC S0 bs m').set (S0.length + 1) .dead) := lQ (by rw [aX, if_neg (by omega)]; exact jU) rfl
      simp! [sH, lgt, hgt, ix0, hcut, yX (ts := r), tk', hw0, hw, nO, nX pI, lgb, nX zB];rfl
     rw [e]
    | false =>
     dsimp only;rw [if_neg (by decide)]
     have hw : decide (t.word = ("call" : Str)) = false := by
      cases t with
      | st s =>
       cases s with
       | call g f x y => cases hc
       | cmd c => exact Jl
       | odd x => exact (by obtain ⟨k, _, h, _⟩ := ht; exact h.elim)
       | _ => rfl
      | _ => rfl
     refine ⟨((eC S0 bs m').set (S0.length + 1) .dead).set S0.length .dead, ?_, by rw [take_set (by omega), take_set (by omega), yY]⟩
     have e : eM [a0, a1, a2, a3, some (lv S0), some (.dat (.int lo)), none, none] (eC S0 bs m) = .ret (.dat (lU "short" (m'.bits.length : Int) m')) (((eC S0 bs m').set (S0.length + 1) .dead).set S0.length .dead) := by
      rw [eM];have lgb : dC (lv S0) (.dat (.str "bits")) ((eC S0 bs m').set (S0.length + 1) .dead) = .ok (.cel S0.length) ((eC S0 bs m').set (S0.length + 1) .dead) := lQ (by rw [aX, if_neg (by omega)]; exact jU) rfl
      simp! [sH, lgt, hgt', ix0, hcut, yX (ts := r), tk', hw0, hw, nO, zC, nW mY, aN, nX pI, lgb, nX zB];rfl
     rw [e]
end
def eW (p : Nat) (bits : List Int) (ex : Nat) : Lm := ⟨bits, ex, 0, 0, [], [], [.st (.call (p : Int) false [] [])]⟩
theorem Do {p : Nat} {bits : List Int} {ex k : Nat} {many : Int} (hp : (p : Int) < many) (hb : ∀ b ∈ bits, b = 0 \/ b = 1) (hl : bits.length < 40000) (hk : k <= 20001) : (eW p bits ex).Inv many k :=
 ⟨fun t ht => by
  rw [bC.mp ht];exact ⟨3, by decide, ⟨⟨by decide, by omega, hp⟩, trivial, trivial⟩, by simp [Stt.size, bP], ⟨⟨iL _, trivial⟩, iL _, trivial⟩⟩, hb, iL _, by simp [eW]; omega, by simp [eW]; omega, by simp [eW]; omega⟩
section
variable {S0 : aO} {bs : List (List Stt)} {p : Nat} {bits : List Int} {ex : Nat}
theorem OF {ρ : Ev} (h0 : aC 0 ρ = fun S => .ok (.dat (.lst (bls bs))) S) (h2 : aC 2 ρ = fun S => .ok (.dat (.lst (bits.map D.int))) S) (h3 : aC 3 ρ = fun S => .ok (.dat (.int (ex : Int))) S) :
  Kl [("bodies", (aC 0)), ("bits", (m1 (tY true) (aC 2))), ("extra", (aC 3)), ("taken", (mC (.int 0))), ("way", (mC (.int 0))), ("deeds", (cN true aK)), ("opens", (cN true aK))] ρ S0 = .ok (.cel (S0.length + 3)) (S0 ++ [.lst (bits.map D.int), .lst [], .lst [], .dct [("bodies", .dat (.lst (bls bs))), ("bits", .cel S0.length), ("extra", .dat (.int (ex : Int))), ("taken", .dat (.int 0)), ("way", .dat (.int 0)), ("deeds", .cel (S0.length + 1)), ("opens", .cel (S0.length + 2))]]) := by
 have e : lH [("bodies", (aC 0)), ("bits", (m1 (tY true) (aC 2))), ("extra", (aC 3)), ("taken", (mC (.int 0))), ("way", (mC (.int 0))), ("deeds", (cN true aK)), ("opens", (cN true aK))] ρ S0 = .ok [("bodies", .dat (.lst (bls bs))), ("bits", .cel S0.length), ("extra", .dat (.int (ex : Int))), ("taken", .dat (.int 0)), ("way", .dat (.int 0)), ("deeds", .cel (S0.length + 1)), ("opens", .cel (S0.length + 2))] (S0 ++ [.lst (bits.map D.int), .lst [], .lst []]) := by
  have h2' : ∀ S, m1 (tY true) (aC 2) ρ S = .ok (.cel S.length) (S ++ [.lst (bits.map D.int)]) := fun S => by
   show ((aC 2 ρ) S).bind _ = _
   rw [h2];rfl
  have hl : ∀ S, cN true aK ρ S = .ok (.cel S.length) (S ++ [.lst []]) := fun S => rfl
  have hc : ∀ (d : D) S, mC d ρ S = .ok (.dat d) S := fun d S => rfl
  simp only [lH, h0, h2', h3, hl, hc, Res.bind, bL, aR, cY, dG, iF, dR]
 unfold Kl;rw [e];dsimp only;rw [if_pos ⟨by
  show (["bodies", "bits", "extra", "taken", "way", "deeds", "opens"] : List Str).Nodup
  decide +kernel, by simp⟩]
 simp
def Sy (n : Nat) (bs : List (List Stt)) (bits : List Int) (ex : Nat) : List (Str × Vl) := [("bodies", .dat (.lst (bls bs))), ("bits", .cel n), ("extra", .dat (.int (ex : Int))), ("taken", .dat (.int 0)), ("way", .dat (.int 0)), ("deeds", .cel (n + 1)), ("opens", .cel (n + 2))]
theorem Mf {ρ : Ev} : vF ρ (.dat (.lst [.tup [.str "call", .int (p : Int), .bl false, .lst [.lst [], .lst []]]])) (lv S0) (.dat (.str "todo")) (S0 ++ [.lst (bits.map D.int), .lst [], .lst [], .dct [("bodies", .dat (.lst (bls bs))), ("bits", .cel S0.length), ("extra", .dat (.int (ex : Int))), ("taken", .dat (.int 0)), ("way", .dat (.int 0)), ("deeds", .cel (S0.length + 1)), ("opens", .cel (S0.length + 2))]]) = .next ρ (eC S0 bs (eW p bits ex)) := by
 have hd : (S0 ++ [Cell.lst (bits.map D.int), .lst [], .lst [], .dct (Sy S0.length bs bits ex)])[S0.length + 3]? = some (.dct (Sy S0.length bs bits ex)) := by
  rw [bB (by omega), show S0.length + 3 - S0.length = 3 by omega]; rfl
 unfold vF;rw [show ([("bodies", .dat (.lst (bls bs))), ("bits", .cel S0.length), ("extra", .dat (.int (ex : Int))), ("taken", .dat (.int 0)), ("way", .dat (.int 0)), ("deeds", .cel (S0.length + 1)), ("opens", .cel (S0.length + 2))] : List (Str × Vl)) = Sy S0.length bs bits ex from rfl]
 rw [AV hd (by show 7 < 1000; decide) (by show (["bodies", "bits", "extra", "taken", "way", "deeds", "opens"] : List Str).Nodup; decide +kernel)]
 rw [dE _ _ (by omega), show S0.length + 3 - S0.length = 3 by omega]
 rfl
def jA (x : LF) (S : aO) : Res Vl := match x with
 | .fin m => if m.taken < m.bits.length then .ok (.dat (lU "rest" (m.taken : Int) m)) S else .ok (.dat (lU "run" m.way m)) S
 | .long _ => .ok (.dat (.tup [.str "long", .int 0, .lst [], .lst []])) S
 | .never m => .ok (.dat (lU "never" (-2) m)) S
 | .short m => .ok (.dat (lU "short" (m.bits.length : Int) m)) S
 | .no _ => .stuck
theorem oV {T S : aO} {d : D} {n : Nat} (ls : LS S) (h : T.take n = S) : trunc n (.ok (.dat d) T) = .ok (.dat d) S := by
 unfold trunc;dsimp only;rw [h, show (Vl.below n (Vl.dat d) && S.all fun c => c.below n) = true by rw [show (S.all fun c => c.below n) = true from cD.mpr fun c hc => ls c hc n]; rfl, if_pos rfl]
theorem Pu {many : Int} (ls : LS S0) (hm : many <= 9) (hB : ∀ b ∈ bs, BG many b) (hp : (p : Int) < many) (hb : ∀ b ∈ bits, b = 0 \/ b = 1) (hl : bits.length < 40000) (hn : ∀ m, cO bs 3000 (eW p bits ex) ≠ .no m) :
  vY [.dat (.lst (bls bs)), .dat (.int (p : Int)), .dat (.lst (bits.map D.int)), .dat (.int (ex : Int))] S0 = jA (cO bs 3000 (eW p bits ex)) S0 := by
 have lp := FZ (S0 := S0) (a0 := some (.dat (.lst (bls bs)))) (a1 := some (.dat (.int (p : Int)))) (a2 := some (.dat (.lst (bits.map D.int)))) (a3 := some (.dat (.int (ex : Int)))) hm hB 3000 0 (eW p bits ex) (Do hp hb hl (by decide))
 have e0 := OF (S0 := S0) (bs := bs) (bits := bits) (ex := ex) (ρ := [some (.dat (.lst (bls bs))), some (.dat (.int (p : Int))), some (.dat (.lst (bits.map D.int))), some (.dat (.int (ex : Int))), none, none, none, none]) rfl rfl rfl;have hr : ∀ {S : aO}, Ar (.dat (.int 3000)) S = .ok (gH 0 3000) S := fun {S} => by rw [jK (by decide) (by decide)]; rfl
 rw [RM];unfold Ba;simp! [sH, e0, Mf, hr]
 revert hn lp
 cases q : cO bs 3000 (eW p bits ex) with
 | no m => intro hn; exact absurd rfl (hn m)
 | never m =>
  intro _ lp;obtain ⟨S', h1, h2⟩ := lp;simp! [sH, h1];exact oV ls h2
 | short m =>
  intro _ lp;obtain ⟨S', h1, h2⟩ := lp;simp! [sH, h1];exact oV ls h2
 | long m =>
  intro _ lp;obtain ⟨h1, h2⟩ := lp;simp! [sH, h2, sY, aN, decide_eq_true (show (0 : Int) < (m.todo.length : Int) by have := List.length_pos_iff.mpr h1; omega)]
  exact oV ls yY
 | fin m =>
  intro _ lp;have lp' : _ = _ := lp;have ht : m.todo = [] := by
   have : ∀ (n : Nat) (m0 : Lm), cO bs n m0 = .fin m -> m.todo = [] := by
    intro n
    induction n with
    | zero =>
     intro m0 h;unfold cO at h;split at h
     ·cases h; assumption
     ·cases h
    | succ n ih =>
     intro m0 h;unfold cO at h;split at h
     ·cases h; assumption
     ·split at h
      ·exact ih _ h
      ·split at h <;> cases h
      ·cases h
   exact this _ _ q
  have lgb : ∀ {c : Cell}, dC (lv S0) (.dat (.str "bits")) ((eC S0 bs m).set (S0.length + 1) c) = .ok (.cel S0.length) ((eC S0 bs m).set (S0.length + 1) c) := lQ (by rw [aX, if_neg (by omega)]; exact jU) rfl
  by_cases hr : m.taken < m.bits.length
  ·simp! [sH, lp', sY, ht, bD, lK, zC, nW mY, aN, decide_eq_true (show (m.taken : Int) < (m.bits.length : Int) by omega), nO, nX pI, lgb, nX zB]
   unfold jA;dsimp only;rw [if_pos hr];exact oV ls (by rw [take_set (by omega), take_set (by omega), yY])
  ·simp! [sH, lp', sY, ht, bD, lK, zC, nW mY, aN, decide_eq_false (show ¬ (m.taken : Int) < (m.bits.length : Int) by omega), T6, nO, nX pI, lgb, nX zB]
   unfold jA;dsimp only;rw [if_neg hr];exact oV ls (by rw [take_set (by omega), take_set (by omega), yY])
end
def kX (q : Nat) : Option eN -> eN
 | none => ((q : Int), false, [], [])
 | some c => c
def flat : List Task -> List LT
 | [] => []
 | .lst l i :: r => gM (l.drop i) ++ flat r
 | .close :: r => .shut :: flat r
 | .again b :: r => .st (.again b) :: flat r
 | .call q st :: r => .out (kX q st) 0 :: flat r
def callsOf : List Task -> List Nat
 | [] => []
 | .call q _ :: r => q :: callsOf r
 | _ :: r => callsOf r
def Oh (p : Nat) : List Task -> Prop
 | [] => False
 | .call q none :: r => r = [] /\ q = p
 | .call _ (some _) :: r => Oh p r
 | .lst _ _ :: r => Oh p r
 | .close :: r => Oh p r
 | .again _ :: r => Oh p r
def uC (n : Nat) (os : List (Nat × Nat)) : List (List Nat) := (aV n).map fun q => (os.filter fun o => o.1 == q).map (·.2)
theorem kW {n q : Nat} {os : List (Nat × Nat)} (h : q < n) : (uC n os)[q]? = some ((os.filter fun o => o.1 == q).map (·.2)) := by
 rw [uC, bN, kN h];rfl
theorem oY {n : Nat} {os : List (Nat × Nat)} : (uC n os).length = n := by simp [uC]
theorem LY {n q t : Nat} {os : List (Nat × Nat)} {a : List Nat} (h : q < n) : (uC n ((q, t) :: os)).set q ((os.filter fun o => o.1 == q).map (·.2)) = uC n os := by
 apply gI
 intro i;rw [aX]
 by_cases e : q = i
 ·subst e
  rw [if_pos rfl, if_pos (by rw [oY]; exact h), kW h]
 ·rw [if_neg e]
  by_cases hi : i < n
  ·rw [kW hi, kW hi, mK (by simpa using e)]
  ·rw [cX (by rw [oY]; omega), cX (by rw [oY]; omega)]
theorem Ci {n q t : Nat} {os : List (Nat × Nat)} (h : q < n) : uC n ((q, t) :: os) = (uC n os).set q (t :: (os.filter fun o => o.1 == q).map (·.2)) := by
 apply gI
 intro i;rw [aX]
 by_cases e : q = i
 ·subst e
  rw [if_pos rfl, if_pos (by rw [oY]; exact h), kW h, mJ (by simp)]
  rfl
 ·rw [if_neg e]
  by_cases hi : i < n
  ·rw [kW hi, kW hi, mK (by simpa using e)]
  ·rw [cX (by rw [oY]; omega), cX (by rw [oY]; omega)]
structure Sim (bs : List (List Stt)) (B : List Int) (p : Nat) (m : Lm) (c : Mc) : Prop where
 hbs : c.bs = bs
 bits : c.bits = B
 taken : c.taken = m.taken
 deeds : c.deeds = m.deeds
 todo : m.todo = flat c.stk
 calls : callsOf c.stk = m.opens.map Prod.fst
 act : c.act = uC bs.length m.opens
 lt : ∀ o ∈ m.opens, o.1 < bs.length
 srt : m.opens.Pairwise fun a b => b.2 <= a.2
 le : ∀ o ∈ m.opens, o.2 <= m.taken
 bot : Oh p c.stk \/ (c.stk = [] /\ c.ended = m.way)
def Goes (j : Nat) (c c' : Mc) : Prop := ∀ n, runM (n + j) c = runM n c'
theorem Goes.refl {c : Mc} : Goes 0 c c := fun n => rfl
theorem Goes.step {c c' : Mc} (hs : c.stk ≠ []) (h : eJ c = .ok c') : Goes 1 c c' := fun n => by
 rw [runM];cases e : c.stk with
 | nil => exact absurd e hs
 | cons t r => dsimp only; rw [h]
theorem Goes.trans {i j : Nat} {a b c : Mc} (h : Goes i a b) (k : Goes j b c) : Goes (i + j) a c := fun n => by
 rw [show n + (i + j) = (n + j) + i by omega, h, k]
def RG : List Task -> Prop
 | .lst l i :: _ => i < l.length
 | _ => True
theorem settle {bs : List (List Stt)} {B : List Int} {p : Nat} {m : Lm} : ∀ (stk : List Task) (c : Mc), c.stk = stk -> Sim bs B p m c -> ∃ j c', Goes j c c' /\ Sim bs B p m c' /\ j + c'.stk.length <= stk.length /\ RG c'.stk
 | [], c, e, s => ⟨0, c, Goes.refl, s, by rw [e]; simp, by rw [e]; trivial⟩
 | .close :: r, c, e, s => ⟨0, c, Goes.refl, s, by rw [e]; simp, by rw [e]; trivial⟩
 | .again b :: r, c, e, s => ⟨0, c, Goes.refl, s, by rw [e]; simp, by rw [e]; trivial⟩
 | .call q st :: r, c, e, s => ⟨0, c, Goes.refl, s, by rw [e]; simp, by rw [e]; trivial⟩
 | .lst l i :: r, c, e, s => by
  by_cases hi : i < l.length
  ·exact ⟨0, c, Goes.refl, s, by rw [e]; simp, by rw [e]; exact hi⟩
  ·have st : eJ c = .ok { c with stk := r } := by
    unfold eJ;rw [e];dsimp only;rw [cX (by omega)]
   have s' : Sim bs B p m { c with stk := r } := ⟨s.hbs, s.bits, s.taken, s.deeds, by
    have := s.todo;rw [e] at this;simp only [flat] at this;rw [Im (by omega)] at this
    exact this, by have := s.calls; rw [e] at this; exact this, s.act, s.lt, s.srt, s.le, by
    rcases s.bot with h | ⟨h, _⟩
    ·rw [e] at h; exact .inl h
    ·rw [e] at h; cases h⟩
   obtain ⟨j, c', h1, h2, h3, h4⟩ := settle r _ rfl s';exact ⟨1 + j, c', (Goes.step (by rw [e]; simp) st).trans h1, h2, by simp; omega, h4⟩
theorem yA {p : Nat} : ∀ (stk : List Task) (d0 : List Deed), Oh p stk -> ∃ ds q st r, xV stk d0 = some (d0 ++ ds, q, st, r) /\ eU (flat stk) = some (ds, kX q st, flat r) /\ callsOf stk = q :: callsOf r /\ (st = none -> r = []) /\ (st ≠ none -> Oh p r) /\ r.length < stk.length
 | [], d0, h => h.elim
 | .close :: r, d0, h => by
  obtain ⟨ds, q, st, r', h1, h2, h3, h4, h5, h6⟩ := yA r (d0 ++ [.cl]) h;refine ⟨.cl :: ds, q, st, r', by rw [xV, h1]; simp, by rw [flat, eU, h2], h3, h4, h5, by simp; omega⟩
 | .again b :: r, d0, h => by
  obtain ⟨ds, q, st, r', h1, h2, h3, h4, h5, h6⟩ := yA r d0 h;exact ⟨ds, q, st, r', h1, by rw [flat, eU]; exact h2, h3, h4, h5, by simp; omega⟩
 | .lst l i :: r, d0, h => by
  obtain ⟨ds, q, st, r', h1, h2, h3, h4, h5, h6⟩ := yA r d0 h;refine ⟨ds, q, st, r', h1, ?_, h3, h4, h5, by simp; omega⟩
  rw [flat];have : ∀ l : List Stt, eU (gM l ++ flat r) = eU (flat r) := by
   intro l
   induction l with
   | nil => rfl
   | cons s l ih => exact ih
  rw [this];exact h2
 | .call q none :: r, d0, h => by
  obtain ⟨rfl, rfl⟩ := h;exact ⟨[], q, none, [], by simp [xV], rfl, rfl, fun _ => rfl, fun h => absurd rfl h, by simp⟩
 | .call q (some c) :: r, d0, h => ⟨[], q, some c, r, by simp [xV], rfl, rfl, fun h => (by cases h), fun _ => h, by simp⟩
def LF.bits : LF -> List Int
 | .fin m => m.bits
 | .long m => m.bits
 | .never m => m.bits
 | .short m => m.bits
 | .no m => m.bits
theorem MA {bs : List (List Stt)} {t : LT} {m m' : Lm} {blk : List LT} (h : bZ bs t m = .ok blk m') : ∃ x, m'.bits = m.bits ++ x := by
 have nil : ∀ {m' : Lm}, m'.bits = m.bits -> ∃ x, m'.bits = m.bits ++ x := fun h => ⟨[], by simp [h]⟩
 have lb : ∀ {s : Stt} {b : Int} {m' : Lm}, sZ s m = some (b, m') -> ∃ x, m'.bits = m.bits ++ x := fun h => by
  obtain ⟨_, _, _, _, _, _, x, hx, _⟩ := oN h;exact ⟨x, hx⟩
 cases t with
 | shut => cases h; exact nil rfl
 | out c w =>
  unfold bZ at h;dsimp only at h;split at h
  ·cases h; exact nil rfl
  ·cases h
 | st s =>
  cases s with
  | bad => cases h
  | odd x => cases h
  | cmd c => cases h; exact nil rfl
  | keep b => cases h; exact nil rfl
  | either x y =>
   unfold bZ at h;dsimp only at h;split at h
   ·cases h
   ·rename_i q; cases h; exact lb q
  | again b =>
   unfold bZ at h;dsimp only at h;split at h
   ·cases h
   ·rename_i q; cases h; exact lb q
  | call g f x y =>
   unfold bZ at h;dsimp only at h;split at h
   ·cases h
   ·split at h
    ·cases h; exact nil rfl
    ·cases h
  | fin w =>
   unfold bZ at h;dsimp only at h;split at h
   ·cases h; exact nil rfl
   ·cases h
theorem G8 {bs : List (List Stt)} {t : LT} {m m' : Lm} (h : bZ bs t m = .non m') : m' = m := by
 cases t with
 | shut => cases h
 | out c w =>
  unfold bZ at h;dsimp only at h;split at h <;> cases h
 | st s =>
  cases s with
  | bad => cases h
  | odd x => cases h
  | cmd c => cases h
  | keep b => cases h
  | either x y =>
   unfold bZ at h;dsimp only at h;split at h
   ·cases h; rfl
   ·cases h
  | again b =>
   unfold bZ at h;dsimp only at h;split at h
   ·cases h; rfl
   ·cases h
  | call g f x y =>
   unfold bZ at h;dsimp only at h;split at h
   ·cases h; rfl
   ·split at h <;> cases h
  | fin w =>
   unfold bZ at h;dsimp only at h;split at h <;> cases h
theorem J1 {bs : List (List Stt)} : ∀ (k : Nat) (m : Lm), ∃ x, (cO bs k m).bits = m.bits ++ x
 | 0, m => by
  unfold cO
  split <;> exact ⟨[], by simp [LF.bits]⟩
 | k + 1, m => by
  unfold cO;cases e : m.todo with
  | nil => exact ⟨[], by simp [LF.bits]⟩
  | cons t r =>
   dsimp only;cases q : bZ bs t { m with todo := r } with
   | no => exact ⟨[], by simp [LF.bits]⟩
   | non m' =>
    dsimp only;have := G8 q;subst this
    split <;> exact ⟨[], by simp [LF.bits]⟩
   | ok blk m' =>
    obtain ⟨x, hx⟩ := MA q;obtain ⟨y, hy⟩ := J1 k { m' with todo := blk ++ m'.todo }
    refine ⟨x ++ y, ?_⟩
    dsimp only;rw [hy];dsimp only at hx ⊢;rw [hx, dG]
def Ends : LF -> SR -> Prop
 | .fin m', r => ∃ c', r = .ok c' /\ c'.taken = m'.taken /\ c'.deeds = m'.deeds /\ c'.ended = m'.way
 | .long _, _ => True
 | .never _, r => ∃ c', r = .err (-2) c'
 | .short m', r => ∃ c', r = .err (m'.bits.length : Int) c'
 | .no _, _ => False
section
variable {bs : List (List Stt)} {B : List Int} {p : Nat} {many : Int}
theorem Dg {m : Lm} {c : Mc} {q t : Nat} {os : List (Nat × Nat)} {st : Option eN} {w : Int} (h1 : c.bs = bs) (h2 : c.bits = B) (h3 : c.taken = m.taken) (h4 : c.deeds = m.deeds) (h5 : m.todo = flat c.stk) (h6 : callsOf c.stk = os.map Prod.fst) (ho : m.opens = (q, t) :: os) (h7 : c.act = uC bs.length m.opens) (h8 : ∀ o ∈ m.opens, o.1 < bs.length) (h9 : m.opens.Pairwise fun a b => b.2 <= a.2) (h10 : ∀ o ∈ m.opens, o.2 <= m.taken) (h11 : st = none -> c.stk = []) (h12 : st ≠ none -> Oh p c.stk) :
  ∃ a, c.act[q]? = some (t :: a) /\ Sim bs B p { m with opens := os, way := w, deeds := m.deeds ++ (if (kX q st).2.1 then [.cl] else []), todo := gM (if w = 0 then (kX q st).2.2.1 else (kX q st).2.2.2) ++ m.todo } (c.leave q a st w) /\ (c.leave q a st w).stk.length <= c.stk.length + 1 := by
 have hq : q < bs.length := h8 (q, t) (by rw [ho]; exact aT ..)
 have hac : c.act[q]? = some (t :: (os.filter fun o => o.1 == q).map (·.2)) := by
  rw [h7, ho, kW hq, mJ (by simp)]
  rfl
 have hset : c.act.set q ((os.filter fun o => o.1 == q).map (·.2)) = uC bs.length os := by rw [h7, ho, LY (a := []) hq]
 have hlt : ∀ o ∈ os, o.1 < bs.length := fun o h => h8 o (by rw [ho]; exact aJ _ h)
 have hsr : os.Pairwise fun a b => b.2 <= a.2 := by rw [ho] at h9; exact (Aj.mp h9).2
 have hle : ∀ o ∈ os, o.2 <= m.taken := fun o h => h10 o (by rw [ho]; exact aJ _ h)
 refine ⟨_, hac, ?_, ?_⟩
 ·cases st with
  | none =>
   have hn := h11 rfl;refine ⟨h1, h2, h3, ?_, ?_, h6, hset, hlt, hsr, hle, .inr ⟨hn, rfl⟩⟩
   ·simp [Mc.leave, kX, h4]
   ·simp [Mc.leave, kX, h5, gM]
  | some k =>
   have hb := h12 (by simp)
   refine ⟨h1, h2, h3, ?_, ?_, ?_, hset, hlt, hsr, hle, .inl hb⟩
   ·simp only [Mc.leave, kX, h4]; rfl
   ·simp only [Mc.leave, kX, flat, List.drop_zero, h5]
   ·simp only [Mc.leave, callsOf, h6]
 ·cases st with
  | none => simp [Mc.leave]
  | some k => simp [Mc.leave]
theorem BO {c c' : Mc} {i : Int} (hs : c.stk ≠ []) (h : eJ c = .err i c') : runM 1 c = .err i c' := by
 rw [runM];cases e : c.stk with
 | nil => exact absurd e hs
 | cons t r => dsimp only; rw [h]
theorem AQ {s : Stt} {m : Lm} (ht : m.taken <= m.bits.length) (h : sZ s m = none) : m.taken = m.bits.length := by
 unfold sZ at h;split at h
 ·assumption
 ·split at h
  ·cases h
  ·rename_i q
   have := kF.mp q;omega
theorem drop_cons {l : List Stt} {i : Nat} {s : Stt} (h : l[i]? = some s) : l.drop i = s :: l.drop (i + 1) := by
 have hl := (aH.mp h).1;rw [sE hl]
 congr 1
 exact (aH.mp h).2
theorem FC {k : Nat} {s : Stt} {m m' : Lm} {b : Int} {blk : List LT} (h : sZ s m = some (b, m')) (hB : (cO bs k { m' with todo := blk ++ m'.todo }).bits = B) : B[m.taken]? = some b := by
 obtain ⟨_, _, _, _, _, h6, _⟩ := oN h;obtain ⟨y, hy⟩ := J1 (bs := bs) k { m' with todo := blk ++ m'.todo }
 rw [hB] at hy;dsimp only at hy;rw [hy, aL (aH.mp h6).1];exact h6
theorem Sim.ask {s : Stt} {m m' : Lm} {c : Mc} {b : Int} {stk : List Task} {blk : List LT} (S : Sim bs B p m c) (h : sZ s { m with todo := td } = some (b, m')) (hf : blk ++ td = flat stk) (hc : callsOf stk = callsOf c.stk) (hbot : Oh p stk) : Sim bs B p { m' with todo := blk ++ m'.todo } { c with taken := c.taken + 1, stk := stk } := by
 obtain ⟨h1, h2, h3, h4, h5, _, _⟩ := oN h;dsimp only at h1 h2 h3 h4 h5;refine ⟨S.hbs, S.bits, ?_, ?_, ?_, ?_, ?_, ?_, ?_, ?_, .inl hbot⟩
 ·dsimp only; rw [h5, S.taken]
 ·dsimp only; rw [h2, S.deeds]
 ·dsimp only; rw [h1, hf]
 ·dsimp only; rw [hc, h3, S.calls]
 ·dsimp only; rw [h3, S.act]
 ·dsimp only; rw [h3]; exact S.lt
 ·dsimp only; rw [h3]; exact S.srt
 ·dsimp only; rw [h3, h5]; exact fun o ho => Nat.le_succ_of_le (S.le o ho)
theorem head_mem {m : Lm} {g : Nat} (hg : g < bs.length) (srt : m.opens.Pairwise fun a b => b.2 <= a.2) (le : ∀ o ∈ m.opens, o.2 <= m.taken) : ((m.opens.filter fun o => o.1 == g).map (·.2)).head? = some m.taken ↔ (g, m.taken) ∈ m.opens := by
 constructor
 ·intro h
  cases e : m.opens.filter fun o => o.1 == g with
  | nil => rw [e] at h; cases h
  | cons o r =>
   rw [e] at h;simp at h;have hm : o ∈ m.opens.filter fun o => o.1 == g := by rw [e]; exact aT ..
   obtain ⟨h1, h2⟩ := DB.mp hm;have h2 : o.1 = g := by simpa using h2
   obtain ⟨a, b⟩ := o;simp only at h h2;subst h2 h;exact h1
 ·intro h
  have hm : (g, m.taken) ∈ m.opens.filter fun o => o.1 == g := DB.mpr ⟨h, by simp⟩
  have hp := List.Pairwise.filter (fun o => o.1 == g) srt
  cases e : m.opens.filter fun o => o.1 == g with
  | nil => rw [e] at hm; cases hm
  | cons o r =>
   rw [e] at hm hp;have ho : o ∈ m.opens := (DB.mp (show o ∈ m.opens.filter fun o => o.1 == g by rw [e]; exact aT ..)).1
   have h1 := le o ho;have h2 : m.taken <= o.2 := by
    rcases bM.mp hm with h | h
    ·rw [<- h]; exact bV _
    ·exact (Aj.mp hp).1 _ h
   simp;omega
theorem P7 (hm : (bs.length : Int) = many) (hG : ∀ b ∈ bs, BG many b) : ∀ (k : Nat) (m : Lm) (c : Mc), Sim bs B p m c -> m.Inv many k -> (cO bs k m).bits = B -> ∃ j, j <= 4 * k + c.stk.length + 1 /\ Ends (cO bs k m) (runM j c) := by
 intro k
 induction k using Nat.strongRecOn with
 | ind k ih =>
 intro m c S0 I hB;obtain ⟨j0, c1, g1, S, l1, st1⟩ := settle _ c rfl S0
 suffices h : ∃ j, j <= 4 * k + c1.stk.length + 1 /\ Ends (cO bs k m) (runM j c1) by
  obtain ⟨j, h1, h2⟩ := h;exact ⟨j + j0, by omega, by rw [g1]; exact h2⟩
 clear g1 S0 l1;cases hs : c1.stk with
 | nil =>
  have ht : m.todo = [] := by rw [S.todo, hs]; rfl
  have hl : cO bs k m = .fin m := by
   cases k with
   | zero => unfold cO; rw [if_pos ht]
   | succ k => unfold cO; rw [ht]
  rcases S.bot with h | ⟨_, h⟩
  ·rw [hs] at h; exact h.elim
  ·refine ⟨1, by omega, ?_⟩
   rw [hl];refine ⟨c1, ?_, S.taken, S.deeds, h⟩
   rw [runM, hs]
 | cons t r =>
  have hne : c1.stk ≠ [] := by rw [hs]; simp
  have hbot : Oh p (t :: r) := by
   rcases S.bot with h | ⟨h, _⟩
   ·rw [hs] at h; exact h
   ·exact absurd h hne
  rw [hs] at st1;have htd := S.todo;have hcl := S.calls;rw [hs] at htd hcl
  -- with no turn left nothing is asked
  cases k with
  | zero =>
   have : m.todo ≠ [] := by
    rw [htd];cases t with
    | lst l i =>
     rw [flat];intro h;have := (List.append_eq_nil_iff.mp h).1;have h2 : (gM (l.drop i)).length = 0 := by rw [this]; rfl
     rw [vW, oA] at h2;have : i < l.length := st1;omega
    | _ => simp [flat]
   refine ⟨0, by omega, ?_⟩
   unfold cO;rw [if_neg this]
   trivial
  | succ k =>
   -- one step of the machine, one turn of the law
   have go : ∀ {m2 : Lm} {c2 : Mc} {i : Nat}, Goes i c1 c2 -> Sim bs B p m2 c2 -> m2.Inv many k -> (cO bs k m2).bits = B -> i + c2.stk.length <= (t :: r).length + 4 -> ∃ j, j <= 4 * (k + 1) + (t :: r).length + 1 /\ Ends (cO bs k m2) (runM j c1) := fun {m2 c2 i} g s2 i2 b2 hi => by
    obtain ⟨j, h1, h2⟩ := ih k (by omega) m2 c2 s2 i2 b2
    exact ⟨j + i, by omega, by rw [g]; exact h2⟩
   cases t with
   | close =>
    rw [flat] at htd;have I2 := gA (t := .shut) hG (I.pop htd).1 trivial rfl;have hlr : cO bs (k + 1) m = cO bs k { m with todo := flat r, deeds := m.deeds ++ [.cl] } := by
     rw [cO, htd];rfl
    rw [hlr] at hB ⊢;have e : eJ c1 = .ok { c1 with stk := r, deeds := c1.deeds ++ [.cl] } := by unfold eJ; rw [hs]
    exact go (Goes.step hne e) ⟨S.hbs, S.bits, S.taken, by dsimp only; rw [S.deeds], rfl, hcl, S.act, S.lt, S.srt, S.le, .inl hbot⟩ I2 hB (by simp; omega)
   | call q st =>
    rw [flat] at htd;cases ho : m.opens with
    | nil => rw [ho] at hcl; cases hcl
    | cons o os =>
     obtain ⟨q', t'⟩ := o;rw [ho] at hcl;simp only [callsOf, aM, List.cons.injEq] at hcl;obtain ⟨rfl, hcl⟩ := hcl;obtain ⟨a, h1, h2, h3⟩ := Dg (p := p) (c := { c1 with stk := r }) (m := { m with todo := flat r }) (q := q) (t := t') (os := os) (st := st) (w := 0) S.hbs S.bits S.taken S.deeds rfl hcl ho S.act S.lt S.srt S.le (fun h => by subst h; exact hbot.1) (fun h => by cases st with
      | none => exact absurd rfl h
      | some z => exact hbot)
     have tq : bZ bs (.out (kX q st) 0) { m with todo := flat r } = .ok (gM (if (0 : Int) = 0 then (kX q st).2.2.1 else (kX q st).2.2.2)) { m with todo := flat r, opens := os, way := 0, deeds := m.deeds ++ (if (kX q st).2.1 then [.cl] else []) } := by
      unfold bZ;dsimp only;rw [ho]
     have I2 := gA hG (I.pop htd).1 (I.pop htd).2 tq;have hlr : cO bs (k + 1) m = cO bs k { m with opens := os, way := 0, deeds := m.deeds ++ (if (kX q st).2.1 then [.cl] else []), todo := gM (if (0 : Int) = 0 then (kX q st).2.2.1 else (kX q st).2.2.2) ++ flat r } := by
      rw [cO, htd];dsimp only;rw [tq]
     rw [hlr] at hB ⊢;have e : eJ c1 = .ok (({ c1 with stk := r } : Mc).leave q a st 0) := by
      unfold eJ;rw [hs];dsimp only;rw [show c1.act[q]? = some (t' :: a) from h1]
     exact go (Goes.step hne e) h2 I2 hB (by simp at h3 ⊢; omega)
   | again b =>
    rw [flat] at htd;have hIp := I.pop htd;have hon := hIp.2;cases ql : sZ (.again b) { m with todo := flat r } with
    | none =>
     have tq : bZ bs (.st (.again b)) { m with todo := flat r } = .non { m with todo := flat r } := by unfold bZ; dsimp only; rw [ql]
     have hlr : cO bs (k + 1) m = .short { m with todo := flat r } := by
      rw [cO, htd];dsimp only;rw [tq];rfl
     rw [hlr] at hB ⊢;have htk := AQ (m := { m with todo := flat r }) I.t ql
     have hbn : B = m.bits := hB.symm;have e : eJ c1 = .err (c1.taken : Int) { c1 with stk := r } := by
      unfold eJ;rw [hs];dsimp only;rw [S.bits, S.taken, hbn, cX (by dsimp only at htk; omega)]
     refine ⟨1, by omega, ?_⟩
     rw [BO hne e];exact ⟨_, by rw [S.taken, show m.taken = m.bits.length from htk]⟩
    | some z =>
     obtain ⟨x, m'⟩ := z;have hbit := CJ hIp.1.fit ql;have tq : bZ bs (.st (.again b)) { m with todo := flat r } = .ok (if x = 0 then [] else gM b ++ [.st (.again b)]) m' := by unfold bZ; dsimp only; rw [ql]
     have I2 := gA hG hIp.1 hIp.2 tq;have hlr : cO bs (k + 1) m = cO bs k { m' with todo := (if x = 0 then [] else gM b ++ [.st (.again b)]) ++ m'.todo } := by
      rw [cO, htd];dsimp only;rw [tq]
     rw [hlr] at hB ⊢;have hx := FC ql hB;dsimp only at hx;rcases hbit with rfl | rfl
     ·have e : eJ c1 = .ok { c1 with taken := c1.taken + 1, stk := r } := by
       unfold eJ;rw [hs];dsimp only;rw [S.bits, S.taken, hx];rfl
      exact go (Goes.step hne e) (S.ask ql rfl (by rw [hs]; rfl) hbot) I2 hB (by simp; omega)
     ·have e : eJ c1 = .ok { c1 with taken := c1.taken + 1, stk := .lst b 0 :: .again b :: r } := by
       unfold eJ;rw [hs];dsimp only;rw [S.bits, S.taken, hx];rfl
      exact go (Goes.step hne e) (S.ask ql (by simp [flat]) (by rw [hs]; rfl) hbot) I2 hB (by simp; omega)
   | lst l i =>
    obtain ⟨s, hsi⟩ : ∃ s, l[i]? = some s := ⟨l[i]'st1, cJ st1⟩;rw [flat, drop_cons hsi] at htd;have htd : m.todo = .st s :: (gM (l.drop (i + 1)) ++ flat r) := htd;have hIp := I.pop htd;have hon : SG many s := hIp.2;have hst : ∀ {x : SR}, gT s { c1 with stk := .lst l (i + 1) :: r } = x -> eJ c1 = x := fun {x} h => by
     unfold eJ;rw [hs];dsimp only;rw [hsi];exact h
    have hbot' : Oh p (.lst l (i + 1) :: r) := hbot;cases s with
    | bad => obtain ⟨_, _, h, _⟩ := hon; exact h.elim
    | odd x => obtain ⟨_, _, h, _⟩ := hon; exact h.elim
    | cmd z =>
     have I2 := gA (t := .st (.cmd z)) hG hIp.1 hon rfl;have hlr : cO bs (k + 1) m = cO bs k { m with todo := gM (l.drop (i + 1)) ++ flat r, deeds := m.deeds ++ [.cmd z] } := by
      rw [cO, htd];rfl
     rw [hlr] at hB ⊢;exact go (Goes.step hne (hst rfl)) ⟨S.hbs, S.bits, S.taken, by dsimp only; rw [S.deeds], rfl, hcl, S.act, S.lt, S.srt, S.le, .inl hbot'⟩ I2 hB (by simp; omega)
    | keep b =>
     have I2 := gA (t := .st (.keep b)) hG hIp.1 hon rfl;have hlr : cO bs (k + 1) m = cO bs k { m with todo := (gM b ++ [.shut]) ++ (gM (l.drop (i + 1)) ++ flat r), deeds := m.deeds ++ [.op] } := by
      rw [cO, htd];rfl
     rw [hlr] at hB ⊢;exact go (Goes.step hne (hst rfl)) ⟨S.hbs, S.bits, S.taken, by dsimp only; rw [S.deeds], by simp [flat], hcl, S.act, S.lt, S.srt, S.le, .inl hbot'⟩ I2 hB (by simp; omega)
    | either x y =>
     cases ql : sZ (.either x y) { m with todo := gM (l.drop (i + 1)) ++ flat r } with
     | none =>
      have tq : bZ bs (.st (.either x y)) { m with todo := gM (l.drop (i + 1)) ++ flat r } = .non { m with todo := gM (l.drop (i + 1)) ++ flat r } := by unfold bZ; dsimp only; rw [ql]
      have hlr : cO bs (k + 1) m = .short { m with todo := gM (l.drop (i + 1)) ++ flat r } := by
       rw [cO, htd];dsimp only;rw [tq];rfl
      rw [hlr] at hB ⊢;have htk := AQ (m := { m with todo := gM (l.drop (i + 1)) ++ flat r }) I.t ql
      have hbn : B = m.bits := hB.symm;have e : eJ c1 = .err (c1.taken : Int) { c1 with stk := .lst l (i + 1) :: r } := hst (by
       unfold gT;dsimp only;rw [S.bits, S.taken, hbn, cX (by dsimp only at htk; omega)])
      refine ⟨1, by omega, ?_⟩
      rw [BO hne e];exact ⟨_, by rw [S.taken, show m.taken = m.bits.length from htk]⟩
     | some z =>
      obtain ⟨b, m'⟩ := z;have tq : bZ bs (.st (.either x y)) { m with todo := gM (l.drop (i + 1)) ++ flat r } = .ok (gM (if b = 0 then x else y)) m' := by unfold bZ; dsimp only; rw [ql]
      have I2 := gA hG hIp.1 hIp.2 tq;have hlr : cO bs (k + 1) m = cO bs k { m' with todo := gM (if b = 0 then x else y) ++ m'.todo } := by
       rw [cO, htd];dsimp only;rw [tq]
      rw [hlr] at hB ⊢;have hx := FC ql hB;dsimp only at hx;have e : eJ c1 = .ok { c1 with taken := c1.taken + 1, stk := .lst (if b = 0 then x else y) 0 :: .lst l (i + 1) :: r } := hst (by
       unfold gT;dsimp only;rw [S.bits, S.taken, hx])
      exact go (Goes.step hne e) (S.ask ql (by simp [flat]) (by rw [hs]; rfl) hbot') I2 hB (by simp; omega)
    | again b =>
     have g1 : Goes 1 c1 { c1 with stk := .again b :: .lst l (i + 1) :: r } := Goes.step hne (hst rfl)
     have hne2 : ({ c1 with stk := .again b :: .lst l (i + 1) :: r } : Mc).stk ≠ [] := by simp
     cases ql : sZ (.again b) { m with todo := gM (l.drop (i + 1)) ++ flat r } with
     | none =>
      have tq : bZ bs (.st (.again b)) { m with todo := gM (l.drop (i + 1)) ++ flat r } = .non { m with todo := gM (l.drop (i + 1)) ++ flat r } := by unfold bZ; dsimp only; rw [ql]
      have hlr : cO bs (k + 1) m = .short { m with todo := gM (l.drop (i + 1)) ++ flat r } := by
       rw [cO, htd];dsimp only;rw [tq];rfl
      rw [hlr] at hB ⊢;have htk := AQ (m := { m with todo := gM (l.drop (i + 1)) ++ flat r }) I.t ql
      have hbn : B = m.bits := hB.symm;have e : eJ { c1 with stk := .again b :: .lst l (i + 1) :: r } = .err (c1.taken : Int) { c1 with stk := .lst l (i + 1) :: r } := by
       unfold eJ;dsimp only;rw [S.bits, S.taken, hbn, cX (by dsimp only at htk; omega)]
      refine ⟨1 + 1, by omega, ?_⟩
      rw [g1, BO hne2 e];exact ⟨_, by rw [S.taken, show m.taken = m.bits.length from htk]⟩
     | some z =>
      obtain ⟨x, m'⟩ := z;have hbit := CJ hIp.1.fit ql;have tq : bZ bs (.st (.again b)) { m with todo := gM (l.drop (i + 1)) ++ flat r } = .ok (if x = 0 then [] else gM b ++ [.st (.again b)]) m' := by unfold bZ; dsimp only; rw [ql]
      have I2 := gA hG hIp.1 hIp.2 tq;have hlr : cO bs (k + 1) m = cO bs k { m' with todo := (if x = 0 then [] else gM b ++ [.st (.again b)]) ++ m'.todo } := by
       rw [cO, htd];dsimp only;rw [tq]
      rw [hlr] at hB ⊢;have hx := FC ql hB;dsimp only at hx;rcases hbit with rfl | rfl
      ·have e : eJ { c1 with stk := .again b :: .lst l (i + 1) :: r } = .ok { c1 with taken := c1.taken + 1, stk := .lst l (i + 1) :: r } := by
        unfold eJ;dsimp only;rw [S.bits, S.taken, hx];rfl
       exact go (g1.trans (Goes.step hne2 e)) (S.ask ql (by simp [flat]) (by rw [hs]; rfl) hbot') I2 hB (by simp; omega)
      ·have e : eJ { c1 with stk := .again b :: .lst l (i + 1) :: r } = .ok { c1 with taken := c1.taken + 1, stk := .lst b 0 :: .again b :: .lst l (i + 1) :: r } := by
        unfold eJ;dsimp only;rw [S.bits, S.taken, hx];rfl
       exact go (g1.trans (Goes.step hne2 e)) (S.ask ql (by simp [flat]) (by rw [hs]; rfl) hbot') I2 hB (by simp; omega)
    | call g f x y =>
     obtain ⟨⟨g0, g1⟩, _⟩ := hon.call;have hgl : g.toNat < bs.length := by omega
     obtain ⟨b, hb⟩ : ∃ b, bs[g.toNat]? = some b := ⟨bs[g.toNat], cJ hgl⟩;have hac : c1.act[g.toNat]? = some ((m.opens.filter fun o => o.1 == g.toNat).map (·.2)) := by rw [S.act, kW hgl]
     have hh := head_mem (m := m) hgl S.srt S.le
     by_cases hin : (g.toNat, m.taken) ∈ m.opens
     ·have tq : bZ bs (.st (.call g f x y)) { m with todo := gM (l.drop (i + 1)) ++ flat r } = .non { m with todo := gM (l.drop (i + 1)) ++ flat r } := by unfold bZ; dsimp only; rw [if_pos hin]
      have hlr : cO bs (k + 1) m = .never { m with todo := gM (l.drop (i + 1)) ++ flat r } := by
       rw [cO, htd];dsimp only;rw [tq];rfl
      rw [hlr];have e : eJ c1 = .err (-2) { c1 with stk := .lst l (i + 1) :: r, deeds := c1.deeds ++ (if f then [.op] else []) } := hst (by
       unfold gT;dsimp only;rw [hac, S.hbs, hb];dsimp only;rw [if_pos (by rw [S.taken]; exact hh.mpr hin)])
      exact ⟨1, by omega, _, BO hne e⟩
     ·have tq : bZ bs (.st (.call g f x y)) { m with todo := gM (l.drop (i + 1)) ++ flat r } = .ok (gM b ++ [.out (g, f, x, y) 0]) { m with todo := gM (l.drop (i + 1)) ++ flat r, opens := (g.toNat, m.taken) :: m.opens, deeds := m.deeds ++ (if f then [.op] else []) } := by
       unfold bZ;dsimp only;rw [if_neg hin, hb]
      have I2 := gA hG hIp.1 hIp.2 tq;have hlr : cO bs (k + 1) m = cO bs k { m with todo := (gM b ++ [.out (g, f, x, y) 0]) ++ (gM (l.drop (i + 1)) ++ flat r), opens := (g.toNat, m.taken) :: m.opens, deeds := m.deeds ++ (if f then [.op] else []) } := by
       rw [cO, htd];dsimp only;rw [tq]
      rw [hlr] at hB ⊢;have e : eJ c1 = .ok (({ c1 with stk := .lst l (i + 1) :: r, deeds := c1.deeds ++ (if f then [.op] else []) } : Mc).enter g.toNat ((m.opens.filter fun o => o.1 == g.toNat).map (·.2)) b (some (g, f, x, y))) := hst (by
       unfold gT;dsimp only;rw [hac, S.hbs, hb];dsimp only;rw [if_neg (by rw [S.taken]; exact fun h => hin (hh.mp h))])
      refine go (Goes.step hne e) ⟨S.hbs, S.bits, S.taken, by simp only [Mc.enter, S.deeds], by simp [Mc.enter, flat, kX], ?_, ?_, ?_, ?_, ?_, .inl hbot'⟩ I2 hB (by simp [Mc.enter]; omega)
      ·simp only [Mc.enter, callsOf, aM]
       rw [<- hcl];rfl
      ·simp only [Mc.enter]
       rw [Ci hgl, S.act, S.taken]
      ·intro o ho
       rcases bM.mp ho with rfl | ho
       ·exact hgl
       ·exact S.lt o ho
      ·exact Aj.mpr ⟨fun o ho => S.le o ho, S.srt⟩
      ·intro o ho
       rcases bM.mp ho with rfl | ho
       ·exact bV _
       ·exact S.le o ho
    | fin w =>
     obtain ⟨ds, q, st, r', h1, h2, h3, h4, h5, h6⟩ := yA (p := p) (.lst l (i + 1) :: r) c1.deeds hbot';have h2' : eU (gM (l.drop (i + 1)) ++ flat r) = some (ds, kX q st, flat r') := h2;have tq : bZ bs (.st (.fin w)) { m with todo := gM (l.drop (i + 1)) ++ flat r } = .ok [.out (kX q st) w] { m with todo := flat r', deeds := m.deeds ++ ds } := by
      unfold bZ;dsimp only;rw [h2']
     have I2 := gA hG hIp.1 hIp.2 tq;have hlr : cO bs (k + 1) m = cO bs k { m with todo := .out (kX q st) w :: flat r', deeds := m.deeds ++ ds } := by
      rw [cO, htd];dsimp only;rw [tq];rfl
     rw [hlr] at hB ⊢;cases k with
     | zero =>
      refine ⟨0, by omega, ?_⟩
      unfold cO;rw [if_neg (by simp)]
      trivial
     | succ k =>
      have hcl' : callsOf (.lst l (i + 1) :: r) = m.opens.map Prod.fst := hcl;rw [h3] at hcl';obtain ⟨q', t', os, ho⟩ : ∃ q' t' os, m.opens = (q', t') :: os := by
       cases ho : m.opens with
       | nil => rw [ho] at hcl'; cases hcl'
       | cons o os => exact ⟨o.1, o.2, os, rfl⟩
      ·rw [ho] at hcl'
       simp only [aM, List.cons.injEq] at hcl';obtain ⟨rfl, hcl'⟩ := hcl';obtain ⟨a, e1, e2, e3⟩ := Dg (p := p) (c := { c1 with stk := r', deeds := c1.deeds ++ ds }) (m := { m with todo := flat r', deeds := m.deeds ++ ds }) (q := q) (t := t') (os := os) (st := st) (w := w) S.hbs S.bits S.taken (by dsimp only; rw [S.deeds]) rfl hcl' ho S.act S.lt S.srt S.le h4 h5
       have tq2 : bZ bs (.out (kX q st) w) { m with todo := flat r', deeds := m.deeds ++ ds } = .ok (gM (if w = 0 then (kX q st).2.2.1 else (kX q st).2.2.2)) { m with todo := flat r', opens := os, way := w, deeds := m.deeds ++ ds ++ (if (kX q st).2.1 then [.cl] else []) } := by
        unfold bZ;dsimp only;rw [ho]
       have I2' : ({ m with todo := .out (kX q st) w :: flat r', deeds := m.deeds ++ ds } : Lm).Inv many (k + 1) := I2
       have I3 := gA hG (I2'.pop rfl).1 (I2'.pop rfl).2 tq2;have hlr2 : cO bs (k + 1) { m with todo := .out (kX q st) w :: flat r', deeds := m.deeds ++ ds } = cO bs k { m with opens := os, way := w, deeds := m.deeds ++ ds ++ (if (kX q st).2.1 then [.cl] else []), todo := gM (if w = 0 then (kX q st).2.2.1 else (kX q st).2.2.2) ++ flat r' } := by
        rw [cO];dsimp only;rw [tq2]
       rw [hlr2] at hB ⊢;have e : eJ c1 = .ok (({ c1 with stk := r', deeds := c1.deeds ++ ds } : Mc).leave q a st w) := hst (by
        unfold gT;dsimp only;rw [h1];dsimp only;rw [show c1.act[q]? = some (t' :: a) from e1])
       obtain ⟨j, h7, h8⟩ := ih k (by omega) _ _ e2 I3 hB
       refine ⟨j + 1, ?_, by rw [Goes.step hne e]; exact h8⟩
       simp at h6 e3 h7 ⊢;omega
end
def nest : List LT -> Nat
 | [] => 0
 | .shut :: r => nest r + 1
 | .out c _ :: r => nest r + (if c.2.1 then 1 else 0)
 | .st _ :: r => nest r
theorem nM {r : List LT} : ∀ {l : List Stt}, nest (gM l ++ r) = nest r
 | [] => rfl
 | s :: l => nM (l := l)
structure Bal (n : Nat) (m : Lm) : Prop where
 len : m.deeds.length + nest m.todo <= n
 ok : ∀ d ∈ m.deeds, d.Ok
 nest : ∃ s, kL m.deeds ⟨unitM, []⟩ = some s /\ s.stk.length = nest m.todo
theorem tG : ∀ {a b : List Deed} {s : Ms}, kL (a ++ b) s = (kL a s).bind (kL b)
 | [], b, s => rfl
 | d :: a, b, s => by
  simp only [iF, kL];cases vL d s with
  | none => rfl
  | some s' => exact tG
theorem HK : ∀ {n : Nat} {s : Ms}, n <= s.stk.length -> ∃ s', kL (bQ n Deed.cl) s = some s' /\ s'.stk.length + n = s.stk.length
 | 0, s, h => ⟨s, rfl, rfl⟩
 | n + 1, s, h => by
  obtain ⟨m, stk⟩ := s;cases stk with
  | nil => simp at h
  | cons P k =>
   obtain ⟨s', h1, h2⟩ := HK (n := n) (s := ⟨qK P (qE m), k⟩) (by simpa using h)
   exact ⟨s', h1, by simp at h2 ⊢; omega⟩
theorem Ce : ∀ {ts : List LT} {ds : List Deed} {c : eN} {r : List LT}, eU ts = some (ds, c, r) -> ds = bQ ds.length .cl /\ nest ts = ds.length + (nest r + (if c.2.1 then 1 else 0))
 | [], ds, c, r, h => by cases h
 | .out c' w :: q, ds, c, r, h => by cases h; exact ⟨rfl, by simp [nest]⟩
 | .shut :: q, ds, c, r, h => by
  simp only [eU] at h;cases e : eU q with
  | none => rw [e] at h; cases h
  | some x =>
   obtain ⟨ds', c', q'⟩ := x;rw [e] at h;cases h;obtain ⟨h1, h2⟩ := Ce e;refine ⟨by rw [aR, List.replicate_succ, <- h1], ?_⟩
   simp only [nest, h2, aR];omega
 | .st s :: q, ds, c, r, h => Ce (ts := q) h
theorem wF {N : Nat} {m : Lm} {n : Nat} {td : List LT} (b : Bal N m) (h : nest m.todo = n + nest td) : ({ m with deeds := m.deeds ++ bQ n .cl, todo := td } : Lm) |> Bal N := by
 obtain ⟨len, ok, s, h1, h2⟩ := b;obtain ⟨s', h3, h4⟩ := HK (n := n) (s := s) (by omega)
 refine ⟨by simp; omega, fun d hd => ?_, s', by rw [tG, h1]; exact h3, by dsimp only; omega⟩
 rcases cL.mp hd with hd | hd
 ·exact ok d hd
 ·rw [(List.mem_replicate.mp hd).2]; trivial
theorem UU {N : Nat} {m : Lm} {f : Bool} {td : List LT} (b : Bal N m) (h : nest m.todo = (if f then 1 else 0) + nest td) : ({ m with deeds := m.deeds ++ (if f then [.cl] else []), todo := td } : Lm) |> Bal N := by
 cases f with
 | true => exact wF (n := 1) b h
 | false => exact wF (n := 0) b h
theorem OR {N : Nat} {m : Lm} {f : Bool} {td : List LT} (b : Bal N m) (h : nest td = nest m.todo + (if f then 1 else 0)) : ({ m with deeds := m.deeds ++ (if f then [.op] else []), todo := td } : Lm) |> Bal (N + 2) := by
 obtain ⟨len, ok, s, h1, h2⟩ := b;cases f with
 | true =>
  refine ⟨by simp at h ⊢; omega, fun d hd => ?_, ⟨unitM, s.m :: s.stk⟩, by rw [tG, h1]; rfl, by simp at h ⊢; omega⟩
  rcases cL.mp hd with hd | hd
  ·exact ok d hd
  ·rw [bC.mp hd]; trivial
 | false => exact ⟨by simp at h ⊢; omega, by simpa using ok, s, by simpa using h1, by simp at h ⊢; omega⟩
theorem Bal.le {N M : Nat} {m : Lm} (b : Bal N m) (h : N <= M) : Bal M m := ⟨by have := b.len; omega, b.ok, b.nest⟩
theorem zU {N : Nat} {m m' : Lm} (b : Bal N m) (h1 : m'.deeds = m.deeds) (h2 : nest m'.todo = nest m.todo) : Bal N m' := ⟨by rw [h1, h2]; exact b.len, by rw [h1]; exact b.ok, by
 obtain ⟨s, h3, h4⟩ := b.nest;exact ⟨s, by rw [h1]; exact h3, by rw [h2]; exact h4⟩⟩
theorem OQ {N : Nat} {bs : List (List Stt)} {many : Int} {m m' : Lm} {t : LT} {r blk : List LT} (ht : t.Ok many) (b : Bal N m) (e : m.todo = t :: r) (h : bZ bs t { m with todo := r } = .ok blk m') : Bal (N + 2) { m' with todo := blk ++ m'.todo } := by
 cases t with
 | shut =>
  cases h;refine Bal.le (N := N) ?_ (by omega)
  exact wF (n := 1) (td := r) b (by rw [e, nest]; omega)
 | out c w =>
  unfold bZ at h;dsimp only at h;split at h
  ·cases h
   have := UU (f := c.2.1) (td := gM (if w = 0 then c.2.2.1 else c.2.2.2) ++ r) b (by rw [e, nest, nM]; omega)
   refine Bal.le (N := N) ?_ (by omega)
   exact zU this rfl rfl
  ·cases h
 | st s =>
  cases s with
  | bad => cases h
  | odd x => cases h
  | cmd c =>
   cases h;obtain ⟨len, ok, s, h1, h2⟩ := b;rw [e, nest] at len;refine ⟨by simp; omega, fun d hd => ?_, ⟨qK s.m c.mat, s.stk⟩, by rw [tG, h1]; rfl, by rw [e, nest] at h2; exact h2⟩
   rcases cL.mp hd with hd | hd
   ·exact ok d hd
   ·rw [bC.mp hd]; exact SG.cmd ht
  | keep b' =>
   cases h;have := OR (f := true) (td := gM b' ++ [.shut] ++ r) b (by rw [e, dG, nM]; simp [nest])
   exact this
  | either x y =>
   unfold bZ at h;dsimp only at h;split at h
   ·cases h
   ·rename_i q
    cases h;obtain ⟨h1, h2, _⟩ := oN q;refine Bal.le (N := N) ?_ (by omega)
    exact zU b h2 (by dsimp only; rw [nM, h1, e, nest])
  | again b' =>
   unfold bZ at h;dsimp only at h;split at h
   ·cases h
   ·rename_i q
    cases h;obtain ⟨h1, h2, _⟩ := oN q;refine Bal.le (N := N) (zU b h2 ?_) (by omega)
    dsimp only;rw [h1, e];split
    ·rfl
    ·rw [dG, nM]; rfl
  | call g f x y =>
   unfold bZ at h;dsimp only at h;split at h
   ·cases h
   ·split at h
    ·rename_i z hz
     cases h;have := OR (f := f) (td := gM z ++ [.out (g, f, x, y) 0] ++ r) b (by rw [e, dG, nM]; simp [nest])
     exact zU this rfl rfl
    ·cases h
  | fin w =>
   unfold bZ at h;dsimp only at h;split at h
   ·rename_i ds c r' q
    cases h;obtain ⟨h1, h2⟩ := Ce q;rw [h1];refine Bal.le (N := N) ?_ (by omega)
    exact wF (n := ds.length) (td := [.out c w] ++ r') b (by rw [e]; simp only [iF, dR, nest]; exact h2)
   ·cases h
theorem J3 {bs : List (List Stt)} {many : Int} (hG : ∀ b ∈ bs, BG many b) : ∀ (k : Nat) (m : Lm) (N : Nat), m.Inv many k -> Bal N m -> ∀ m', cO bs k m = .fin m' -> Bal (N + 2 * k) m' /\ m'.Inv many 0 /\ m'.todo = []
 | 0, m, N, I, b, m', h => by
  unfold cO at h;split at h
  ·cases h; exact ⟨b, I, by assumption⟩
  ·cases h
 | k + 1, m, N, I, b, m', h => by
  unfold cO at h;split at h
  ·rename_i q
   cases h;exact ⟨b.le (by omega), ⟨I.T, I.bit, I.t, by have := I.b; omega, by have := I.o; omega, by have := I.d; omega⟩, q⟩
  ·rename_i t r q
   split at h
   ·rename_i q2
    have := J3 hG k _ (N + 2) (gA hG (I.pop q).1 (I.pop q).2 q2) (OQ (I.pop q).2 b q q2) _ h;exact ⟨this.1.le (by omega), this.2⟩
   ·split at h <;> cases h
   ·cases h
theorem Good2.bg {bs : List (List Stt)} (G : Good2 bs) : ∀ b ∈ bs, BG (bs.length : Int) b := fun b hb => by
 obtain ⟨h1, h2, h3, h4⟩ := G.gd b hb;exact ⟨h2, fun s hs => ⟨3, by omega, II h1 s hs, cC (h4 s hs) (by decide), lb_S (h4 s hs)⟩⟩
structure Ran (N : Nat) (m : Lm) : Prop where
 ok : ∀ d ∈ m.deeds, d.Ok
 len : m.deeds.length <= N
 mat : ∃ s, kL m.deeds ⟨unitM, []⟩ = some s /\ s.stk = []
 bit : ∀ b ∈ m.bits, b = 0 \/ b = 1
 bits : m.bits.length < 90000
 tk : m.taken <= m.bits.length
def Says (N : Nat) (bs : List (List Stt)) (p : Nat) : LF -> Prop
 | .fin m => Ran N m /\ ∀ S, LS S -> dB [.dat (gB bs), .dat (.int (p : Int)), .dat (.lst (m.bits.map D.int))] S = if m.taken < m.bits.length then .err (uZ (m.taken : Int)) S else .ok (.dat (.tup [.int m.way, .lst (m.deeds.map Deed.d)])) S
 | .never m => ∀ S, LS S -> dB [.dat (gB bs), .dat (.int (p : Int)), .dat (.lst (m.bits.map D.int))] S = .err (uZ (-2)) S
 | .short m => ∀ S, LS S -> dB [.dat (gB bs), .dat (.int (p : Int)), .dat (.lst (m.bits.map D.int))] S = .err (uZ (m.bits.length : Int)) S
 | .long _ => True
 | .no _ => False
theorem Ran.le {N M : Nat} {m : Lm} (h : Ran N m) (k : N <= M) : Ran M m := ⟨h.ok, cC h.len k, h.mat, h.bit, h.bits, h.tk⟩
theorem Says.le {N M : Nat} {bs : List (List Stt)} {p : Nat} {x : LF} (h : Says N bs p x) (k : N <= M) : Says M bs p x := by
 cases x with
 | fin m => exact ⟨h.1.le k, h.2⟩
 | _ => exact h
theorem J2 {bs : List (List Stt)} {many : Int} (hG : ∀ b ∈ bs, BG many b) : ∀ (k : Nat) (m : Lm), m.Inv many k -> ∀ b ∈ (cO bs k m).bits, b = 0 \/ b = 1
 | 0, m, I => by
  unfold cO
  split <;> exact I.bit
 | k + 1, m, I => by
  unfold cO;split
  ·exact I.bit
  ·rename_i t r q
   split
   ·rename_i q2
    exact J2 hG k _ (gA hG (I.pop q).1 (I.pop q).2 q2)
   ·rename_i q2
    have := G8 q2;subst this
    split <;> exact I.bit
   ·exact I.bit
theorem MP {bs : List (List Stt)} {p ex K : Nat} {bits : List Int} (G : Good2 bs) (hp : p < bs.length) (hb : ∀ b ∈ bits, b = 0 \/ b = 1) (hl : bits.length < 40000) (hK : K <= 20000) :
  (∀ m, cO bs (K + 1) (eW p bits ex) ≠ .no m) /\ Says (2 * K) bs p (cO bs (K + 1) (eW p bits ex)) := by
 have hG := G.bg;have h3 := G.l3;obtain ⟨b, hpb⟩ : ∃ b, bs[p]? = some b := ⟨bs[p], cJ hp⟩;have I := Do (ex := ex) (many := (bs.length : Int)) (p := p) (k := K + 1) (by omega) hb hl (by omega)
 have tq : bZ bs (.st (.call (p : Int) false [] [])) { (eW p bits ex) with todo := [] } = .ok (gM b ++ [.out ((p : Int), false, [], []) 0]) { (eW p bits ex) with todo := [], opens := [(p, 0)] } := by
  unfold bZ;dsimp only;rw [tO, hpb];rfl
 have I1 := gA hG (I.pop rfl).1 (I.pop rfl).2 tq;have hlr : cO bs (K + 1) (eW p bits ex) = cO bs K { (eW p bits ex) with todo := (gM b ++ [.out ((p : Int), false, [], []) 0]) ++ [], opens := [(p, 0)] } := by
  rw [cO]
  show (match bZ bs (.st (.call (p : Int) false [] [])) { (eW p bits ex) with todo := [] } with
   | .ok blk m' => cO bs K { m' with todo := blk ++ m'.todo }
   | .non m' => if isCall (.st (.call (p : Int) false [] [])) = true then .never m' else .short m'
   | .no => .no (eW p bits ex)) = _
  rw [tq]
 have S1 : Sim bs (cO bs (K + 1) (eW p bits ex)).bits p { (eW p bits ex) with todo := (gM b ++ [.out ((p : Int), false, [], []) 0]) ++ [], opens := [(p, 0)] } (startM bs (cO bs (K + 1) (eW p bits ex)).bits p b) := by
  refine ⟨rfl, rfl, rfl, rfl, ?_, rfl, ?_, ?_, ?_, ?_, .inl ⟨rfl, rfl⟩⟩
  ·simp [startM, Mc.enter, wM, flat, kX]
  ·rw [Ci hp]
   simp [startM, Mc.enter, wM, uC]
   congr 1
   apply gI
   intro i
   by_cases hi : i < bs.length <;> simp [hi]
  ·intro o ho
   rw [bC.mp ho];exact hp
  ·exact List.pairwise_singleton _ _
  ·intro o ho
   rw [bC.mp ho];exact iL _
 obtain ⟨j, hj, he⟩ := P7 rfl hG K _ _ S1 I1 (by rw [<- hlr])
 rw [<- hlr] at he;have hj' : j <= 100000 := by
  have : (startM bs (cO bs (K + 1) (eW p bits ex)).bits p b).stk.length = 2 := rfl;omega
 have hbit := J2 hG (K + 1) _ I;have B1 : Bal 0 { (eW p bits ex) with todo := (gM b ++ [.out ((p : Int), false, [], []) 0]) ++ [], opens := [(p, 0)] } := ⟨by dsimp only; rw [cP, nM]; exact bV _, fun d hd => (by cases hd), ⟨unitM, []⟩, rfl, by dsimp only; rw [cP, nM]; rfl⟩
 have hbal := J3 hG K _ 0 I1 B1;rw [<- hlr] at hbal;have xq := fun (S : aO) (ls : LS S) h => Qq (S0 := S) (k := j) (bits := (cO bs (K + 1) (eW p bits ex)).bits) ls G hpb hbit hj' h
 have key : (∀ m, cO bs (K + 1) (eW p bits ex) ≠ .no m) /\ Says (2 * K) bs p (cO bs (K + 1) (eW p bits ex)) := by
  revert he xq hbit hbal
  generalize cO bs (K + 1) (eW p bits ex) = x;intro he hbit hbal xq;cases x with
  | no m => exact he.elim
  | long m => exact ⟨fun m h => (by cases h), trivial⟩
  | never m =>
   obtain ⟨c', e⟩ := he;refine ⟨fun m h => (by cases h), fun S ls => ?_⟩
   have := xq S ls (by simp only [LF.bits] at e ⊢; rw [e]; intro h; cases h)
   simp only [LF.bits] at this e;rw [e] at this;exact this
  | short m =>
   obtain ⟨c', e⟩ := he;refine ⟨fun m h => (by cases h), fun S ls => ?_⟩
   have := xq S ls (by simp only [LF.bits] at e ⊢; rw [e]; intro h; cases h)
   simp only [LF.bits] at this e;rw [e] at this;exact this
  | fin m =>
   obtain ⟨c', e, e1, e2, e3⟩ := he;obtain ⟨b1, i1, t1⟩ := hbal _ rfl;obtain ⟨s, hs1, hs2⟩ := b1.nest;refine ⟨fun m h => (by cases h), ⟨b1.ok, by have := b1.len; omega, ⟨s, hs1, by rw [t1] at hs2; exact List.length_eq_zero_iff.mp hs2⟩, hbit, by have := i1.b; simp at this; omega, i1.t⟩, fun S ls => ?_⟩
   have h := xq S ls (by simp only [LF.bits] at e ⊢; rw [e]; intro h; cases h)
   simp only [LF.bits] at h e;rw [e] at h;rw [h];have hb' := (C4 e).1;unfold OV;dsimp only;rw [hb', e1, e2, e3];rfl
 exact key
theorem DP {S : aO} {bs : List (List Stt)} {p ex : Nat} {bits : List Int} (ls : LS S) (G : Good2 bs) (hp : p < bs.length) (hb : ∀ b ∈ bits, b = 0 \/ b = 1) (hl : bits.length < 40000) :
  vY [.dat (.lst (bls bs)), .dat (.int (p : Int)), .dat (.lst (bits.map D.int)), .dat (.int (ex : Int))] S = jA (cO bs 3000 (eW p bits ex)) S /\ Says 6000 bs p (cO bs 3000 (eW p bits ex)) := by
 have h3 := G.l3;have key := MP (ex := ex) (K := 2999) G hp hb hl (by decide)
 exact ⟨Pu ls (by omega) G.bg (by omega) hb hl key.1, key.2.le (by decide)⟩
mutual
theorem JA : ∀ (d : D) (p : PyData), d.Pl -> d.py = some p -> PyData.eqv p p = true
 | .non, p, _, e => by cases e; rfl
 | .bl b, p, _, e => by cases e; cases b <;> rfl
 | .int i, p, _, e => by cases e; simp [PyData.eqv]
 | .str x, p, _, e => by cases e; simp [PyData.eqv]
 | .lst xs, p, h, e => by
  simp only [D.py] at e;cases q : D.pys xs with
  | none => rw [q] at e; cases e
  | some ps => rw [q] at e; cases e; simp only [PyData.eqv]; exact C7 xs ps h.2 q
 | .tup xs, p, h, e => by
  simp only [D.py] at e;cases q : D.pys xs with
  | none => rw [q] at e; cases e
  | some ps => rw [q] at e; cases e; simp only [PyData.eqv]; exact C7 xs ps h.2 q
 | .ins _ _ _, p, h, e => h.elim
 | .dct, p, h, e => h.elim
 | .opq _, p, h, e => h.elim
theorem C7 : ∀ (ds : List D) (ps : List PyData), D.Pls ds -> D.pys ds = some ps -> PyData.eqvAll ps ps = true
 | [], ps, _, e => by cases e; rfl
 | d :: r, ps, h, e => by
  simp only [D.pys] at e;cases q1 : D.py d with
  | none => rw [q1] at e; cases e
  | some p =>
   cases q2 : D.pys r with
   | none => rw [q1, q2] at e; cases e
   | some ps' =>
    rw [q1, q2] at e;cases e;simp only [PyData.eqvAll, JA d p h.1 q1, C7 r ps' h.2 q2, Ha]
end
theorem Dc {xs : List D} {S : aO} (h : (D.tup xs).Pl) (hd : (D.tup xs).ht <= 64) : FN (.dat (.tup xs)) (.dat (.tup xs)) S = .ok (.dat (.bl false)) S := by
 obtain ⟨p, e, _, _⟩ := JB _ h;rw [Qp, e];dsimp only;rw [if_pos (by unfold RU; rw [Kc h hd e]; rfl), JA _ _ h e]
 rfl
theorem JR {p : Nat} {a1 : Option Vl} : ∀ (ds : List D) (S : aO) (ks : List Int), PoolAt S p ks ->
  ∃ (xs : List Int) (ks' : List Int), iZ (.nm 2) fX (aY bY (aB (aC 0) (aB (mC (.int 2)) aK))) [some (.cel p), a1, none] ds S = .ok (xs.map D.int) (S.set p (PL ks')) /\ xs.length = ds.length /\ (∀ x ∈ xs, x = 0 \/ x = 1) /\ ks'.length = ks.length
 | [], S, ks, h => ⟨[], ks, by rw [DV h]; rfl, rfl, (fun x hx => by cases hx), rfl⟩
 | d :: r, S, ks, h => by
  obtain ⟨x, k1, e1, h0, h1, l1⟩ := fL h (k := 2) (by decide) (by decide)
  obtain ⟨xs, k2, e2, hl, hxs, l2⟩ := JR (a1 := a1) r _ _ (h.next l1);rw [eI] at e2;refine ⟨x :: xs, k2, ?_, by simp [hl], fun y hy => ?_, by omega⟩
  ·rw [iZ]
   simp only [oG, Ja, if_true];simp! [e1];rw [e2];rfl
  ·rcases bM.mp hy with rfl | hy
   ·omega
   ·exact hxs y hy
theorem RA {S : aO} {p : Nat} {ks : List Int} {many : Int} (hP : PoolAt S p ks) (h0 : 0 <= many) (h1 : many <= 100) : ∃ (bits : List Int) (ks' : List Int), yV [.cel p, .dat (.int many)] S = .ok (.dat (.lst (bits.map D.int))) (S.set p (PL ks')) /\ (∀ b ∈ bits, b = 0 \/ b = 1) /\ (bits.length : Int) <= many /\ ks'.length = ks.length := by
 obtain ⟨d, k1, e1, d0, d1, l1⟩ := fL hP (k := many + 1) (by omega) (by omega)
 obtain ⟨bits, k2, e2, hl, hb, l2⟩ := JR (a1 := some (.dat (.int many))) (gH 0 d.toNat) _ _ (hP.next l1);have hl' : bits.length = d.toNat := by rw [hl]; simp [gH]
 rw [eI] at e2;rw [Og];unfold A4;have e3 : xH false (.nm 2) fX (aY bY (aB (aC 0) (aB (mC (.int 2)) aK))) [some (.cel p), some (.dat (.int many)), none] [2] (gH 0 d.toNat) (S.set p (PL k1)) = .ok (.dat (.lst (bits.map D.int))) (S.set p (PL k2)) := by
  unfold xH;rw [if_pos (sz (by simp [gH]; omega)), show wipeE [some (Vl.cel p), some (.dat (.int many)), none] [2] = [some (Vl.cel p), some (.dat (.int many)), none] from rfl, e2]
  rfl
 simp! [e1, jK (show -(2 ^ 62) <= d by omega) (show d < 2 ^ 62 by omega), e3]
 exact ⟨bits, k2, rfl, hb, by omega, by omega⟩
theorem Hj {S : aO} {p0 p ex : Nat} {ks : List Int} {bs : List (List Stt)} {many : Int} (hP : PoolAt S p0 ks) (ls : LS S) (G : Good2 bs) (hp : p < bs.length) (h0 : 0 <= many) (h1 : many <= 100) :
  ∃ (bits : List Int) (ks' : List Int), kR [.cel p0, .dat (.lst (bls bs)), .dat (.int (p : Int)), .dat (.int many), .dat (.int (ex : Int))] S = jA (cO bs 3000 (eW p bits ex)) (S.set p0 (PL ks')) /\ Says 6000 bs p (cO bs 3000 (eW p bits ex)) /\ (∀ b ∈ bits, b = 0 \/ b = 1) /\ (bits.length : Int) <= many /\ ks'.length = ks.length := by
 obtain ⟨bits, k1, e1, hb, hl, l1⟩ := RA hP h0 h1;have ls1 : LS (S.set p0 (PL k1)) := ls.set;obtain ⟨r1, s1⟩ := DP (ex := ex) ls1 G hp hb (by omega)
 rw [HX];unfold qN;cases q : cO bs 3000 (eW p bits ex) with
 | no m => rw [q] at s1; exact s1.elim
 | never m =>
  rw [q] at s1 r1;refine ⟨bits, k1, ?_, by rw [q]; exact s1, hb, hl, l1⟩
  simp only [jA, lU] at r1;simp! [e1, r1, cM];rw [q];rfl
 | short m =>
  rw [q] at s1 r1;refine ⟨bits, k1, ?_, by rw [q]; exact s1, hb, hl, l1⟩
  simp only [jA, lU] at r1;simp! [e1, r1, cM];rw [q];rfl
 | long m =>
  rw [q] at s1 r1;refine ⟨bits, k1, ?_, by rw [q]; exact s1, hb, hl, l1⟩
  simp only [jA] at r1;simp! [e1, r1, cM];rw [q];rfl
 | fin m =>
  rw [q] at s1 r1
  by_cases ht : m.taken < m.bits.length
  ·have hb2 : ∀ b ∈ bits.take m.taken, b = 0 \/ b = 1 := fun b h => hb b (xU h)
   obtain ⟨r2, s2⟩ := DP (ex := ex) ls1 G hp hb2 (by simp; omega)
   refine ⟨bits.take m.taken, k1, ?_, s2, hb2, by simp; omega, l1⟩
   simp only [jA, lU, if_pos ht] at r1;rw [Hb] at r2;simp! [e1, r1, cM, fZ, R1, r2];cases q2 : cO bs 3000 (eW p (bits.take m.taken) ex) with
   | no m => rw [q2] at s2; exact s2.elim
   | fin m => unfold jA; dsimp only; split <;> (simp! [if_true]; rfl)
   | _ => unfold jA; simp! [if_true]; rfl
  ·refine ⟨bits, k1, ?_, by rw [q]; exact s1, hb, hl, l1⟩
   simp only [jA, lU, if_neg ht] at r1;simp! [e1, r1, cM];rw [q];simp only [jA, if_neg ht];rfl
theorem Gp {N : Nat} {bs : List (List Stt)} {p : Nat} {x : LF} (h : Says N bs p x) : (∃ (w : Str) (a b c : D), (∀ S, jA x S = .ok (.dat (.tup [.str w, a, b, c])) S) /\ decide (w = ("run" : Str)) = false) \/
  (∃ m, (∀ S, jA x S = .ok (.dat (lU "run" m.way m)) S) /\ Ran N m /\ x = .fin m /\ m.taken = m.bits.length /\ ∀ S, LS S -> dB [.dat (gB bs), .dat (.int (p : Int)), .dat (.lst (m.bits.map D.int))] S = .ok (.dat (.tup [.int m.way, .lst (m.deeds.map Deed.d)])) S) := by
 cases x with
 | no m => exact h.elim
 | never m => exact .inl ⟨"never", _, _, _, fun _ => rfl, by decide⟩
 | short m => exact .inl ⟨"short", _, _, _, fun _ => rfl, by decide⟩
 | long m => exact .inl ⟨"long", _, _, _, fun _ => rfl, by decide⟩
 | fin m =>
  by_cases ht : m.taken < m.bits.length
  ·exact .inl ⟨"rest", _, _, _, fun S => by simp only [jA, if_pos ht, lU]; rfl, by decide⟩
  ·refine .inr ⟨m, fun S => by simp only [jA, if_neg ht], h.1, rfl, by have := h.1.tk; omega, fun S ls => ?_⟩
   rw [h.2 S ls, if_neg ht]
structure RunOf (N : Nat) (m : Lm) (p' : Pen -> Ps) (M : List Int) : Prop where
 ok : ∀ d ∈ m.deeds, d.Ok
 len : m.deeds.length <= N
 big : N <= 90000
 mat : ∃ s, kL m.deeds ⟨unitM, []⟩ = some s /\ s.stk = [] /\ s.m = M
 pens : ∀ z, kK m.deeds ⟨[], z, []⟩ = some (p' z)
 of : MatOf (fun z => (p' z).z) M
 num : ∀ z, (p' z).pens.length = rF m.deeds
theorem Ran.all {N : Nat} {m : Lm} (R : Ran N m) (hN : N <= 90000 := by decide) : ∃ p' M, RunOf N m p' M := by
 obtain ⟨s, hm, hk⟩ := R.mat;obtain ⟨p', hp, hM, hn⟩ := LH R.ok hm hk;exact ⟨p', s.m, R.ok, R.len, hN, ⟨s, hm, hk, rfl⟩, hp, hM, hn⟩
section
variable {N : Nat} {m : Lm} {p' : Pen -> Ps} {M : List Int} {S : aO} {x0 x1 x2 : Vl}
theorem RunOf.ran (R : RunOf N m p' M) (ls : LS S) (ex : dB [x0, x1, x2] S = .ok (.dat (.tup [.int m.way, .lst (m.deeds.map Deed.d)])) S) (z : Pen) : GB [x0, x1, x2, .dat z.d] S = .ok (.dat (.tup [.int m.way, (p' z).z.d, .int (rF m.deeds : Int)])) S := by
 have := R.len;have := R.big;rw [SY (z := z) ls ex R.ok (R.pens z) (by omega), R.num]
end
theorem BU {k : List Int} : LS [PL k] := fun c hc n => by rw [bC.mp hc]; rfl
theorem Pn {S : aO} {c : Int} {n : Nat} (hc : 0 <= c) (h : c < 1000) : (∃ k : Nat, Dz (.dat (.int c)) (.dat (.int (n : Int))) S = .ok (.dat (.int (k : Int))) S /\ ∀ S, Ar (.dat (.int (k : Int))) S = .ok (gH 0 k) S) := by
 refine ⟨min c.toNat n, ?_, fun S => ?_⟩
 ·rw [Nd]
  congr 3
  split <;> omega
 ·rw [jK (by omega) (by omega)]
  rfl
theorem R5 {S : aO} {ks : List Int} {p : Nat} (h : PoolAt S p ks) : eT (.cel p) S = .ok (.dat (.int (ks.length : Int))) S := by rw [nW h.1, aN]
theorem LS.one {S : aO} {k : List Int} (h : LS S) : LS (S.set 0 (PL k)) := h.set
theorem Kn {bs : List (List Stt)} {k : Nat} {m m1 : Lm} {t : LT} {r : List LT} (e : m.todo = t :: r) (h : cO bs k m = .fin m1) : ∃ j blk m', k = j + 1 /\ bZ bs t { m with todo := r } = .ok blk m' /\ cO bs j { m' with todo := blk ++ m'.todo } = .fin m1 := by
 cases k with
 | zero =>
  unfold cO at h;rw [e] at h;simp at h
 | succ k =>
  rw [cO, e] at h;dsimp only at h;split at h
  ·rename_i q; exact ⟨k, _, _, rfl, q, h⟩
  ·split at h <;> cases h
  ·cases h
theorem Mz {bs : List (List Stt)} {k : Nat} {m : Lm} (e : m.todo = []) : cO bs k m = .fin m := by
 cases k with
 | zero => unfold cO; rw [if_pos e]
 | succ k => unfold cO; rw [e]
mutual
def woS (q : Cmd -> Bool) : Stt -> Stt
 | .keep b => .keep (Ls q b)
 | .again b => .again (Ls q b)
 | .either a b => .either (Ls q a) (Ls q b)
 | .call g f a b => .call g f (Ls q a) (Ls q b)
 | s => s
def Ls (q : Cmd -> Bool) : List Stt -> List Stt
 | [] => []
 | .cmd c :: r => if q c then Ls q r else .cmd c :: Ls q r
 | s :: r => woS q s :: Ls q r
end
def woC (q : Cmd -> Bool) (c : eN) : eN := (c.1, c.2.1, Ls q c.2.2.1, Ls q c.2.2.2)
def DC (q : Cmd -> Bool) : List LT -> List LT
 | [] => []
 | .st (.cmd c) :: r => if q c then DC q r else .st (.cmd c) :: DC q r
 | .st s :: r => .st (woS q s) :: DC q r
 | .shut :: r => .shut :: DC q r
 | .out c w :: r => .out (woC q c) w :: DC q r
theorem Os {q : Cmd -> Bool} {c : Cmd} {r : List LT} : DC q (.st (.cmd c) :: r) = if q c then DC q r else .st (.cmd c) :: DC q r := by rw [DC]
theorem SF {q : Cmd -> Bool} {s : Stt} {r : List LT} (h : ∀ c, s ≠ .cmd c) : DC q (.st s :: r) = .st (woS q s) :: DC q r := by
 cases s with
 | cmd c => exact absurd rfl (h c)
 | _ => rw [DC]; intro c e; cases e
theorem Lr {q : Cmd -> Bool} {r : List LT} : DC q (.shut :: r) = .shut :: DC q r := by rw [DC]
theorem Oq {q : Cmd -> Bool} {c : eN} {w : Int} {r : List LT} : DC q (.out c w :: r) = .out (woC q c) w :: DC q r := by rw [DC]
theorem OH {q : Cmd -> Bool} : ∀ {ts : List LT} {ds : List Deed} {c : eN} {r : List LT}, eU ts = some (ds, c, r) -> eU (DC q ts) = some (ds, woC q c, DC q r)
 | [], ds, c, r, h => by cases h
 | .out c' w :: t, ds, c, r, h => by cases h; rw [Oq]; rfl
 | .shut :: t, ds, c, r, h => by
  simp only [eU] at h;cases e : eU t with
  | none => rw [e] at h; cases h
  | some x =>
   obtain ⟨ds', c', q'⟩ := x;rw [e] at h;cases h;rw [Lr, eU, OH e]
 | .st s :: t, ds, c, r, h => by
  have ih := OH (q := q) (ts := t) (r := r) (c := c) (ds := ds) h
  by_cases hc : ∃ c, s = .cmd c
  ·obtain ⟨x, rfl⟩ := hc
   rw [Os];split
   ·exact ih
   ·exact ih
  ·rw [SF (fun c e => hc ⟨c, e⟩)]
   exact ih
theorem F7 : ∀ {ts : List LT} {ds : List Deed} {c : eN} {r : List LT}, eU ts = some (ds, c, r) -> (∃ w, LT.out c w ∈ ts) /\ (∀ t ∈ r, t ∈ ts) /\ ∀ d ∈ ds, d = .cl
 | [], ds, c, r, h => by cases h
 | .out c' w :: t, ds, c, r, h => by cases h; exact ⟨⟨w, aT ..⟩, fun t ht => aJ _ ht, fun d hd => by cases hd⟩
 | .shut :: t, ds, c, r, h => by
  simp only [eU] at h;cases e : eU t with
  | none => rw [e] at h; cases h
  | some x =>
   obtain ⟨ds', c', q'⟩ := x;rw [e] at h;cases h;obtain ⟨⟨w, h1⟩, h2, h3⟩ := F7 e;refine ⟨⟨w, aJ _ h1⟩, fun t ht => aJ _ (h2 t ht), fun d hd => ?_⟩
   rcases bM.mp hd with rfl | hd
   ·rfl
   ·exact h3 d hd
 | .st s :: t, ds, c, r, h => by
  obtain ⟨⟨w, h1⟩, h2, h3⟩ := F7 (ts := t) h;exact ⟨⟨w, aJ _ h1⟩, fun t ht => aJ _ (h2 t ht), h3⟩
mutual
def G1 : Stt -> Stt
 | .keep b => .either (tQ b) []
 | .again b => .again (tQ b)
 | .either a b => .either (tQ a) (tQ b)
 | .call g f a b => .call g false (tQ a) (tQ b)
 | .cmd c => .cmd c
 | .fin w => .fin w
 | .bad => .bad
 | .odd x => .odd x
def tQ : List Stt -> List Stt
 | [] => []
 | s :: r => G1 s :: tQ r
end
mutual
theorem G0 : ∀ {s : Stt}, (G1 s).size = s.size
 | .cmd c => rfl
 | .fin w => rfl
 | .bad => rfl
 | .odd x => rfl
 | .keep b => by simp only [G1, Stt.size, bP, nK (l := b), Nat.add_zero]
 | .again b => by simp only [G1, Stt.size, nK (l := b)]
 | .either a b => by simp only [G1, Stt.size, nK (l := a), nK (l := b)]
 | .call g f a b => by simp only [G1, Stt.size, nK (l := a), nK (l := b)]
theorem nK : ∀ {l : List Stt}, bP (tQ l) = bP l
 | [] => rfl
 | s :: r => by simp only [tQ, bP, G0 (s := s), nK (l := r)]
end
theorem JG : ∀ {l : List Stt}, (tQ l).length = l.length
 | [] => rfl
 | s :: r => by simp only [tQ, aR, JG (l := r)]
mutual
theorem Sh {many : Int} : ∀ {s : Stt} {n : Nat}, s.Gd many n -> (G1 s).Gd many n
 | .cmd c, n, h => h
 | .fin w, n, h => h
 | .bad, n, h => h
 | .odd x, n, h => h
 | .keep b, n, h => ⟨h.1, uW h.2, trivial⟩
 | .again b, n, h => ⟨h.1, uW h.2⟩
 | .either a b, n, h => ⟨h.1, uW h.2.1, uW h.2.2⟩
 | .call g f a b, n, h => ⟨h.1, uW h.2.1, uW h.2.2⟩
theorem uW {many : Int} : ∀ {l : List Stt} {n : Nat}, GdL many l n -> GdL many (tQ l) n
 | [], n, h => trivial
 | s :: r, n, h => ⟨Sh h.1, uW h.2⟩
end
theorem JF : ∀ {l : List Stt} {s : Stt}, s ∈ tQ l -> ∃ t ∈ l, s = G1 t
 | x :: r, s, h => by
  rcases bM.mp h with rfl | h
  ·exact ⟨x, aT .., rfl⟩
  ·obtain ⟨t, h1, h2⟩ := JF h
   exact ⟨t, aJ _ h1, h2⟩
 | [], s, h => by cases h
theorem Pg {bs : List (List Stt)} (G : Good2 bs) : Good2 (bs.map tQ) := ⟨by simpa using G.l1, by simpa using G.l3, fun b hb => by
 obtain ⟨b0, h0, rfl⟩ := iM.mp hb;obtain ⟨h1, h2, h3, h4⟩ := G.gd b0 h0;refine ⟨by rw [aN]; exact uW h1, by rw [JG]; exact h2, by rw [nK]; exact h3, fun s hs => ?_⟩
 obtain ⟨t, h5, rfl⟩ := JF hs;rw [G0];exact h4 t h5⟩
mutual
def Stt.pu : Stt -> Prop
 | .keep _ => False
 | .again b => Fx b
 | .either a b => Fx a /\ Fx b
 | .call _ f a b => f = false /\ Fx a /\ Fx b
 | _ => True
def Fx : List Stt -> Prop
 | [] => True
 | s :: r => s.pu /\ Fx r
end
mutual
theorem Sf : ∀ {s : Stt}, (G1 s).pu
 | .cmd c => trivial
 | .fin w => trivial
 | .bad => trivial
 | .odd x => trivial
 | .keep b => ⟨uV, trivial⟩
 | .again b => uV (l := b)
 | .either a b => ⟨uV, uV⟩
 | .call g f a b => ⟨rfl, uV, uV⟩
theorem uV : ∀ {l : List Stt}, Fx (tQ l)
 | [] => trivial
 | s :: r => ⟨Sf, uV⟩
end
def LT.pu : LT -> Prop
 | .st s => s.pu
 | .shut => False
 | .out c _ => c.2.1 = false /\ Fx c.2.2.1 /\ Fx c.2.2.2
theorem J8 : ∀ {l : List Stt}, Fx l -> ∀ s ∈ l, s.pu
 | x :: r, h, s, hs => by
  rcases bM.mp hs with rfl | hs
  ·exact h.1
  ·exact J8 h.2 s hs
theorem Eg {l : List Stt} (h : Fx l) : ∀ t ∈ gM l, t.pu := fun t ht => by
 obtain ⟨s, h1, rfl⟩ := iM.mp ht;exact J8 h s h1
def Deed.pu : Deed -> Prop
 | .cmd _ => True
 | _ => False
structure PuM (m : Lm) : Prop where
 t : ∀ t ∈ m.todo, t.pu
 d : ∀ d ∈ m.deeds, d.pu
theorem OI : ∀ {ts : List LT} {ds : List Deed} {c : eN} {r : List LT}, (∀ t ∈ ts, t.pu) -> eU ts = some (ds, c, r) -> ds = []
 | [], ds, c, r, hp, h => by cases h
 | .out c' w :: t, ds, c, r, hp, h => by cases h; rfl
 | .shut :: t, ds, c, r, hp, h => (hp .shut (aT ..)).elim
 | .st s :: t, ds, c, r, hp, h => OI (ts := t) (fun t ht => hp t (aJ _ ht)) h
theorem PZ {bs : List (List Stt)} {m m' : Lm} {t : LT} {blk : List LT} (hb : ∀ b ∈ bs, Fx b) (A : PuM m) (ht : t.pu) (h : bZ bs t m = .ok blk m') : PuM { m' with todo := blk ++ m'.todo } := by
 have app : ∀ {blk ts : List LT}, (∀ t ∈ blk, t.pu) -> (∀ t ∈ ts, t.pu) -> ∀ t ∈ blk ++ ts, t.pu := fun {blk ts} h1 h2 t ht => by
  rcases cL.mp ht with ht | ht
  ·exact h1 t ht
  ·exact h2 t ht
 have dd : ∀ {ds : List Deed}, (∀ d ∈ ds, d.pu) -> ∀ d ∈ m.deeds ++ ds, d.pu := fun {ds} h1 d hd => by
  rcases cL.mp hd with hd | hd
  ·exact A.d d hd
  ·exact h1 d hd
 have opn : ∀ {f : Bool} {x : Deed}, f = false -> ∀ d ∈ (if f then [x] else []), d.pu := fun {f x} hx d hd => by
  subst hx;cases hd
 cases t with
 | shut => exact ht.elim
 | out c w =>
  unfold bZ at h;dsimp only at h;split at h
  ·cases h
   exact ⟨app (Eg (by split; exact ht.2.1; exact ht.2.2)) A.t, dd (opn ht.1)⟩
  ·cases h
 | st s =>
  cases s with
  | bad => cases h
  | odd x => cases h
  | cmd c => cases h; exact ⟨A.t, dd fun d hd => by rw [bC.mp hd]; trivial⟩
  | keep b => exact ht.elim
  | either x y =>
   unfold bZ at h;dsimp only at h;split at h
   ·cases h
   ·rename_i b m3 hq
    cases h;obtain ⟨g1, g2, _⟩ := oN hq;exact ⟨by dsimp only; rw [g1]; exact app (Eg (by split; exact ht.1; exact ht.2)) A.t, by dsimp only; rw [g2]; exact A.d⟩
  | again b' =>
   unfold bZ at h;dsimp only at h;split at h
   ·cases h
   ·rename_i b m3 hq
    cases h;obtain ⟨g1, g2, _⟩ := oN hq;refine ⟨by
     dsimp only;rw [g1];refine app (fun t h => ?_) A.t
     split at h
     ·cases h
     ·rcases cL.mp h with h | h
      ·exact Eg ht t h
      ·rw [bC.mp h]; exact ht, by dsimp only; rw [g2]; exact A.d⟩
  | call g f x y =>
   unfold bZ at h;dsimp only at h;split at h
   ·cases h
   ·split at h
    ·rename_i b hbb
     cases h;refine ⟨app (fun t h => ?_) A.t, dd (opn ht.1)⟩
     rcases cL.mp h with h | h
     ·exact Eg (hb b (bI hbb)) t h
     ·rw [bC.mp h]; exact ht
    ·cases h
  | fin w =>
   unfold bZ at h;dsimp only at h;split at h
   ·rename_i ds c r' hq
    cases h;obtain ⟨⟨w', g1⟩, g2, g3⟩ := F7 hq;refine ⟨app (fun t h => ?_) (fun t h => A.t t (g2 t h)), dd fun d hd => by rw [OI A.t hq] at hd; cases hd⟩
    rw [bC.mp h];have := A.t _ g1;exact this
   ·cases h
theorem MW {bs : List (List Stt)} (hb : ∀ b ∈ bs, Fx b) : ∀ (k : Nat) (m : Lm) {m1 : Lm}, PuM m -> cO bs k m = .fin m1 -> PuM m1
 | k, m, m1, A, h => by
  rcases (show m.todo = [] \/ ∃ t r, m.todo = t :: r by cases m.todo with | nil => exact .inl rfl | cons t r => exact .inr ⟨t, r, rfl⟩) with e | ⟨t, r, e⟩
  ·rw [Mz e] at h
   cases h;exact A
  ·obtain ⟨j', blk, m', rfl, h1, h2⟩ := Kn e h
   exact MW hb j' _ (PZ (m := { m with todo := r }) hb ⟨fun t ht => A.t t (by rw [e]; exact aJ _ ht), A.d⟩ (A.t t (by rw [e]; exact aT ..)) h1) h2
theorem PR {bs : List (List Stt)} {k p ex : Nat} {bits : List Int} {m1 : Lm} (hb : ∀ b ∈ bs, Fx b) (h : cO bs k (eW p bits ex) = .fin m1) : ∀ d ∈ m1.deeds, d.pu := (MW hb k _ ⟨fun t ht => by rw [bC.mp ht]; exact ⟨rfl, trivial, trivial⟩, fun d hd => by cases hd⟩ h).d
theorem J7 : ∀ {ds : List Deed}, (∀ d ∈ ds, d.pu) -> ∃ cs : List Cmd, ds = cs.map Deed.cmd
 | [], _ => ⟨[], rfl⟩
 | .cmd c :: r, h => by
  obtain ⟨cs, e⟩ := J7 (ds := r) fun d hd => h d (aJ _ hd)
  exact ⟨c :: cs, by rw [e]; rfl⟩
 | .op :: r, h => (h .op (aT ..)).elim
 | .cl :: r, h => (h .cl (aT ..)).elim
def scanP : Pen -> List Cmd -> List Pen
 | _, [] => []
 | z, c :: r => c.run z :: scanP (c.run z) r
def tU : Pen -> List Cmd -> Pen
 | z, [] => z
 | z, c :: r => tU (c.run z) r
theorem scan_len : ∀ (cs : List Cmd) (z : Pen), (scanP z cs).length = cs.length
 | [], z => rfl
 | c :: r, z => by simp only [scanP, aR, scan_len r]
theorem CW : ∀ (cs : List Cmd) (s : Ps), kK (cs.map Deed.cmd) s = some ⟨s.pens ++ scanP s.z cs, tU s.z cs, s.stk⟩
 | [], s => by simp [kK, scanP, tU]
 | c :: r, s => by
  rw [aM, kK]
  show kK (r.map Deed.cmd) ⟨s.pens ++ [c.run s.z], c.run s.z, s.stk⟩ = _
  rw [CW r];simp [scanP, tU]
theorem DL : ∀ (cs : List Cmd) (z : Pen), (z :: scanP z cs)[cs.length]? = some (tU z cs)
 | [], z => rfl
 | c :: r, z => by
  show (scanP z (c :: r))[r.length]? = _
  exact DL r (c.run z)
theorem HJ : ∀ cs : List Cmd, rF (cs.map Deed.cmd) = cs.length
 | [] => rfl
 | c :: r => by rw [aM, aR, <- HJ r]; rfl
theorem xF {t : Tg} {m : FS} {d : PH.D} {ds : List PH.D} {ρ ρ1 ρ2 : Ev} {S S2 : aO} (h : oG t (.dat d) ρ = some ρ1) (e : m ρ1 S = .next ρ2 S2) : loop t m (d :: ds) ρ S = loop t m ds ρ2 S2 := by
 rw [loop, h];dsimp only;rw [e]
def isKC : Stt -> Bool
 | .keep _ => true
 | .call .. => true
 | _ => false
theorem sC {s : Stt} {S : aO} (ho : s.isOdd = false) (h1 : isKC s = false) (h2 : isKC s = false) : iG [.dat s.d, .dat (.lst (bls (s.blocks.map tQ)))] S = .ok (.dat (G1 s).d) S := by
 rw [show iG [.dat s.d, .dat (.lst (bls (s.blocks.map tQ)))] S = cE (sA [some (.dat s.d), some (.dat (.lst (bls (s.blocks.map tQ))))] S) from rfl]
 unfold sA;cases s with
 | cmd c => cases c <;> (simp! [Stt.d, Cmd.d, Stt.blocks, bls, bD, cM]; rfl)
 | fin w => simp! [Stt.d, Stt.blocks, bls, bD, cM]; rfl
 | keep b => cases h1
 | again b => simp! [Stt.d, Stt.blocks, bls, aM, bD, cM]; rfl
 | either a b => simp! [Stt.d, Stt.blocks, bls, aM, bD, cM]; rfl
 | call g s a b => cases h1
 | bad => simp! [Stt.d, Stt.blocks, bls, bD, cM]; rfl
 | odd x => cases ho
theorem JE {f : FD} {S : aO} {many : Int} {k : Nat} {a0 : Option Vl} (hf : ∀ (b : List Stt) (S : aO), LS S -> 0 < k -> OkL many b (k - 1) -> f [.dat (.lst (bE b))] S = .ok (.dat (.lst (bE (tQ b)))) S) (ls : LS S) : ∀ (r acc : List Stt), OkL many r k -> acc.length + r.length <= 100 ->
  loop (.nm 2) (sJ f) (bE r) [a0, some (.cel S.length), none, none, none] (S ++ [.lst (bE acc)]) = .next [a0, some (.cel S.length), none, none, none] (S ++ [.lst (bE (acc ++ tQ r))])
 | [], acc, _, _ => by rw [tQ, cP]; rfl
 | s :: r, acc, h, hl => by
  have hno := h.1.1.no;have hi : ∀ {S : aO}, bO (.dat s.d) (.dat (.int 0)) S = .ok (.dat (.str s.word)) S := BV hno;have lsc : LS (S ++ [.lst (bE acc)]) := ls.app;have ih := JE (a0 := a0) (f := f) hf ls r (acc ++ [G1 s]) h.2 (by simp at hl ⊢; omega)
  rw [show acc ++ tQ (s :: r) = acc ++ [G1 s] ++ tQ r by simp [tQ], <- ih]
  rw [bE];have c1 : xH false (.nm 4) fX (aY f (aB (aC 4) aK)) [a0, some (.cel S.length), some (.dat s.d), none, none] [4] (bls s.blocks) (S ++ [.lst (bE acc)]) = .ok (.dat (.lst (bls (s.blocks.map tQ)))) (S ++ [.lst (bE acc)]) := by
   rw [show bls s.blocks = s.blocks.map (fun b => .lst (bE b)) from rfl, iO (g := fun b => .lst (bE (tQ b))) (sz (by have := xN (s := s); omega)) fun b hb => ⟨_, rfl, ?_⟩]
   ·simp [newL, bls]
   ·obtain ⟨h0, h2⟩ := wC h.1.1 b hb
    simp! [hf b _ lsc h0 h2]
  have hln : (bE acc).length < 5000000 := by rw [cV]; simp at hl; omega
  have key : ∀ (b : FE) (ρ : Ev), b ρ (S ++ [.lst (bE acc)]) = .ok (.dat (G1 s).d) (S ++ [.lst (bE acc)]) -> wN b ρ (.cel S.length) (S ++ [.lst (bE acc)]) = .ok (.dat .non) (S ++ [.lst (bE (acc ++ [G1 s]))]) := fun b ρ hb => by
   have := JI (S0 := S) (xs := bE acc) (d := (G1 s).d) (ρ := ρ) (b := b) hln hb;rw [show bE acc ++ [(G1 s).d] = bE (acc ++ [G1 s]) by rw [lW]; rfl] at this
   exact this
  refine xF (ρ1 := [a0, some (.cel S.length), some (.dat s.d), none, none]) rfl ?_
  unfold sJ;have lb := HU (s := s) (S := S ++ [.lst (bE acc)]) hno;cases s with
  | keep b =>
   have k1 := key (cH (aB (mC (.str "either")) (aB (aP bO (aC 3) (mC (.int 0))) (aB (cN false aK) aK)))) [a0, some (.cel S.length), some (.dat (Stt.keep b).d), some (.dat (.lst (bls ((Stt.keep b).blocks.map tQ)))), none] (by
    simp! [Stt.blocks, aM, bD, bls, BB]; rfl)
   simp! [hi, Stt.word, lb, c1, k1]
  | call g fl x y =>
   have i1 : ∀ {S : aO}, bO (.dat (Stt.call g fl x y).d) (.dat (.int 1)) S = .ok (.dat (.int g)) S := rfl;have k1 := key (cH (aB (mC (.str "call")) (aB (aP bO (aC 2) (mC (.int 1))) (aB (mC (.bl false)) (aB (aC 3) aK))))) [a0, some (.cel S.length), some (.dat (Stt.call g fl x y).d), some (.dat (.lst (bls ((Stt.call g fl x y).blocks.map tQ)))), none] (by
    simp! [i1]; rfl)
   simp! [hi, Stt.word, lb, c1, k1]
  | cmd c =>
   have k1 := key (aY iG (aB (aC 2) (aB (aC 3) aK))) [a0, some (.cel S.length), some (.dat (Stt.cmd c).d), some (.dat (.lst (bls ((Stt.cmd c).blocks.map tQ)))), none] (by
    have e := sC (s := .cmd c) (S := S ++ [.lst (bE acc)]) rfl rfl rfl;simp! [e])
   have n1 : decide (c.word = ("keep" : Str)) = false := by cases c <;> rfl
   have n2 : decide (c.word = ("call" : Str)) = false := by cases c <;> rfl
   simp! [hi, Stt.word, n1, n2, lb, c1, k1]
  | odd x => cases hno
  | fin w =>
   have k1 := key (aY iG (aB (aC 2) (aB (aC 3) aK))) [a0, some (.cel S.length), some (.dat (Stt.fin w).d), some (.dat (.lst (bls ((Stt.fin w).blocks.map tQ)))), none] (by
    have e := sC (s := .fin w) (S := S ++ [.lst (bE acc)]) rfl rfl rfl;simp! [e])
   simp! [hi, Stt.word, lb, c1, k1]
  | again b =>
   have k1 := key (aY iG (aB (aC 2) (aB (aC 3) aK))) [a0, some (.cel S.length), some (.dat (Stt.again b).d), some (.dat (.lst (bls ((Stt.again b).blocks.map tQ)))), none] (by
    have e := sC (s := .again b) (S := S ++ [.lst (bE acc)]) rfl rfl rfl;simp! [e])
   simp! [hi, Stt.word, lb, c1, k1]
  | either x y =>
   have k1 := key (aY iG (aB (aC 2) (aB (aC 3) aK))) [a0, some (.cel S.length), some (.dat (Stt.either x y).d), some (.dat (.lst (bls ((Stt.either x y).blocks.map tQ)))), none] (by
    have e := sC (s := .either x y) (S := S ++ [.lst (bE acc)]) rfl rfl rfl;simp! [e])
   simp! [hi, Stt.word, lb, c1, k1]
  | bad =>
   have k1 := key (aY iG (aB (aC 2) (aB (aC 3) aK))) [a0, some (.cel S.length), some (.dat Stt.bad.d), some (.dat (.lst (bls (Stt.bad.blocks.map tQ)))), none] (by
    have e := sC (s := .bad) (S := S ++ [.lst (bE acc)]) rfl rfl rfl;simp! [e])
   simp! [hi, Stt.word, lb, c1, k1]
theorem JC {many : Int} : ∀ (n : Nat) {S : aO} {l : List Stt} {k : Nat}, LS S -> OkL many l k -> k + 1 <= n -> nN n [.dat (.lst (bE l))] S = .ok (.dat (.lst (bE (tQ l)))) S
 | 0, S, l, k, ls, h, hn => by omega
 | n + 1, S, l, k, ls, h, hn => by
  rw [Of];unfold zZ;have lp := JE (f := nN n) (S := S) (many := many) (k := k) (a0 := some (.dat (.lst (bE l)))) (fun b S' ls' hk hb => JC n ls' hb (by omega)) ls l [] h (by have := h.len; simp; omega)
  rw [dR] at lp;simp! [show ([] : List D) = bE [] from rfl, lp, nX Ak]
  exact oV ls (by simp)
theorem yO {z : Pen} : (D.tup z.ds).Pl /\ (D.tup z.ds).ht <= 64 := ⟨⟨by simp [Pen.ds], trivial, trivial, trivial, trivial, trivial, trivial, trivial⟩, by simp only [D.ht, D.hts, Pen.ds]; decide⟩
theorem g_kys {n : Jx} {ρ : Ev} {S : aO} : NA n (.next ρ S) = n ρ S := rfl
theorem K9 {S : aO} {x0 x1 x2 : Vl} {w : Int} {ds : List Deed} {z : Pen} {s' : Ps} (ls : LS S) (he : dB [x0, x1, x2] S = .ok (.dat (.tup [.int w, .lst (ds.map Deed.d)])) S) (ok : ∀ d ∈ ds, d.Ok) (h : kK ds ⟨[], z, []⟩ = some s') (hl : ds.length <= 900000) (hp : s'.pens.length <= 900000) :
  vX [x0, x1, x2, .dat z.d] S = .ok (s'.pens.map Pen.d) S := by
 have yf : kYf (.dat (.lst (s'.pens.map Pen.d))) S = .ok (s'.pens.map Pen.d) S := if_pos (by rw [aN]; omega)
 rw [Lc];unfold wG;simp! [TZ, g_kys, g_yf, he, CL, Rc ls ok h hl, yf]
theorem LO {S : aO} {z : Pen} : qD [.dat z.d] S = .ok (.dat .non) S := by
 rw [HW];unfold qL;simp! [CL];rfl
theorem Mv {S : aO} {z : Pen} {c : Cmd} (h : c.Ok) : BP [.dat z.d, .dat c.d] S = .ok (.dat (c.run z).d) S := by
 rw [RL];unfold BZ;simp! [LO, Et h, qG h];rfl
theorem Qx {a0 a1 a2 a3 a4 a5 a6 a7 a8 a9 a10 a11 a12 a13 a14 : Option Vl} {zs : List D} : ∃ x, E9 [a0, a1, a2, a3, a4, a5, a6, a7, a8, a9, a10, a11, a12, a13, a14] 11 zs = [a0, a1, a2, a3, a4, a5, a6, a7, a8, a9, a10, x, a12, a13, a14] := by
 unfold E9;split
 ·exact ⟨_, rfl⟩
 ·exact ⟨_, rfl⟩
theorem DK : ∀ (cs : List Cmd) (z : Pen) (i : Nat) (c : Cmd), cs[i]? = some c -> ∃ u, (z :: scanP z cs)[i]? = some u /\ (scanP z cs)[i]? = some (c.run u)
 | [], z, i, c, h => by simp at h
 | d :: r, z, 0, c, h => by simp at h; subst h; exact ⟨z, rfl, rfl⟩
 | d :: r, z, i + 1, c, h => by
  obtain ⟨u, h1, h2⟩ := DK r (d.run z) i c (by simpa using h)
  exact ⟨u, h1, h2⟩
theorem N1 {a0 a1 a2 a3 a4 a5 a6 a8 a9 a11 a14 : Option Vl} {S : aO} {cs : List Cmd} {z : Pen} {dw : D} {w : Str} {wy : Int} (ok : ∀ c ∈ cs, c.Ok) : ∀ (n i : Nat) (u : Pen) (a13 : Option Vl), i + n = cs.length -> (z :: scanP z cs)[i]? = some u ->
  ∃ (v : Pen) (b13 : Option Vl), loop (.nm 13) nH (gH (i : Int) n) [a0, a1, a2, a3, a4, a5, a6, some (.dat (.tup [.str w, .int wy, .lst (cs.map Cmd.d), dw])), a8, a9, some (.cel S.length), a11, some (.dat u.d), a13, a14] (S ++ [.lst ((scanP z cs).map Pen.d)]) = .next [a0, a1, a2, a3, a4, a5, a6, some (.dat (.tup [.str w, .int wy, .lst (cs.map Cmd.d), dw])), a8, a9, some (.cel S.length), a11, some (.dat v.d), b13, a14] (S ++ [.lst ((scanP z cs).map Pen.d)])
 | 0, i, u, a13, h, hu => ⟨u, a13, rfl⟩
 | n + 1, i, u, a13, h, hu => by
  have hi : i < cs.length := by omega
  obtain ⟨c, hc⟩ : ∃ c, cs[i]? = some c := ⟨cs[i], by rw [cJ hi]⟩
  obtain ⟨u', h1, h2⟩ := DK cs z i c hc;rw [hu] at h1; cases h1;obtain ⟨v, b13, e⟩ := N1 (a0 := a0) (a1 := a1) (a2 := a2) (a3 := a3) (a4 := a4) (a5 := a5) (a6 := a6) (a8 := a8) (a9 := a9) (a11 := a11) (a14 := a14) (S := S) (dw := dw) (w := w) (wy := wy) ok n (i + 1) (c.run u) none (by omega) (by simpa using h2)
  refine ⟨v, b13, ?_⟩
  have q1 : bO (.cel S.length) (.dat (.int (i : Int))) (S ++ [.lst ((scanP z cs).map Pen.d)]) = .ok (.dat (c.run u).d) (S ++ [.lst ((scanP z cs).map Pen.d)]) := Jc Ak (atI_nat (by rw [bN, h2]; rfl))
  have q2 : ∀ {T : aO}, bO (.dat (.lst (cs.map Cmd.d))) (.dat (.int (i : Int))) T = .ok (.dat c.d) T := fun {T} => GW rfl (by rw [bN, hc]; rfl)
  have okc : c.Ok := ok c (bI hc);have q3 := Dc (S := S ++ [.lst ((scanP z cs).map Pen.d)]) (yO (z := c.run u)).1 (yO (z := c.run u)).2;rw [lC];refine (xF (ρ1 := [a0, a1, a2, a3, a4, a5, a6, some (.dat (.tup [.str w, .int wy, .lst (cs.map Cmd.d), dw])), a8, a9, some (.cel S.length), a11, some (.dat u.d), some (.dat (.int (i : Int))), a14]) (ρ2 := [a0, a1, a2, a3, a4, a5, a6, some (.dat (.tup [.str w, .int wy, .lst (cs.map Cmd.d), dw])), a8, a9, some (.cel S.length), a11, some (.dat (c.run u).d), none, a14]) (S2 := S ++ [.lst ((scanP z cs).map Pen.d)]) rfl ?_).trans ?_
  ·unfold nH
   simp! [q1, q2, pW, Mv okc, q3]
  ·rw [show ((i : Int) + 1) = ((i + 1 : Nat) : Int) by omega]
   exact e
theorem US (cs : List Cmd) : (cs.map Deed.cmd).map Deed.l = cs.map Cmd.d := by rw [gJ]; rfl
theorem NL {S : aO} {ks : List Int} {bs : List (List Stt)} {a0 a4 a14 : Option Vl} (P0 : PoolAt S 0 ks) (ls : LS S) (G : Good2 bs) (hpu : ∀ b ∈ bs, Fx b) : ∃ S' ks', nG [a0, some (.cel 0), some (.dat (.lst (bls bs))), some (.dat (gB bs)), a4, none, none, none, none, none, none, none, none, none, a14] S = .next [a0, some (.cel 0), some (.dat (.lst (bls bs))), some (.dat (gB bs)), none, none, none, none, none, none, none, none, none, none, a14] S' /\ PoolAt S' 0 ks' /\ LS S' := by
 have b1 := G.l1;have b3 := G.l3;obtain ⟨d, k1, e1, d0, d1, l1⟩ := fL P0 (k := (bs.length : Int)) (by omega) (by omega)
 obtain ⟨n, rfl⟩ : ∃ n : Nat, d = (n : Int) := ⟨d.toNat, by omega⟩
 have P1 := P0.next l1;obtain ⟨z, k2, e2, _, l2⟩ := Se P1;have P2 := P1.next l2;obtain ⟨bits, k3, e3, hs, hb, hl, l3⟩ := Hj (ex := 14) (p := n) (many := 10) P2 ls.set.set G (by omega) (by decide) (by decide)
 have P3 := P2.next l3;simp only [eI] at e2 e3 P3;have ls3 : LS (S.set 0 (PL k3)) := ls.one;rw [nG];rcases Gp hs with ⟨w, x, y, u, hf, hw⟩ | ⟨m, hf, R0, hx, htk, ex⟩
 ·rw [hf] at e3
  have e3' : kR [.cel 0, .dat (.lst (bls bs)), .dat (.int (n : Int)), .dat (.int 10), .dat (.int 14)] (S.set 0 (PL k2)) = _ := e3;simp! [wB, e1, e2, e3', cM, hw];exact ⟨_, k3, rfl, P3, ls3⟩
 ·rw [hf] at e3
  have e3' : kR [.cel 0, .dat (.lst (bls bs)), .dat (.int (n : Int)), .dat (.int 10), .dat (.int 14)] (S.set 0 (PL k2)) = .ok (.dat (.tup [.str "run", .int m.way, .lst (m.deeds.map Deed.l), .lst (m.bits.map D.int)])) (S.set 0 (PL k3)) := e3;obtain ⟨p', M, R⟩ := R0.all;obtain ⟨cs, hcs⟩ := J7 (PR hpu hx);have hlen := R.len;have hP := R.pens z;rw [hcs, CW] at hP;have hp1 : (p' z).pens = scanP z cs := by rw [<- Option.some.inj hP]; rfl
  have hp2 : (p' z).z = tU z cs := by rw [<- Option.some.inj hP]
  have okc : ∀ c ∈ cs, c.Ok := fun c hc => R.ok (.cmd c) (by rw [hcs]; exact AA hc)
  have hcl : cs.length <= 6000 := by rw [hcs, aN] at hlen; exact hlen
  have ra := R.ran ls3 (ex _ ls3) z;rw [hp2, hcs, HJ] at ra;have lsl : LS (S.set 0 (PL k3) ++ [.lst []]) := ls3.app;have tr := K9 lsl (ex _ lsl) R.ok (R.pens z) (by omega) (by rw [hp1, scan_len]; omega)
  rw [hp1] at tr;rw [hcs, US] at e3';have hln : (S.set 0 (PL k3)).length = S.length := by simp
  generalize S.set 0 (PL k3) = T at *;have fg : ∀ {ρ : Ev}, ρ[10]? = some (some (.cel T.length)) -> GQ ["NoBook", "NoCommand", "NoPath", "NoPen", "NoProcedure", "NoRun"] 11 10 ρ (.ok ((scanP z cs).map Pen.d) (T ++ [.lst []])) = .next (E9 ρ 11 ((scanP z cs).map Pen.d)) (T ++ [.lst ((scanP z cs).map Pen.d)]) := fun {ρ} hρ => by
   unfold GQ;rw [hρ];dsimp only;rw [Ak];dsimp only;rw [if_pos (by rw [aN, scan_len]; exact cC (show 0 + cs.length <= 1000000 by omega) (by decide)), Ml, dR]
  obtain ⟨x11, hE⟩ := Qx (a0 := a0) (a1 := some (.cel 0)) (a2 := some (.dat (.lst (bls bs)))) (a3 := some (.dat (gB bs))) (a4 := a4) (a5 := some (.dat (.int (n : Int)))) (a6 := some (.dat z.d)) (a7 := some (.dat (.tup [.str "run", .int m.way, .lst (cs.map Cmd.d), .lst (m.bits.map D.int)]))) (a8 := some (.dat (.lst (m.bits.map D.int)))) (a9 := some (.dat (.tup [.int m.way, (tU z cs).d, .int (cs.length : Int)]))) (a10 := some (.cel T.length)) (a11 := none) (a12 := none) (a13 := none) (a14 := a14) (zs := (scanP z cs).map Pen.d);have lnc : eT (.cel T.length) (T ++ [.lst ((scanP z cs).map Pen.d)]) = .ok (.dat (.int (cs.length : Int))) (T ++ [.lst ((scanP z cs).map Pen.d)]) := by
   rw [nW Ak, aN, scan_len]
  have lnd : ∀ {U : aO}, eT (.dat (.lst (cs.map Cmd.d))) U = .ok (.dat (.int (cs.length : Int))) U := fun {U} => by
   show Res.ok (Vl.dat (.int ((cs.map Cmd.d).length : Int))) U = _
   rw [aN]
  have ad : dA false (.dat (.lst [z.d])) (.cel T.length) (T ++ [.lst ((scanP z cs).map Pen.d)]) = .ok (.dat (.lst ((z :: scanP z cs).map Pen.d))) (T ++ [.lst ((scanP z cs).map Pen.d)]) := by
   unfold dA;dsimp only [nU];rw [Ak];dsimp only;rw [if_pos (by rw [aN, scan_len]; exact cC (show 1 + cs.length <= 1000000 by omega) (by decide))]
   rfl
  have ixl : ∀ {U : aO}, bO (.dat (.lst ((z :: scanP z cs).map Pen.d))) (.dat (.int (cs.length : Int))) U = .ok (.dat (tU z cs).d) U := fun {U} => GW rfl (by rw [bN, DL]; rfl)
  have ne1 := Dc (S := T ++ [.lst ((scanP z cs).map Pen.d)]) (yO (z := tU z cs)).1 (yO (z := tU z cs)).2;have rg : ∀ {U : aO}, Ar (.dat (.int (cs.length : Int))) U = .ok (gH 0 cs.length) U := fun {U} => by rw [jK (by omega) (by omega), tO]
  obtain ⟨v, b13, lp⟩ := N1 (a0 := a0) (a1 := some (.cel 0)) (a2 := some (.dat (.lst (bls bs)))) (a3 := some (.dat (gB bs))) (a4 := a4) (a5 := some (.dat (.int (n : Int)))) (a6 := some (.dat z.d)) (a8 := some (.dat (.lst (m.bits.map D.int)))) (a9 := some (.dat (.tup [.int m.way, (tU z cs).d, .int (cs.length : Int)]))) (a11 := x11) (a14 := a14) (S := T) (z := z) (dw := .lst (m.bits.map D.int)) (w := "run") (wy := m.way) okc cs.length 0 z none (by omega) rfl
  have lp : loop (.nm 13) nH (gH 0 cs.length) _ _ = _ := lp;have fl : ∀ {U : aO}, tY false (.dat (.lst (m.bits.map D.int))) U = .ok (.dat (.lst (m.bits.map D.int))) U := rfl;have ls4 : LS (T ++ [.lst ((scanP z cs).map Pen.d)]) := ls3.app;have fg' := fg (ρ := [a0, some (.cel 0), some (.dat (.lst (bls bs))), some (.dat (gB bs)), a4, some (.dat (.int (n : Int))), some (.dat z.d), some (.dat (.tup [.str "run", .int m.way, .lst (cs.map Cmd.d), .lst (m.bits.map D.int)])), some (.dat (.lst (m.bits.map D.int))), some (.dat (.tup [.int m.way, (tU z cs).d, .int (cs.length : Int)])), some (.cel T.length), none, none, none, a14]) rfl;have dn : (!decide ((cs.length : Int) = (cs.length : Int))) = false := by simp
  simp! [wB, e1, e2, e3', cM, fZ, pW, Ks, fl, Jd, Dt, Du, iF, dR, ra, U8, QS, QR, tr, fg', hE, lnc, lnd, ad, ixl, ne1, dn, rg, lp];exact ⟨_, k3, rfl, ⟨by rw [aL (by rw [hln]; exact (aH.mp P0.1).1)]; exact P3.1, P3.2⟩, ls4⟩
theorem GT {bs : List (List Stt)} {a0 a14 : Option Vl} (G : Good2 bs) (hpu : ∀ b ∈ bs, Fx b) : ∀ (n : Nat) (lo : Int) (S : aO) (ks : List Int) (a4 : Option Vl), PoolAt S 0 ks -> LS S -> ∃ (S' : aO) (b4 : Option Vl), loop (.nm 4) nG (gH lo n) [a0, some (.cel 0), some (.dat (.lst (bls bs))), some (.dat (gB bs)), a4, none, none, none, none, none, none, none, none, none, a14] S = .next [a0, some (.cel 0), some (.dat (.lst (bls bs))), some (.dat (gB bs)), b4, none, none, none, none, none, none, none, none, none, a14] S'
 | 0, lo, S, ks, a4, h, ls => ⟨S, a4, rfl⟩
 | n + 1, lo, S, ks, a4, h, ls => by
  obtain ⟨S1, k1, e1, P1, ls1⟩ := NL (a0 := a0) (a4 := some (.dat (.int lo))) (a14 := a14) h ls G hpu;obtain ⟨S2, b4, e2⟩ := GT (a0 := a0) (a14 := a14) G hpu n (lo + 1) S1 k1 none P1 ls1;refine ⟨S2, b4, ?_⟩
  rw [lC];exact (xF (ρ1 := [a0, some (.cel 0), some (.dat (.lst (bls bs))), some (.dat (gB bs)), some (.dat (.int lo)), none, none, none, none, none, none, none, none, none, a14]) rfl e1).trans e2
theorem law_true_k56 : ∀ ns : List Int, ns.length <= 63 -> ∃ S, m_law_k56 [.scr ns] [] = .ok (.dat (.bl true)) S := by
 intro ns hn;refine ⟨[], ?_⟩
 rw [Ld];obtain ⟨k0, e0, h0⟩ := Pb (S := []) hn;have P0 : PoolAt ([] ++ [PL k0]) 0 k0 := ⟨rfl, h0⟩;obtain ⟨bs, k1, e1, G, hsz, hml, l1⟩ := R8 (most := 3) (size := 7) P0 BU (by decide) (by decide) (by decide) (by decide)
 have G2 := G.two;have b3 := G2.l3;have hl : bs.length <= 10 := by omega
 have Ga := Pg G2;have hpu : ∀ b ∈ bs.map tQ, Fx b := fun b hb => by obtain ⟨b0, _, rfl⟩ := iM.mp hb; exact uV
 simp only [cK, dR] at e0 e1;have P1 : PoolAt [PL k1] 0 k1 := ⟨rfl, by omega⟩
 obtain ⟨k, hm, hr⟩ := Pn (S := [PL k1]) (c := 6) (n := k1.length) (by decide) (by decide)
 obtain ⟨S2, b4, e2⟩ := GT (a0 := some (.scr ns)) (a14 := none) Ga hpu k 0 [PL k1] k1 none P1 BU;have c1 : xH false (.nm 14) fX (aY (nN 10) (aB (aC 14) aK)) [some (.scr ns), some (.cel 0), none, none, none, none, none, none, none, none, none, none, none, none, none] [14] (bls bs) [PL k1] = .ok (.dat (.lst (bls (bs.map tQ)))) [PL k1] := by
  rw [show bls bs = bs.map (fun b => .lst (bE b)) from rfl, iO (g := fun b => .lst (bE (tQ b))) (sz (by omega)) fun b hb => ⟨_, rfl, ?_⟩]
  ·simp [newL, bls]
  ·have w := JC 10 (S := [PL k1]) BU (G2.ok b hb) (by omega)
   simp! [w]
 unfold rZ;simp! [e0, e1, c1, Oc Ga.ok (show 3 <= 9 by omega) (show (bs.map tQ).length <= 10 by simp; omega), Hv BU Ga, R5 P1, hm, hr, e2]
 exact SI
end PH
open PySem PySem.W PySem.Calls PyProof.Rows
set_option maxHeartbeats 0 in
theorem PySem.Challenge.cw_penhome_k56_whole_trace_and_the_last_pen_holds : PySem.Challenge.rw_penhome_k56_whole_trace_and_the_last_pen.Holds := by
 w_on; o_law
 refine HandSHeadRun.head_any (r := OpenLaw.row PySem.Challenge.rw_penhome_k56_whole_trace_and_the_last_pen) (q := view (OpenLaw.row PySem.Challenge.rw_penhome_k56_whole_trace_and_the_last_pen).prog [61]) (H := PHZ.hk) (ob := PHZ.ob) (M := 8000) (loose := PHZ.loose) (d := HandSHeadRun.topDef (OpenLaw.row PySem.Challenge.rw_penhome_k56_whole_trace_and_the_last_pen).prog 61) (kwd := []) PHZ.ob_eq
  (by kernel_rfl) (fun s => by kernel_rfl) PHZ.run_ (by kernel_rfl) (by kernel_rfl) (by kernel_rfl) (by rfl) (by first | assumption | decide +kernel) (by decide +kernel) ⟨rfl, rfl, rfl, rfl, rfl, by decide +kernel⟩ ?hw ?hc
 case hw => w_witness2
 case hc =>
  refine PH.walk_g (l := PySem.Challenge.rw_penhome_k56_whole_trace_and_the_last_pen) (n := 63) (k := 36) (x := "_law_script") rfl (by decide) (by kernel_rfl) ⟨rfl, by decide, by decide⟩ ?F
  intro w mg fa h Y G hmg0;obtain ⟨K, KX, c⟩ := Y;have hmg : mg ("law" : PySem.Str) = some (.ref fa) := by
   have e : (HandSHeadRun.topDef (OpenLaw.row PySem.Challenge.rw_penhome_k56_whole_trace_and_the_last_pen).prog 61).name = ("law" : PySem.Str) := by kernel_rfl
   rw [<- e];exact hmg0
  have T := PHZ.txt (w := w) KX G c;have e := hmg.symm.trans T.G_law_k56;cases e;obtain ⟨fd, b, F⟩ := PHZ.law_fn (P := (PySem.Challenge.rw_penhome_k56_whole_trace_and_the_last_pen).prog) T;exact ⟨K, fd, PH.spF K PH.m_law_k56, KX, fun s v => b s [v] rfl, fun H a ns hl hO hS => PH.law_start PH.law_true_k56 H a ns hl hO hS, fun base _ _ => F base⟩
