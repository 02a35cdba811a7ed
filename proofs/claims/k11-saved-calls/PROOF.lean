import PyProof.Rows.All
import Wide.All
import OpenK.AllK
import Wide.FinOn
import KE.KStateDown
import Lean
import HandS.ForMost
import HandS.ForExc
import HandS.More
import HandS.Flow
import HandS.IsInst
import HandS.Defaults
import HandS.Head0
import HandS.Head1
import HandS.Head2
import HandS.HeadEnd
import HandS.HeadHook1
import HandS.HeadHook2
import HandS.HeadHook3
import HandS.TupAny
import HandS.Star
import HandS.Wide
import HandS.Zip
import HandS.Rev
import HandS.TryMany
import HandS.Small
import HandS.RaiseMore
import HandS.OwnEq
import HandS.Walk
import HandS.Deep
import HandS.ExcInit
import HandS.ExcField
import HandS.RevRange
import HandS.SortInts
import KE.GoesMore
import HandS.CallSlots
import PyProof.Rows.NestShow
import HandS.Dict
import HandS.Style
import HandS.Text
import HandS.FStr
import HandS.StrMore
import HandS.SetFor
import PyProof.InstNe
import HandS.ReplaceLit
import KE.SortKeyHeap
import HandS.ExcValue
import HandS.SortKw
import HandS.SetKeys
import HandS.WordsDict
import HandS.Conv
import HandS.DictComp
import HandS.Iter
import HandS.TupLen
import HandS.GenList
import HandS.IterNext
import HandS.DictSub
import HandS.GenOver
import HandS.ExcInitHot
import KE.KExcIs
import PyProof.EqKinds
import PyProof.FactsAll.dict
import PyProof.P3In
import PySem.Challenge.RW_penhome_k11_saved_calls
set_option Elab.async false
set_option linter.all false
set_option maxRecDepth 100000
set_option maxHeartbeats 4000000
open PySem.W renaming Frag → aC, fnOf → gM, findIn → iE, nsIn → iR, view → kT, typeIn → sR, SharedT → yA, keepIn → AC, methodCall_KW → DA, callWith_K → F6, boot_heap → G9, openGood → GF
open And renaming intro → aE
open List renaming getElem?_eq_some_iff → aI, mem_cons_of_mem → aK, mem_cons_self → aL, length_cons → aM, map_cons → aN, set_cons_zero → aP, getElem?_append_left → aQ, set_cons_succ → aR, mem_map → aU, map_nil → aW, getElem?_set → bD, length_map → bE, mem_append → bF, mem_singleton → bK, length_nil → bM, mem_cons → bN, length_append → bO, all_eq_true → bZ, getElem?_eq_getElem → cA, getElem?_append_right → cP, getElem?_map → cY, nil_append → dC, append_nil → dD, range → dG, getElem?_take → dO, mem_of_getElem? → eA, getElem_mem → eO, nodup_nil → eQ, lookup_cons → gK, not_mem_nil → gL, take_append_of_le_length → gT, map_map → gV, map_append → gY, length_filter_le → iD, append_assoc → iF, getD_eq_getElem?_getD → iS, set_set → jB, drop_eq_getElem_cons → jI, map_congr_left → jR, ext_getElem? → lE, nodup_append → lF, take_append_drop → lX, take_length → mA, all_cons → mF, mem_filter → nD, mem_map_of_mem → nE, replicate → oJ, any_eq_true → qP, range' → tQ, mem_range → tR, zip_cons_cons → wJ, length_take → AB, length_set → AS, nodup_cons → AU, mem_or_eq_of_mem_set → Bz, any_cons → DB, map_take → DE, getElem?_replicate → DI, range_succ_eq_map → EK, take_of_length_le → EL, set_getElem_self → F7, forall_mem_cons → GA, mem_of_mem_take → GD
open Nat renaming le_refl → bG, lt_of_le_of_lt → eU, le_trans → lN, zero_add → nY, le_of_not_lt → qR, add_zero → sS, zero_le → AR
open Int renaming toNat_natCast → cG, emod_lt_of_pos → eT, emod_nonneg → fF, le_refl → tS
open Bool renaming and_eq_true → gJ, eq_iff_iff → gZ, and_true → hE, false_eq_true → wK, true_and → DC, and_self → DD, and_eq_true_iff → GB
open Or renaming inr → xO, inl → AQ
namespace PH
open PySem PySem.Spec PyProof.Rows L2
def wF : Stmt -> List Stmt
 | .ClassDef _ _ _ b _ _ _ _ _ _ _ => b
 | _ => []
def xmB (K : aC) (cs : List Str) : Bool := cs.all fun c => cs.all fun d => decide (PySem.W.exmOne K (.ref (He.ga K c)) (.ref (He.ga K d)) = some (decide (c = d)))
def limits : List (Str × Nat × Int × Int) := [("go", 1, -9, 9), ("turn", 1, 1, 3), ("mirror", 0, 0, 0), ("scale", 1, -3, 3), ("aim", 2, -9, 9), ("place", 2, -9, 9), ("mark", 0, 0, 0), ("return", 0, 0, 0), ("exchange", 0, 0, 0)]
def CL (K : aC) (z : Str) : Addr := match iR K (He.ga K "LIMITS") z with
 | some (some (.ref a)) => a
 | _ => 0
def DK (K : aC) (a : Addr) (vs : List V) : Bool := match K.lookup a with
 | some ⟨.type c, _, .seq its _, _⟩ => decide (c = "tuple") && (decide (its.size <= sizeLine) && He.relAll vs its.toList)
 | _ => false
def limB (K : aC) : Bool := limits.all fun q => He.eqO (iR K (He.ga K "LIMITS") q.1) (some (some (.ref (CL K q.1)))) && DK K (CL K q.1) [.int (q.2.1 : Nat), .int q.2.2.1, .int q.2.2.2]
def Di : He.Tab := (fun K => He.ga K "LIMITS", limits.map (·.1))
def Lx (K : aC) (C : Addr) : Bool := match K.lookup C with
 | some ⟨.type "type", _, .cls cd, sl⟩ => (match cd.mro, sl.toList with
  | .ref C' :: bm, [_, _, _, _, some (.builtin n), _] => C' == C && n == "ValueError.__new__" && !cd.hasDel && cd.hasDict && PySem.HandSPX.refsVE bm
  | _, _ => false)
 | _ => false
def xaB (K : aC) (x : Str) (fs : List Str) : Bool := Lx K (He.ga K x) && (decide (iE K (.ref (He.ga K x)) "__setattr__" = some (some (.builtin "object.__setattr__"))) && (decide (PySem.W.subIn K (.ref (He.ga K x)) (.type "BaseException") = some true) && (decide (sR K (.ref (He.ga K x)) = some (.type "type")) && (AC K (.ref (He.ga K x)) && (decide (iE K (.ref (He.ga K x)) "__init__" = some (some (.ref (He.ma K (He.ga K x) "__init__")))) && (decide (sR K (.ref (He.ma K (He.ga K x) "__init__")) = some (.type "function")) && (xfB K (He.ga K x) && fs.all fun f => decide (iE K (.ref (He.ga K x)) f = some none))))))))
end PH
namespace PH
open PySem PySem.Spec PyProof PyProof.Rows L2
def frR (g : Addr -> Option Obj) (n : Nat) : aC := He.frG g (dG n)
def Lz (n : Nat) (fa : List He.Fa) (fn : List He.DefD) (ts : List He.Tab) (ex : aC -> Bool) (g : Addr -> Option Obj) : He.AlT × Bool := (He.obsT fa fn ts (frR g n), ex (frR g n))
def LN (n : Nat) (fa : List He.Fa) (fn : List He.DefD) (ts : List He.Tab) (ex : aC -> Bool) : PySem.W.Hook where
 α := He.AlT × Bool
 obs := fun s => Lz n fa fn ts ex s.heap.get?
 val := fun w => (He.valT fn ts w, true)
 says := fun w h => ∃ K : aC, K.In h /\ He.SaysT fa fn ts w K /\ ex K = true
 of := fun _ _ e => ⟨_, He.frG_in, congrArg (fun z : He.AlT × Bool => z.1) e, congrArg (fun z : He.AlT × Bool => z.2) e⟩
 keeps := fun _ _ _ ⟨K, hK, c⟩ k => ⟨K, PySem.W.Frag.In.keeps hK k, c⟩
def obC (c : List He.DefD) (K : aC) : Bool × List He.FnW := (c.all fun d => d.ok K, c.map fun d => He.fnW K d.at_)
theorem Ac {σ β γ : Type} {o : Option σ} {l : σ -> β} {b : β} {sn : σ -> γ} {c : γ} {K : σ -> aC} {fa : List He.Fa} {fs : List (List He.DefD)} {ts : List He.Tab} {ex : aC -> Bool} {tv : List (Option (List (Option (Str × Int))))}
  (hA : (o.map fun s => (l s, sn s, fa.all fun f => f.ok (K s), ts.map fun t => He.dicW (K s) (t.1 (K s)), ex (K s))) = some (b, c, true, tv, true))
  (hD : ∀ f ∈ fs, (o.map fun s => obC f (K s)) = some (true, f.map He.DefD.val)) :
  (o.map fun s => (l s, sn s, (He.obsT fa fs.flatten ts (K s), ex (K s)))) = some (b, c, ((true, fs.flatten.map He.DefD.val), tv), true) := by
 cases o with
 | none => cases hA
 | some s =>
  have hA := Option.some.inj hA;have h1 := congrArg (fun z => z.1) hA
  have h2 := congrArg (fun z => z.2.1) hA
  have h3 := congrArg (fun z => z.2.2.1) hA
  have h4 := congrArg (fun z => z.2.2.2.1) hA
  have h5 := congrArg (fun z => z.2.2.2.2) hA
  dsimp only at h1 h2 h3 h4 h5;have hf : ∀ f ∈ fs, (f.all fun d => d.ok (K s)) = true /\ (f.map fun d => He.fnW (K s) d.at_) = f.map He.DefD.val := fun f hf => by
   have z := Option.some.inj (hD f hf);exact ⟨congrArg (fun z => z.1) z, congrArg (fun z => z.2) z⟩
  have hall : (fs.flatten.all fun d => d.ok (K s)) = true := by
   rw [bZ];intro d hd;obtain ⟨f, h1, h2⟩ := List.mem_flatten.mp hd;exact bZ.mp (hf f h1).1 d h2
  have hmap : (fs.flatten.map fun d => He.fnW (K s) d.at_) = fs.flatten.map He.DefD.val := by
   rw [List.map_flatten, List.map_flatten]
   congr 1
   exact jR fun f h => (hf f h).2
  show some (l s, sn s, ((((fa.all fun f => f.ok (K s)) && (fs.flatten.all fun d => d.ok (K s)), fs.flatten.map fun d => He.fnW (K s) d.at_), ts.map fun t => He.dicW (K s) (t.1 (K s))), ex (K s))) = _
  rw [h1, h2, h3, h4, h5, hall, hmap];rfl
def rH (n : Str) (s : Stmt) : He.DefD := ⟨(n, none), n, n, defArgs s, defBody s, defScope s, [], []⟩
end PH
namespace PHZ
open PH PySem PySem.Spec PyProof.Rows L2
def top (i : Nat) : Stmt := PySem.Challenge.pw_penhome_k11_saved_calls.main.body.getD i (.Pass ⟨0, 0, 0, 0⟩)
abbrev pD : Stmt := top 8
abbrev yQ : Stmt := top 9
abbrev mG : Stmt := top 10
abbrev qW : Stmt := top 16
abbrev nZ : Stmt := top 17
abbrev kA : Stmt := top 19
abbrev fW : Stmt := top 18
abbrev oA : Stmt := top 20
abbrev oB : Stmt := top 21
abbrev yP : Stmt := top 22
abbrev vD : Stmt := top 24
abbrev jU : Stmt := (wF (top 25)).getD 0 (.Pass ⟨0, 0, 0, 0⟩)
abbrev gQ : Stmt := (wF (top 25)).getD 6 (.Pass ⟨0, 0, 0, 0⟩)
abbrev kB : Stmt := (wF (top 25)).getD 7 (.Pass ⟨0, 0, 0, 0⟩)
abbrev fP : Stmt := (wF (top 25)).getD 8 (.Pass ⟨0, 0, 0, 0⟩)
abbrev tX : Stmt := top 28
abbrev yW : Stmt := top 29
abbrev qY : Stmt := top 30
abbrev yU : Stmt := top 31
abbrev vE : Stmt := top 33
abbrev vH : Stmt := top 32
abbrev tH : Stmt := top 34
abbrev yX : Stmt := top 35
abbrev pF : Stmt := top 37
abbrev yT : Stmt := top 38
abbrev tY : Stmt := top 39
abbrev pE : Stmt := top 40
abbrev tF : Stmt := top 41
abbrev mV : Stmt := top 42
abbrev tW : Stmt := top 43
abbrev lI : Stmt := top 44
abbrev qX : Stmt := top 45
abbrev yV : Stmt := top 46
abbrev vF : Stmt := top 47
abbrev jD : Stmt := top 48
abbrev tG : Stmt := top 36
abbrev vG : Stmt := top 49
abbrev lH : Stmt := top 44
abbrev jT : Stmt := top 50
abbrev oN : Stmt := (wF (top 2)).getD 0 (.Pass ⟨0, 0, 0, 0⟩)
abbrev oM : Stmt := (wF (top 3)).getD 0 (.Pass ⟨0, 0, 0, 0⟩)
def sY : He.DefD := rH "is_integer" pD
def B3 : He.DefD := rH "is_bit" yQ
def sZ : He.DefD := rH "is_command" mG
def uI : He.DefD := rH "blocks_of" qW
def rT : He.DefD := rH "with_blocks" nZ
def qM : He.DefD := rH "copied_block" kA
def mE : He.DefD := rH "copied_statement" fW
def rV : He.DefD := rH "well_formed" oA
def rW : He.DefD := rH "first_fault" oB
def B0 : He.DefD := rH "placed" yP
def zU : He.DefD := rH "flagged" vD
def uL : He.DefD := ⟨("Book", some "__init__"), "__init__", "Book.__init__", defArgs jU, defBody jU, defScope jU, [], []⟩
def rZ : He.DefD := ⟨("Book", some "bodies"), "bodies", "Book.bodies", defArgs gQ, defBody gQ, defScope gQ, [], []⟩
def tA : He.DefD := ⟨("Book", some "calls"), "calls", "Book.calls", defArgs kB, defBody kB, defScope kB, [], []⟩
def qO : He.DefD := ⟨("Book", some "saved"), "saved", "Book.saved", defArgs fP, defBody fP, defScope fP, [], []⟩
def B6 : He.DefD := rH "_law_pool" tX
def BA : He.DefD := rH "_law_draw" yW
def uK : He.DefD := rH "_law_command" qY
def B7 : He.DefD := rH "_law_pair" yU
def zV : He.DefD := rH "_law_piece" vE
def zY : He.DefD := rH "_law_block" vH
def xB : He.DefD := rH "_law_around" tH
def BC : He.DefD := rH "_law_body" yX
def xA : He.DefD := rH "_law_blocks" pF
def B4 : He.DefD := rH "_law_with" yT
def BB : He.DefD := rH "_law_copy" tY
def wY : He.DefD := rH "_law_copies" pE
def wX : He.DefD := rH "_law_places" tF
def qN : He.DefD := rH "_law_all_places" mV
def B5 : He.DefD := rH "_law_same" tW
def rY : He.DefD := rH "_law_flagged" lI
def uJ : He.DefD := rH "_law_saved" qX
def B9 : He.DefD := rH "_law_flag" yV
def zW : He.DefD := rH "_law_due" vF
def oV : He.DefD := rH "_law_twins_right" jD
def wZ : He.DefD := rH "_law_book" tG
def zX : He.DefD := rH "_law_drawn" vG
def rX : He.DefD := rH "_law_flagged" lH
def zT : He.DefD := rH "law" jT
def zS : He.DefD := ⟨("NoBook", some "__init__"), "__init__", "NoBook.__init__", defArgs oN, defBody oN, defScope oN, [], []⟩
def zR : He.DefD := ⟨("NoCall", some "__init__"), "__init__", "NoCall.__init__", defArgs oM, defBody oM, defScope oM, [], []⟩
def fa : List He.Fa := ([.free "isinstance", .free "int", .free "bool", .free "tuple", .free "len", .free "str", .glo "LIMITS", .free "all", .int "DEEPEST" 3, .free "list", .free "enumerate", .int "MOST_IN_LIST" 8, .int "MOST_IN_PROCEDURE" 12, .int "MOST_PROCEDURES" 3, .glo "NoBook", .cls "Book", .noat "Book" "own", .glo "NoCall", .cls "Book", .mkr "Book"] : List He.Fa) ++ ([.glo "Book", .free "range", .glo "is_integer", .glo "is_bit", .glo "is_command", .glo "blocks_of", .glo "with_blocks", .glo "copied_block", .glo "copied_statement", .glo "well_formed", .glo "first_fault", .glo "placed", .glo "flagged", .meth "Book" "__init__", .meth "Book" "bodies", .meth "Book" "calls", .meth "Book" "saved", .glo "_law_pool", .glo "_law_draw", .glo "_law_command"] : List He.Fa) ++ ([.glo "_law_pair", .glo "_law_piece", .glo "_law_block", .glo "_law_around", .glo "_law_body", .glo "_law_blocks", .glo "_law_with", .glo "_law_copy", .glo "_law_copies", .glo "_law_places", .glo "_law_all_places", .glo "_law_same", .glo "_law_flagged", .glo "_law_saved", .glo "_law_flag", .glo "_law_due", .glo "_law_twins_right", .glo "_law_book", .glo "_law_drawn", .glo "_law_flagged"] : List He.Fa) ++ ([.glo "law"] : List He.Fa)
def fn0 : List He.DefD := [zS, zR, sY, B3, sZ, uI, rT, qM, mE, rV, rW, B0, zU, uL, rZ, tA, qO, B6, BA, uK, B7, zV, zY, xB, BC, xA, B4, BB, wY, wX, qN, B5, rY, uJ, B9, zW, oV, wZ, zX, rX, zT]
def fns : List (List He.DefD) := [fn0]
def fn : List He.DefD := fns.flatten
def ts : List He.Tab := [Di]
def exs (K : aC) : List Bool := [limB K, xaB K "NoBook" ["procedure", "path"], xaB K "NoCall" ["index"], xmB K ["NoBook", "NoCall", "NoPath", "NoProcedure"]]
def ex (K : aC) : Bool := (exs K).all id
def loose : List Str := (["HomeError", "NoBook", "NoCall", "NoProcedure", "NoPath", "LIMITS", "is_integer", "is_bit", "is_command", "MOST_PROCEDURES", "MOST_IN_LIST", "MOST_IN_PROCEDURE", "DEEPEST", "blocks_of", "with_blocks", "copied_statement", "copied_block", "well_formed", "first_fault", "placed", "statement_at", "flagged", "Book", "has_procedure", "_law_pool", "_law_draw", "_law_command", "_law_pair", "_law_block", "_law_piece"] : List Str) ++ (["_law_around", "_law_body", "_law_book", "_law_blocks", "_law_with", "_law_copy", "_law_copies", "_law_places", "_law_all_places", "_law_same", "_law_flagged", "_law_saved", "_law_flag", "_law_due", "_law_twins_right", "_law_drawn"] : List Str)
abbrev R : PySem.W.OpenRow := PySem.W.OpenLaw.row PySem.Challenge.rw_penhome_k11_saved_calls
abbrev hk : PySem.W.Hook := LN 1200 fa fn ts ex
def ob (s : yA) : He.AlT × Bool := Lz 1200 fa fn ts ex (HandSHeadRun.getT s)
abbrev Ik (w : World) : Prop := HandSHeadRun.RunEq R (kT R.prog [50]) hk ob 8000 loose w
noncomputable abbrev Kd (w : World) (os : OsState) := HandSHeadRun.endF (HandSHeadRun.stepQ (HandSHeadRun.denQ HandSHeadRun.tabQ) R.prog w) 8000 R.prog w os
abbrev J0 (s : yA) : aC := frR (HandSHeadRun.getT s) 1200
set_option maxHeartbeats 0 in
theorem JH (w : World) : ∀ os : OsState, (Kd (w.withFollow "special-get-raises" false) os).map (fun s => (HandSHeadRun.looksF R.prog (G9 (w.withFollow "special-get-raises" false).params) s.abs, HandSHeadRun.seenQ (kT R.prog [50]) loose (PySem.importedModules R.prog.main.body) (fun s => PySem.W.xlAt (kT R.prog [50]) [] s && PySem.W.recOk R.toRowW.records s) s.abs, fa.all fun f => f.ok (J0 s), ts.map fun t => He.dicW (J0 s) (t.1 (J0 s)), ex (J0 s))) = some (true, GF (kT R.prog [50]) loose, true, ts.map (fun t => some (He.keysIn (w.withFollow "special-get-raises" false).params t.2)), true) := by
 intro os
 kernel_rfl
set_option maxHeartbeats 0 in
theorem JI (w : World) : ∀ os : OsState, (Kd (w.withFollow "special-get-raises" false) os).map (fun s => obC fn0 (J0 s)) = some (true, fn0.map He.DefD.val) := by
 intro os
 kernel_rfl
theorem run_f (w : World) : Ik (w.withFollow "special-get-raises" false) := fun os => Ac (fs := fns) (JH w os) (GA.mpr ⟨JI w os, fun f hf => nomatch hf⟩)
set_option maxHeartbeats 0 in
theorem JF (w : World) : ∀ os : OsState, (Kd (w.withFollow "special-get-raises" true) os).map (fun s => (HandSHeadRun.looksF R.prog (G9 (w.withFollow "special-get-raises" true).params) s.abs, HandSHeadRun.seenQ (kT R.prog [50]) loose (PySem.importedModules R.prog.main.body) (fun s => PySem.W.xlAt (kT R.prog [50]) [] s && PySem.W.recOk R.toRowW.records s) s.abs, fa.all fun f => f.ok (J0 s), ts.map fun t => He.dicW (J0 s) (t.1 (J0 s)), ex (J0 s))) = some (true, GF (kT R.prog [50]) loose, true, ts.map (fun t => some (He.keysIn (w.withFollow "special-get-raises" true).params t.2)), true) := by
 intro os
 kernel_rfl
set_option maxHeartbeats 0 in
theorem JG (w : World) : ∀ os : OsState, (Kd (w.withFollow "special-get-raises" true) os).map (fun s => obC fn0 (J0 s)) = some (true, fn0.map He.DefD.val) := by
 intro os
 kernel_rfl
theorem run_t (w : World) : Ik (w.withFollow "special-get-raises" true) := fun os => Ac (fs := fns) (JF w os) (GA.mpr ⟨JG w os, fun f hf => nomatch hf⟩)
theorem run_ (w : World) : Ik w := PySem.W.byRow2 "special-get-raises" run_f run_t w
end PHZ
namespace PH
open PySem PySem.Spec PyProof.Rows L2
section
variable {X : Cx}
theorem dF {e : Expr} {t u : TE} (h : PE X e t) (i : ∀ σ H Q, u σ H Q -> t σ H Q) : PE X e u := ⟨fun pins s σ H Q I q => h.run pins s σ H Q I (i σ H Q q)⟩
theorem A6 {e : Expr} {t u : TT} (h : PT X e t) (i : ∀ σ H Q, u σ H Q -> t σ H Q) : PT X e u := ⟨fun pins s σ H Q I q => h.run pins s σ H Q I (i σ H Q q)⟩
theorem gX {f : Value -> Value -> Sem Value} {r u : R2} (h : OpR X f r) (i : ∀ x y H Q, u x y H Q -> r x y H Q) : OpR X f u := fun pins s σ H x y v w Q I rx ry q => h pins s σ H x y v w Q I rx ry (i x y H Q q)
theorem lD {f : Value} {r u : List V -> Hp -> VK -> Prop} (h : CallR X f r) (i : ∀ xs H Q, u xs H Q -> r xs H Q) : CallR X f u := fun pins s σ H xs us Q I rx q => h pins s σ H xs us Q I rx (i xs H Q q)
theorem F5 {r u : R2} (h : IxR X r) (i : ∀ x y H Q, u x y H Q -> r x y H Q) : IxR X u := fun e1 e2 pins s σ H x y v w Q I rx ry q => h e1 e2 pins s σ H x y v w Q I rx ry (i x y H Q q)
def sl : L2.St -> Nat -> Option V
 | [], _ => none
 | x :: _, 0 => x
 | _ :: r, n + 1 => sl r n
theorem Kz : ∀ {σ : L2.St} {i : Nat} {v : V}, sl σ i = some v -> σ[i]? = some (some v)
 | [], _, _, h => by cases h
 | x :: _, 0, v, h => by
  have e : x = some v := h;rw [e]; rfl
 | _ :: r, n + 1, v, h => by
  have e := Kz (σ := r) (i := n) (v := v) h
  simpa using e
def AM (i : Nat) : TE := fun σ H Q => match sl σ i with
 | some v => Q v H
 | none => False
theorem cv (i : Nat) {x : Str} {pos : Pos} (hN : X.N[i]? = some x := by rfl) (hv : Vis X.env.scope x := by first | exact AQ rfl | exact xO (AQ rfl) | exact xO (xO rfl)) (hd : (x == ("__debug__" : Str)) = false := by decide)
  (hcd : (x == ("__classdict__" : Str)) = false := by decide) : PE X (.Name x pos) (AM i) := dF (pe_var hN hv hd hcd) fun σ H Q h => by
 unfold AM at h;cases e : sl σ i with
 | none => rw [e] at h; exact h.elim
 | some v => rw [e] at h; exact ⟨v, Kz e, h⟩
def cI0 (g : Int -> Int -> V) : R2 := fun x y H Q => match x, y with
 | .int i, .int j => Q (g i j) H
 | _, _ => False
def cI (C : Int -> Int -> Prop) (g : Int -> Int -> V) : R2 := fun x y H Q => match x, y with
 | .int i, .int j => C i j /\ Q (g i j) H
 | _, _ => False
theorem tN {g : Int -> Int -> V} : ∀ x y H Q, cI0 g x y H Q -> rI0 g x y H Q := fun x y H Q h => by
 cases x with
 | int i => cases y with
  | int j => exact ⟨i, j, rfl, rfl, h⟩
  | _ => exact h.elim
 | _ => exact h.elim
theorem Ey {C : Int -> Int -> Prop} {g : Int -> Int -> V} : ∀ x y H Q, cI C g x y H Q -> rI C g x y H Q := fun x y H Q h => by
 cases x with
 | int i => cases y with
  | int j => exact ⟨i, j, rfl, rfl, h.1, h.2⟩
  | _ => exact h.elim
 | _ => exact h.elim
def rAddI : R2 := fun x y H Q => match x, y with
 | .int i, .int j => Q (.int (i + j)) H
 | _, _ => False
def Gm : R2 := fun x y H Q => match x, y with
 | .int i, .int j => Q (.int (i - j)) H
 | _, _ => False
def L7 : R2 := fun x y H Q => match x, y with
 | .int i, .int j => IntMulOk i j /\ Q (.int (i * j)) H
 | _, _ => False
def L8 : R2 := fun x y H Q => match x, y with
 | .int i, .int j => (0 < j) /\ Q (.int (i % j)) H
 | _, _ => False
def Gp : R2 := fun x y H Q => match x, y with
 | .int i, .int j => (CDiv i j) /\ Q (.int (i / j)) H
 | _, _ => False
def L5 : R2 := fun x y H Q => match x, y with
 | .int i, .int j => (CPow i j) /\ Q (.int (i ^ j.toNat)) H
 | _, _ => False
def rLtC : R2 := fun x y H Q => match x, y with
 | .int i, .int j => Q (.bl (decide (i < j))) H
 | _, _ => False
def rLeC : R2 := fun x y H Q => match x, y with
 | .int i, .int j => Q (.bl (decide (i <= j))) H
 | _, _ => False
def rGtC : R2 := fun x y H Q => match x, y with
 | .int i, .int j => Q (.bl (decide (j < i))) H
 | _, _ => False
def rGeC : R2 := fun x y H Q => match x, y with
 | .int i, .int j => Q (.bl (decide (j <= i))) H
 | _, _ => False
def cAdd (K : aC) : R2 := fun x y H Q => match x, y with
 | .int i, .int j => Q (.int (i + j)) H
 | .str a, .str b => a.length + b.length <= sizeLine /\ Q (.str (a ++ b)) H
 | .ref _, .ref _ => rCat x y H Q \/ rCatA K x y H Q
 | _, _ => False
theorem bJ : OpR X (binaryOp .Add) (cAdd X.K) := by
 refine gX (OpR.or (X := X) op_add (OpR.or op_add_str (OpR.or op_cat op_catA))) fun x y H Q h => ?_
 cases x with
 | int i => cases y with
  | int j => exact .inl ⟨i, j, rfl, rfl, h⟩
  | _ => exact h.elim
 | str i => cases y with
  | str j => exact .inr (.inl ⟨i, j, rfl, rfl, h.1, h.2⟩)
  | _ => exact h.elim
 | ref i => cases y with
  | ref j => exact .inr (.inr h)
  | _ => exact h.elim
 | _ => exact h.elim
theorem jE : OpR X (binaryOp .Sub) Gm := gX op_sub fun x y H Q h => tN (g := fun i j => .int (i - j)) x y H Q h
theorem JR : OpR X (binaryOp .Mult) (rI IntMulOk fun i j => .int (i * j)) := opI fun _ _ _ _ _ _ _ hc q => mul_int q hc
theorem xT : OpR X (binaryOp .Mult) L7 := gX JR fun x y H Q h => Ey (C := IntMulOk) (g := fun i j => .int (i * j)) x y H Q h
theorem mulL {i j : Int} (h1 : -(2 ^ 64) < i) (h2 : i < 2 ^ 64) : IntMulOk i j := CMul.ok (.inl ⟨h1, h2⟩)
theorem mulR {i j : Int} (h1 : -(2 ^ 64) < j) (h2 : j < 2 ^ 64) : IntMulOk i j := CMul.ok (.inr ⟨h1, h2⟩)
theorem mJ : OpR X (binaryOp .Mod) L8 := gX op_mod fun x y H Q h => Ey (C := fun _ j => 0 < j) (g := fun i j => .int (i % j)) x y H Q h
theorem rA : OpR X (binaryOp .FloorDiv) Gp := gX op_fdiv fun x y H Q h => Ey (C := CDiv) (g := fun i j => .int (i / j)) x y H Q h
theorem JQ : OpR X (binaryOp .Pow) L5 := gX op_pow fun x y H Q h => Ey (C := CPow) (g := fun i j => .int (i ^ j.toNat)) x y H Q h
theorem lY : OpR X (compareOp .Lt) rLtC := gX op_lt fun x y H Q h => tN (g := fun i j => .bl (decide (i < j))) x y H Q h
theorem tK : OpR X (compareOp .LtE) rLeC := gX op_le fun x y H Q h => tN (g := fun i j => .bl (decide (i <= j))) x y H Q h
theorem mW : OpR X (compareOp .Gt) rGtC := gX op_gt fun x y H Q h => tN (g := fun i j => .bl (decide (j < i))) x y H Q h
theorem Dc : OpR X (compareOp .GtE) rGeC := gX op_ge fun x y H Q h => tN (g := fun i j => .bl (decide (j <= i))) x y H Q h
def cNeg : V -> Hp -> VK -> Prop := fun x H Q => match x with
 | .int i => Q (.int (-i)) H
 | _ => False
theorem J3 : UnR X (unaryOp .USub) cNeg := fun pins s σ H x v Q I rx h => un_neg pins s σ H x v Q I rx (by
 cases x with
 | int i => exact ⟨i, rfl, h⟩
 | _ => exact h.elim)
def cEq (K : aC) : R2 := fun x y H Q => match x, y with
 | .int i, .int j => Q (.bl (decide (i = j))) H
 | .str i, .str j => Q (.bl (decide (i = j))) H
 | _, _ => rEqD K x y H Q
def cNe (K : aC) : R2 := fun x y H Q => match x, y with
 | .int i, .int j => Q (.bl (!decide (i = j))) H
 | .str i, .str j => Q (.bl (!decide (i = j))) H
 | _, _ => rNeD K x y H Q
theorem dI {i j : Int} : decide (V.int i = V.int j) = decide (i = j) := by
 by_cases h : i = j
 ·rw [decide_eq_true h, h, decide_eq_true rfl]
 ·rw [decide_eq_false h, decide_eq_false fun e => h (V.int.inj e)]
theorem dS {i j : Str} : decide (V.str i = V.str j) = decide (i = j) := by
 by_cases h : i = j
 ·rw [decide_eq_true h, h, decide_eq_true rfl]
 ·rw [decide_eq_false h, decide_eq_false fun e => h (V.str.inj e)]
theorem bR (hu : X.A.units + 64 < cLine) : OpR X (compareOp .Eq) (cEq X.K) := by
 refine gX (OpR.or (X := X) op_eq (op_eqD hu)) fun x y H Q h => ?_
 cases x with
 | int i => cases y with
  | int j => exact .inl ⟨rfl, by rw [dI]; exact h⟩
  | _ => exact .inr h
 | str i => cases y with
  | str j => exact .inl ⟨rfl, by rw [dS]; exact h⟩
  | _ => exact .inr h
 | _ => exact .inr h
theorem jL (hu : X.A.units + 64 < cLine) : OpR X (compareOp .NotEq) (cNe X.K) := by
 refine gX (OpR.or (X := X) op_ne (op_neD hu)) fun x y H Q h => ?_
 cases x with
 | int i => cases y with
  | int j => exact .inl ⟨rfl, by rw [dI]; exact h⟩
  | _ => exact .inr h
 | str i => cases y with
  | str j => exact .inl ⟨rfl, by rw [dS]; exact h⟩
  | _ => exact .inr h
 | _ => exact .inr h
variable {a b c : Expr} {ta tb tc : TE} {pos : Pos}
def cT (K : aC) : V -> Hp -> (Bool -> Hp -> Prop) -> Prop := fun x H Q => match x with
 | .bl k => Q k H
 | .non => Q false H
 | .int i => Q (i != 0) H
 | x => ∃ k, TruV K x H k /\ Q k H
def cTest (K : aC) (t : TE) : TT := fun σ H Q => t σ H fun x H' => cT K x H' Q
theorem IZ {K : aC} : ∀ x H Q, cT K x H Q -> ∃ k, TruV K x H k /\ Q k H := fun x H Q h => by
 cases x with
 | bl k => exact ⟨k, rfl, h⟩
 | non => exact ⟨false, rfl, h⟩
 | int i => exact ⟨_, rfl, h⟩
 | _ => exact h
theorem t_val (ha : PE X a ta) (he : ∀ whole, isTrue a X.env whole = (do let v <- whole; standAt a.pos; holding [v] (truthy v)) := by intro _; rfl) : PT X a (cTest X.K ta) := by
 refine ⟨fun pins s σ H Q I h => ?_⟩
 exact isTrue_plain (thn (ha.run pins s σ H _ I h) fun v s1 ⟨x, H1, I1, r1, q1⟩ => tru_ok pins s1 σ H1 x v Q I1 r1 (IZ x H1 Q q1)) (he _)
def cB (t : TE) : TT := fun σ H Q => t σ H fun x H' => match x with
 | .bl k => Q k H'
 | _ => False
theorem Kx {op : CmpOp} {r : R2} (ho : OpR X (compareOp op) r) (ha : PE X a ta) (hb : PE X b tb) (hm : behindInMarks op b = false := by rfl) : PT X (.Compare a [op] [b] pos) (cB (tOp r ta tb)) := by
 refine ⟨fun pins s σ H Q I h => ?_⟩
 have h' : ta σ H fun x H1 => tb σ H1 fun y H2 => r x y H2 fun z H3 => (match z with | .bl k => Q k H3 | _ => False) := h
 refine wpAny_isTrue_Compare1 (thn (ha.run pins s σ H _ I h') fun v s1 ⟨x, H1, I1, r1, q1⟩ => thn (hb.run pins s1 σ H1 _ I1 q1) fun u s2 ⟨y, H2, I2, r2, q2⟩ => thn (ho pins s2 σ H2 x y v u _ I2 r1 r2 q2) fun d s3 hz => ?_) hm
 obtain ⟨z, H3, I3, r3, q3⟩ := hz;cases z with
 | bl k => cases r3; exact wpAny_truthy_bool ⟨H3, I3, q3⟩
 | _ => exact q3.elim
theorem e_cmp {op : CmpOp} {r : R2} (ho : OpR X (compareOp op) r) (ha : PE X a ta) (hb : PE X b tb) (hm : behindInMarks op b = false := by rfl) : PE X (.Compare a [op] [b] pos) (tOp r ta tb) := pe_cmpR ho ha hb hm
end
section
variable {X : Cx} {a b c : Expr} {ta tb tc : TE} {pos : Pos}
variable {rest : List Expr}
def cAndV (ta tb : TE) : TE := fun σ H Q => ta σ H fun x H1 => match x with
 | .bl c => if c = true then tb σ H1 Q else Q (.bl false) H1
 | _ => False
def cOrV (ta tb : TE) : TE := fun σ H Q => ta σ H fun x H1 => match x with
 | .bl c => if c = true then Q (.bl true) H1 else tb σ H1 Q
 | _ => False
def cNotV (K : aC) (ta : TE) : TE := fun σ H Q => ta σ H fun x H1 => cT K x H1 fun k H2 => Q (.bl (!k)) H2
theorem e_and (ha : PE X a ta) (hb : PE X (.BoolOp .And (b :: rest) pos) tb) : PE X (.BoolOp .And (a :: b :: rest) pos) (cAndV ta tb) := by
 refine ⟨fun pins s σ H Q I h => ?_⟩
 refine BoolOp_and (thn (ha.run pins s σ H _ I h) fun v s1 hq => ?_)
 obtain ⟨x, H1, I1, r1, q1⟩ := hq;cases x with
 | bl c =>
  cases r1;refine wpAny_truthy_bool ?_
  cases c with
  | true => exact hb.run pins s1 σ H1 Q I1 q1
  | false => exact ⟨.bl false, H1, I1, rfl, q1⟩
 | _ => exact q1.elim
theorem e_or (ha : PE X a ta) (hb : PE X (.BoolOp .Or (b :: rest) pos) tb) : PE X (.BoolOp .Or (a :: b :: rest) pos) (cOrV ta tb) := by
 refine ⟨fun pins s σ H Q I h => ?_⟩
 refine BoolOp_or (thn (ha.run pins s σ H _ I h) fun v s1 hq => ?_)
 obtain ⟨x, H1, I1, r1, q1⟩ := hq;cases x with
 | bl c =>
  cases r1;refine wpAny_truthy_bool ?_
  cases c with
  | false => exact hb.run pins s1 σ H1 Q I1 q1
  | true => exact ⟨.bl true, H1, I1, rfl, q1⟩
 | _ => exact q1.elim
theorem e_not (ha : PE X a ta) : PE X (.UnaryOp .Not a pos) (cNotV X.K ta) := by
 refine ⟨fun pins s σ H Q I h => ?_⟩
 refine UnaryOp_ (thn (ha.run pins s σ H _ I h) fun v s1 hq => ?_)
 obtain ⟨x, H1, I1, r1, q1⟩ := hq;exact not_of (thn (tru_ok pins s1 σ H1 x v (fun c H2 => Q (.bl (!c)) H2) I1 r1 (IZ x H1 _ q1)) fun c s2 ⟨H2, I2, q2⟩ => ⟨.bl (!c), H2, I2, rfl, q2⟩)
def Br (r r' : R2) (ta tb tc : TE) : TE := fun σ H Q => ta σ H fun x H1 => tb σ H1 fun y H2 => r x y H2 fun z H3 => match z with
 | .bl k => if k = true then tc σ H3 fun w' H4 => r' y w' H4 Q else Q (.bl false) H3
 | _ => False
theorem Kf {op op' : CmpOp} {r r' : R2} (ho : OpR X (compareOp op) r) (ho' : OpR X (compareOp op') r') (ha : PE X a ta) (hb : PE X b tb) (hc : PE X c tc)
  (hm : lastMarks [op, op'] [b, c] = false := by with_unfolding_all rfl) : PE X (.Compare a [op, op'] [b, c] pos) (Br r r' ta tb tc) := by
 refine ⟨fun pins s σ H Q I h => ?_⟩
 refine Compare_chain (thn (ha.run pins s σ H _ I h) fun v s1 ⟨x, H1, I1, r1, q1⟩ => chain_link (thn (hb.run pins s1 σ H1 _ I1 q1) fun u s2 ⟨y, H2, I2, r2, q2⟩ =>
  thn (ho pins s2 σ H2 x y v u _ I2 r1 r2 q2) fun d s3 hz => ?_)) hm
 obtain ⟨z, H3, I3, r3, q3⟩ := hz;cases z with
 | bl k =>
  cases r3;refine wpAny_truthy_bool ?_
  cases k with
  | false => exact ite_ff ⟨.bl false, H3, I3, rfl, q3⟩
  | true => exact ite_tt (chain_last (thn (hc.run pins s3 σ H3 _ I3 q3) fun w' s4 ⟨z', H4, I4, r4, q4⟩ => ho' pins s4 σ H4 y z' u w' Q I4 r2 r4 q4))
 | _ => exact q3.elim
theorem J5 {op op' : CmpOp} {r r' : R2} (ho : OpR X (compareOp op) r) (ho' : OpR X (compareOp op') r') (ha : PE X a ta) (hb : PE X b tb) (hc : PE X c tc)
  (hm : lastMarks [op, op'] [b, c] = false := by with_unfolding_all rfl) : PT X (.Compare a [op, op'] [b, c] pos) (cB (Br r r' ta tb tc)) := by
 refine ⟨fun pins s σ H Q I h => ?_⟩
 refine isTrue_chain (thn (ha.run pins s σ H _ I h) fun v s1 ⟨x, H1, I1, r1, q1⟩ => test_link (thn (hb.run pins s1 σ H1 _ I1 q1) fun u s2 ⟨y, H2, I2, r2, q2⟩ =>
  thn (ho pins s2 σ H2 x y v u _ I2 r1 r2 q2) fun d s3 hz => ?_)) hm
 obtain ⟨z, H3, I3, r3, q3⟩ := hz;cases z with
 | bl k =>
  cases r3;refine wpAny_truthy_bool ?_
  cases k with
  | false => exact ite_ff ⟨H3, I3, q3⟩
  | true =>
   refine ite_tt (test_last (thn (hc.run pins s3 σ H3 _ I3 q3) fun w' s4 ⟨z', H4, I4, r4, q4⟩ => thn (ho' pins s4 σ H4 y z' u w' _ I4 r2 r4 q4) fun d' s5 hz2 => ?_))
   obtain ⟨z2, H5, I5, r5, q5⟩ := hz2;cases z2 with
   | bl k2 => cases r5; exact wpAny_truthy_bool ⟨H5, I5, q5⟩
   | _ => exact q5.elim
 | _ => exact q3.elim
def cIx (K : aC) : R2 := fun x y H Q => match x, y with
 | .ref p, .int i => ∃ xs v, (SqL K H p xs \/ SqT K H p xs) /\ atI xs i = some v /\ Q v H
 | .str z, .int i => z.length <= sizeLine /\ ∃ c, atI z.cps.toList i = some c /\ Q (.str ⟨#[c]⟩) H
 | _, _ => False
theorem ix_C : IxR X (cIx X.K) := F5 ix_seq fun x y H Q h => by
 cases x with
 | ref p => cases y with
  | int i =>
   obtain ⟨xs, v, h1 | h1, h2, q⟩ := h
   ·exact .inl ⟨p, xs, i, v, rfl, rfl, h1, h2, q⟩
   ·exact .inr (.inl ⟨p, xs, i, v, rfl, rfl, h1, h2, q⟩)
  | _ => exact h.elim
 | str z => cases y with
  | int i =>
   obtain ⟨h1, c, h2, q⟩ := h;exact .inr (.inr ⟨z, i, c, rfl, rfl, h1, h2, q⟩)
  | _ => exact h.elim
 | _ => exact h.elim
theorem e_ix (ha : PE X a ta) (hb : PE X b tb) (hs : PlainIx b := by intro _ _; rfl) : PE X (.Subscript a b pos) (tOp (cIx X.K) ta tb) := pe_ix ix_C ha hb hs
def cLen (K : aC) : V -> Hp -> VK -> Prop := fun x H Q => match x with
 | .str z => z.length <= sizeLine /\ Q (.int z.length) H
 | .ref p => ∃ ys, (SqL K H p ys \/ SqT K H p ys) /\ Q (.int ys.length) H
 | _ => False
def c1 (r : V -> Hp -> VK -> Prop) : List V -> Hp -> VK -> Prop := fun xs H Q => match xs with
 | [x] => r x H Q
 | _ => False
theorem e_len {p : Pos} (hm : X.mg "len" = none) (ha : PE X a ta) (hg : Gl X "len" := by rfl) (hs : starEach [a] X.env = [(false, eval a X.env)] := by rfl) : PE X (.Call (.Name "len" p) [a] [] pos) (tCB (c1 (cLen X.K)) (tCons ta tNil)) :=
 pe_callB (lD (CallR.or call_len_seq call_len_str) fun xs H Q h => by
  match xs, h with
  | [x], h =>
   cases x with
   | str z => exact .inr ⟨z, rfl, h.1, h.2⟩
   | ref p =>
    obtain ⟨ys, h1, q⟩ := h;exact .inl ⟨p, ys, rfl, h1, q⟩
   | _ => exact h.elim) hg hm boot_len (pa_cons ha pa_nil hs) (he := hs)
def cInt : V -> Hp -> VK -> Prop := fun x H Q => match x with
 | .int i => Q (.int i) H
 | .bl k => Q (.int (if k then 1 else 0)) H
 | _ => False
theorem e_int {p : Pos} (hm : X.mg "int" = none) (ha : PE X a ta) (hg : Gl X "int" := by rfl) (hs : starEach [a] X.env = [(false, eval a X.env)] := by rfl) : PE X (.Call (.Name "int" p) [a] [] pos) (tCB (c1 cInt) (tCons ta tNil)) :=
 pe_callTy (lD call_int1 fun xs H Q h => by
  match xs, h with
  | [x], h =>
   cases x with
   | int i => exact .inl ⟨i, rfl, h⟩
   | bl k => exact .inr ⟨k, rfl, h⟩
   | _ => exact h.elim) hg hm boot_int (pa_cons ha pa_nil hs) (he := hs)
def isTy (T n : String) : Bool := n == T || (n == "bool" && T == "int")
def kinds : List String := ["NoneType", "bool", "int", "str", "list", "tuple", "dict"]
def targets : List String := ["int", "bool", "str", "list", "tuple", "dict"]
theorem Jd (K : aC) : (kinds.all fun n => targets.all fun T => decide (PySem.W.kitOne K (.type n) (.type T) = some (isTy T n))) = true := by kernel_rfl
theorem Dj {K : aC} {n T : String} (hn : n ∈ kinds) (hT : T ∈ targets) : PySem.W.kitOne K (.type n) (.type T) = some (isTy T n) :=
 of_decide_eq_true (bZ.mp (bZ.mp (Jd K) n hn) T hT)
def A8 (K : aC) (H : Hp) (a : Addr) (n : String) : Prop := n ∈ ["list", "tuple", "dict"] /\ TyX K H (.ref a) (.type n)
def Ib (K : aC) (T : String) : V -> Hp -> VK -> Prop := fun x H Q => match x with
 | .non => Q (.bl false) H
 | .bl _ => Q (.bl (T == "bool" || T == "int")) H
 | .int _ => Q (.bl (T == "int")) H
 | .str _ => Q (.bl (T == "str")) H
 | .ref a => ∃ n, A8 K H a n /\ Q (.bl (n == T)) H
 | _ => False
def cIsiL (K : aC) (T : String) : List V -> Hp -> VK -> Prop := fun xs H Q => match xs with
 | [x, .ty n] => if n = T then Ib K T x H Q else False
 | _ => False
theorem Fx {T : String} (hT : T ∈ targets) : CallR X (.builtin "isinstance") (cIsiL X.K T) := lD call_isi fun xs H Q h => by
 match xs, h with
 | [x, .ty n], h =>
  have h0 : if n = T then Ib X.K T x H Q else False := h
  by_cases e : n = T
  case neg => rw [if_neg e] at h0; exact h0.elim
  rw [if_pos e] at h0
  replace h := h0
  subst e;have go : ∀ (k : String) (b : Bool), k ∈ kinds -> TyX X.K H x (.type k) -> b = isTy n k -> Q (.bl b) H -> rIsi X.K [x, .ty n] H Q := fun k b hk ty e q => ⟨x, .ty n, .type k, .type n, isTy n k, rfl, .ty n, ty, Dj hk hT, by rw [<- e]; exact q⟩
  have h6 : n = "int" \/ n = "bool" \/ n = "str" \/ n = "list" \/ n = "tuple" \/ n = "dict" := by simpa [targets] using hT
  cases x with
  | non => exact go "NoneType" false (by decide) (.base .non) (by rcases h6 with e | e | e | e | e | e <;> subst e <;> decide) h
  | bl b => exact go "bool" _ (by decide) (.base (.bl b)) (by rcases h6 with e | e | e | e | e | e <;> subst e <;> decide) h
  | int b => exact go "int" _ (by decide) (.base (.int b)) (by rcases h6 with e | e | e | e | e | e <;> subst e <;> decide) h
  | str b => exact go "str" _ (by decide) (.base (.str b)) (by rcases h6 with e | e | e | e | e | e <;> subst e <;> decide) h
  | ref a =>
   obtain ⟨k, ⟨hk, ty⟩, q⟩ := h;have h3 : k = "list" \/ k = "tuple" \/ k = "dict" := by simpa using hk
   exact go k _ (by rcases h3 with e | e | e <;> subst e <;> decide) ty (by rcases h6 with e | e | e | e | e | e <;> rcases h3 with e' | e' | e' <;> subst e <;> subst e' <;> decide) q
  | _ => exact h.elim
def cIsE (K : aC) (T : String) (ta : TE) : TE := fun σ H Q => ta σ H fun x H1 => Ib K T x H1 Q
theorem e_isi {p q : Pos} {T : String} {y : Str} (hm : X.mg "isinstance" = none) (hmT : X.mg y = none) (ha : PE X a ta) (hT : T ∈ targets := by decide) (hv : bootBuiltins y = some (.type T) := by decide +kernel)
  (hg : Gl X "isinstance" := by rfl) (hgT : Gl X y := by rfl) (hn : y ≠ "__name__" := by decide) (hd : (y == ("__debug__" : Str)) = false := by decide) (hs : starEach [a, .Name y q] X.env = (false, eval a X.env) :: starEach [.Name y q] X.env := by rfl) :
  PE X (.Call (.Name "isinstance" p) [a, .Name y q] [] pos) (cIsE X.K T ta) :=
 dF (pe_callB (Fx hT) hg hm boot_isinstance (pa_cons ha (pa_cons (pe_bltn (v := .ty T) hgT hmT hv rfl hn hd) pa_nil) hs) (he := hs)) fun σ H Q h => by
  show ta σ H fun x H1 => if T = T then Ib X.K T x H1 Q else False
  simp only [if_true];exact h
def cAll (K : aC) : V -> Hp -> VK -> Prop := fun x H Q => match x with
 | .ref p => ∃ bs : List Bool, SqL K H p (bs.map V.bl) /\ Q (.bl (bs.all id)) H
 | _ => False
theorem e_all {p : Pos} (hm : X.mg "all" = none) (ha : PE X a ta) (hc : X.calm = true := by rfl) (hg : Gl X "all" := by rfl) (hs : starEach [a] X.env = [(false, eval a X.env)] := by rfl) : PE X (.Call (.Name "all" p) [a] [] pos) (tCB (c1 (cAll X.K)) (tCons ta tNil)) :=
 pe_callB (lD (cr_all hc) fun xs H Q h => by
  match xs, h with
  | [x], h =>
   cases x with
   | ref p =>
    obtain ⟨bs, h1, q⟩ := h;exact ⟨p, bs, rfl, h1, q⟩
   | _ => exact h.elim) hg hm boot_all (pa_cons ha pa_nil hs) (he := hs)
def LY (K : aC) : V -> Hp -> VK -> Prop := fun x H Q => match x with
 | .ref p => ∃ ys, (SqL K H p ys \/ SqT K H p ys) /\ ∀ l, H l = none -> Q (.ref l) (upd H l (.lst ys))
 | _ => False
theorem NC {p : Pos} (hm : X.mg "list" = none) (ha : PE X a ta) (hg : Gl X "list" := by rfl) (hs : starEach [a] X.env = [(false, eval a X.env)] := by rfl) : PE X (.Call (.Name "list" p) [a] [] pos) (tCB (c1 (LY X.K)) (tCons ta tNil)) :=
 pe_callTy (lD call_list_of fun xs H Q h => by
  match xs, h with
  | [x], h =>
   cases x with
   | ref p =>
    obtain ⟨bs, h1, q⟩ := h;exact ⟨p, bs, rfl, h1, q⟩
   | _ => exact h.elim) hg hm boot_list (pa_cons ha pa_nil hs) (he := hs)
def IY (K : aC) : V -> Hp -> VK -> Prop := fun x H Q => match x with
 | .ref p => ∃ ys, SqL K H p ys /\ ∀ l, H l = none -> Q (.ref l) (upd H l (.tup ys))
 | _ => False
theorem Ke {p : Pos} (hm : X.mg "tuple" = none) (ha : PE X a ta) (hg : Gl X "tuple" := by rfl) (hs : starEach [a] X.env = [(false, eval a X.env)] := by rfl) : PE X (.Call (.Name "tuple" p) [a] [] pos) (tCB (c1 (IY X.K)) (tCons ta tNil)) :=
 pe_callTy (lD call_tuple_of fun xs H Q h => by
  match xs, h with
  | [x], h =>
   cases x with
   | ref p =>
    obtain ⟨ys, h1, q⟩ := h;exact ⟨p, ys, rfl, .inl ⟨h1, q⟩⟩
   | _ => exact h.elim) hg hm boot_tuple (pa_cons ha pa_nil hs) (he := hs)
end
def Ok (P : Program) (w : World) (K : aC) (mg : Str -> Option Value) (base : Heap) (k : Nat) (x : Str) (ps : List Str) (sp : Sp) : Prop :=
 ∃ fd, FnOk P w K mg base CX0 k (He.ga K x) fd ps sp /\ mg x = some (.ref (He.ga K x)) /\ AC K (.ref (He.ga K x)) = true /\ Binds K fd ps [] /\ ∃ oc od osl, K.lookup (He.ga K x) = some ⟨oc, od, .func fd, osl⟩
section
variable {P : Program} {w : World} {K : aC} {mg : Str -> Option Value} {base : Heap}
abbrev oZ (K : aC) (x : Str) (st : Stmt) : Prop := ∃ fd, FunD K x x (defArgs st) (defBody st) (defScope st) [] [] (He.ga K x) fd
end
section
variable {X : Cx} {o i e : Expr} {to ti te : TE} {pos tpos : Pos}
def Ez : V -> V -> Hp -> VK -> Prop := fun x y H Q => match x, y with
 | .ref p, .int i => ∃ xs v, H p = some (.lst xs) /\ 0 <= i /\ xs[i.toNat]? = some v /\ Q v H
 | _, _ => False
theorem Ff : PGet X Ez := by
 intro pins s σ H o i ov iv Q I ro ri h;cases o with
 | ref p => cases i with
  | int k =>
   obtain ⟨xs, v, hp, h0, hx, q⟩ := h;cases ro;obtain ⟨t, rfl⟩ := ri;obtain ⟨its, r, pl, hz⟩ := I.list (.inl (.inl hp));obtain ⟨w, ew, rw'⟩ := r.get hx;have hl := r.length;have hn := line63;have hlt : k.toNat < xs.length := (aI.mp hx).1;exact wpAny_getItem_list pl.isList h0 (by omega) (by simpa using ew) ⟨v, H, I, rw', q⟩
  | _ => exact h.elim
 | _ => exact h.elim
def Ex : V -> V -> V -> Hp -> (Hp -> Prop) -> Prop := fun o i v H Q => match o, i with
 | .ref p, .int k => ∃ xs, H p = some (.lst xs) /\ 0 <= k /\ k.toNat < xs.length /\ Q (upd H p (.lst (xs.set k.toNat v)))
 | _, _ => False
theorem AX : PSet X Ex := by
 intro pins s σ H o i v ov iv u Q I ro ri rv h;refine set_list pins s σ H o i v ov iv u Q I ro ri rv ?_
 cases o with
 | ref p => cases i with
  | int k =>
   obtain ⟨xs, hp, h0, hk, q⟩ := h;exact ⟨p, xs, k, k.toNat, rfl, rfl, hp, by unfold ixN; rw [if_pos h0, if_pos (by omega)], q⟩
  | _ => exact h.elim
 | _ => exact h.elim
def cIp (r : R2) : TIp := fun x y H Q => r x y H Q
theorem Eg : PIp X .Add (cIp rAddI) := fun pins s σ H x y v u Q I r1 r2 h => ip_add pins s σ H x y v u Q I r1 r2 (tN (g := fun i j => .int (i + j)) x y H Q h)
theorem Jn : PIp X .Sub (cIp Gm) := fun pins s σ H x y v u Q I r1 r2 h => ip_sub pins s σ H x y v u Q I r1 r2 (tN (g := fun i j => .int (i - j)) x y H Q h)
theorem Gh {op : Operator} {tip : TIp} (ho : PE X o to) (hi : PE X i ti) (he : PE X e te) (hp : PIp X op tip)
  (ha : ∀ ov iv new, augStore i ov iv new = (do holding [new, ov, iv] (setItem ov iv new); release [new, ov, iv] []; pure .next) := by intros; rfl) : PS X (.AugAssign (.Subscript o i tpos) op e pos) (tAugS to ti te Ez tip Ex) :=
 ps_augS ho hi Ff he hp AX ha
end
section
variable {X : Cx} {tg e : Expr} {te : TE} {pos p : Pos}
def rIsNC : R2 := fun x y H Q => match y with
 | .non => Q (.bl (decide (x = .non))) H
 | _ => False
def Gn : R2 := fun x y H Q => match y with
 | .non => Q (.bl (!decide (x = .non))) H
 | _ => False
theorem CH : OpR X (compareOp .IsNot) Gn := gX op_notN fun x y H Q h => by
 cases y with
 | non => exact ⟨rfl, h⟩
 | _ => exact h.elim
def cPart (t : TE) : TO := fun σ H Q => t σ H fun x H1 => match x with
 | .int i => Q (some i) H1
 | _ => False
theorem Gu (h : PE X e te) : PO X (some e) (cPart te) := by
 refine ⟨fun pins s σ H Q I hw => ?_⟩
 rw [evalPart_some];refine thn (h.run pins s σ H _ I hw) fun u s1 hq => ?_
 obtain ⟨x, H1, I1, r1, q1⟩ := hq;cases x with
 | int i =>
  obtain ⟨t, rfl⟩ := r1;exact ⟨some i, H1, I1, .int i t, q1⟩
 | _ => exact q1.elim
theorem Kr {r u : V -> Option Int -> Option Int -> Hp -> VK -> Prop} (h : SlR X r) (i : ∀ x lo hi H Q, u x lo hi H Q -> r x lo hi H Q) : SlR X u := by
 intro pins s σ H x v vl vu lo hi sl Q I rx hs pl pu q;exact h pins s σ H x v vl vu lo hi sl Q I rx hs pl pu (i x lo hi H Q q)
def cSl (K : aC) : V -> Option Int -> Option Int -> Hp -> VK -> Prop := fun x lo hi H Q => match x with
 | .ref a => (∃ xs, SqL K H a xs /\ ∀ p, H p = none -> Q (.ref p) (upd H p (.lst (cutV xs lo hi)))) \/ (∃ xs, SqT K H a xs /\
  (HT.sIx xs.length 0 lo = 0 /\ HT.sIx xs.length xs.length hi = xs.length -> Q (.ref a) H) /\ (¬ (HT.sIx xs.length 0 lo = 0 /\ HT.sIx xs.length xs.length hi = xs.length) -> ∀ p, H p = none -> Q (.ref p) (upd H p (.tup (cutV xs lo hi)))))
 | .str z => z.length <= sizeLine /\ Q (.str (cutS z lo hi)) H
 | _ => False
theorem sl_C : SlR X (cSl X.K) := Kr (SlR.or sl_list (SlR.or sl_tupA sl_str)) fun x lo hi H Q h => by
 cases x with
 | ref a =>
  rcases h with ⟨xs, h1, q⟩ | ⟨xs, h1, q⟩
  ·exact .inl ⟨a, xs, rfl, h1, q⟩
  ·exact .inr (.inl ⟨a, xs, rfl, h1, q⟩)
 | str z => exact .inr (.inr ⟨z, rfl, h⟩)
 | _ => exact h.elim
def iSeq (K : aC) (tl : TE) : TI := fun σ H R => tl σ H fun x H1 => match x with
 | .ref a => ((∃ xs, SqL K H1 a xs) /\ R (Itl K a) H1) \/ ((∃ xs, SqT K H1 a xs) /\ R (Itt K a) H1)
 | _ => False
theorem Lw (hl : PE X e te) : PI X tg e (iSeq X.K te) := by
 refine ⟨fun pins s σ H R I h => ?_⟩
 refine thn (hl.run pins s σ H _ I h) fun v s1 hq => ?_
 obtain ⟨x, H1, I1, r1, q1⟩ := hq;cases x with
 | ref a =>
  rcases q1 with ⟨h1, q⟩ | ⟨h1, q⟩
  ·cases r1
   obtain ⟨xs, hq⟩ := h1;obtain ⟨its, rv, p, hz⟩ := I1.list hq;refine wpAny_pyIter_list p.isList ?_
   refine ⟨s1.heap.objs.size, [s1.heap.objs.size], _, _, H1, rfl, I1.kept (t' := s1.toks) fun b o e => Heap.get?_push_of_some _ e, turn_list a _, ⟨_, Heap.get?_push_size _ rfl, rfl, rfl⟩, fun b hb => ?_, q⟩
   have e : b = s1.heap.objs.size := by simpa using hb
   subst e;exact I1.fpOk (bG _) (I1.hok.fresh (bG _))
  ·cases r1
   obtain ⟨xs, hq⟩ := h1;obtain ⟨its, rv, p, hz⟩ := I1.tuple hq;refine wpAny_pyIter_tuple (show s1.heap.IsTuple a its.toArray from p) ?_
   refine ⟨s1.heap.objs.size, [s1.heap.objs.size], _, _, H1, rfl, I1.kept (t' := s1.toks) fun b o e => Heap.get?_push_of_some _ e, turn_tuple a _, ⟨_, Heap.get?_push_size _ rfl, rfl, rfl⟩, fun b hb => ?_, q⟩
   have e : b = s1.heap.objs.size := by simpa using hb
   subst e;exact I1.fpOk (bG _) (I1.hok.fresh (bG _))
 | _ => exact q1.elim
def F0 : V -> List V -> Hp -> VK -> Prop := fun x vs H Q => match x, vs with
 | .ref l, [y] => ∃ xs, H l = some (.lst xs) /\ xs.length < sizeLine /\ Q .non (upd H l (.lst (xs ++ [y])))
 | _, _ => False
theorem Dh : MtR X "list.append" F0 := fun pins s σ H x xs v us Q I rx r h => mt_append pins s σ H x xs v us Q I rx r (by
 match x, xs, h with
 | .ref l, [y], ⟨xs, h1, h2, q⟩ => exact ⟨l, xs, y, rfl, rfl, h1, h2, q⟩)
theorem NF {x : Str} {i : Int} (h : ∃ t, X.mg x = some (.int i t)) (hg : Gl X x := by rfl) (hd : (x == ("__debug__" : Str)) = false := by decide) : PE X (.Name x pos) (tC (.int i)) := by
 obtain ⟨t, h⟩ := h;exact pe_glob hg h ⟨t, rfl⟩ hd
def Lc (K : aC) (d : Addr) (neg : Bool) : R2 := fun x y H Q => match x, y with
 | .str z, .ref a => a = d /\ ∃ r, iR K d z = some r /\ Q (.bl (if neg then !r.isSome else r.isSome)) H
 | _, _ => False
theorem BV {d : Addr} (D : ∃ es n, KDict X.K X.w d es n) : OpR X (compareOp .NotIn) (Lc X.K d true) := by
 obtain ⟨es, n, D⟩ := D;refine gX (op_notIn_kd D) fun x y H Q h => ?_
 match x, y, h with
 | .str z, .ref a, ⟨e, r, h1, q⟩ => exact ⟨z, r, rfl, by rw [e], h1, q⟩
def cIxKd (K : aC) (d : Addr) : R2 := fun x y H Q => match x, y with
 | .ref a, .str z => a = d /\ ∃ u v, iR K d z = some (some u) /\ RelV v u /\ Q v H
 | _, _ => False
theorem MN {d : Addr} (D : ∃ es n, KDict X.K X.w d es n) : IxR X (cIxKd X.K d) := by
 obtain ⟨es, n, D⟩ := D;refine F5 ix_kdict fun x y H Q h => ?_
 match x, y, h with
 | .ref a, .str z, ⟨e, u, v, h1, h2, q⟩ => exact ⟨d, z, v, by rw [e], rfl, ⟨es, n, u, D.at_, D.lit, h1, h2⟩, q⟩
end
def oK (P : Program) (w : World) (K : aC) (mg : Str -> Option Value) (base : Heap) (k : Nat) (x : Str) (ps : List Str) (sp : Sp) : Prop :=
 ∃ fd, FnOk P w K mg base (L2.CX P w) k (He.ga K x) fd ps sp /\ mg x = some (.ref (He.ga K x)) /\ AC K (.ref (He.ga K x)) = true /\ Binds K fd ps []
section
variable {P : Program} {w : World} {K : aC} {mg : Str -> Option Value} {base : Heap}
theorem Gx {x : Str} {st : Stmt} {N ps : List Str} {k : Nat} {sp : Sp} (F : oZ K x st) (g : mg x = some (.ref (He.ga K x))) (S : FnScope N ps (defScope st)) (len : ∀ vs H Q E, sp vs H Q E -> vs.length = ps.length)
  (bnd : ∀ (kV doc pm : Value) (an : Option Addr) (cdv ct : Value) (us : List Value), us.length = ps.length -> bindArgs (gM x x (defArgs st) (defBody st) (defScope st) .none kV doc pm an cdv ct) ⟨us, []⟩ = pure (ps.zip us))
  (hbody : ∀ (cdv : Value) (A : Around) (outer : List Env) (s : Shared) (H : Hp) (vs : List V) (Q : VK) (E : XK), Room k (A.deeper (envOfC x (defScope st) s.heap.objs.size (He.ga K x) cdv)) -> sp vs H Q E ->
   ∃ t, PSs (cxOf (L2.CX P w) P w K mg base N x (defScope st) (He.ga K x) cdv A outer s H E) (defBody st) t /\ t { nx := fun _ H' => Q .non H', rt := Q } (start N vs) H) : oK P w K mg base (k + 1) x ps sp := by
 obtain ⟨fd, F⟩ := F;refine ⟨fd, ?_, g, F.kp, F.bindsN bnd⟩
 obtain ⟨oc, od, dV, kV, doc, pm, an, cdv, ct, osl, e, lk, hc⟩ := F.ex;subst e;exact fn_of lk hc.1 S len fun A outer s H vs Q E hr hsp => hbody cdv A outer s H vs Q E hr hsp
end
def Lh : WX := fun _ _ _ _ => False
def LZ (K : aC) (T U : String) : V -> Hp -> (Bool -> Prop) -> Prop := fun x H Q => match x with
 | .non => Q false
 | .bl _ => Q (isTy T "bool" || isTy U "bool")
 | .int _ => Q (isTy T "int" || isTy U "int")
 | .str _ => Q (isTy T "str" || isTy U "str")
 | .ref a => ∃ n, A8 K H a n /\ Q (isTy T n || isTy U n)
 | _ => False
def Ia (K : aC) (T U : String) : List V -> Hp -> VK -> Prop := fun xs H Q => match xs with
 | [x, .ref tp] => H tp = some (.tup [.ty T, .ty U]) /\ LZ K T U x H fun b => Q (.bl b) H
 | _ => False
def cIsE2 (K : aC) (T U : String) (ta : TE) : TE := tCB (Ia K T U) (tCons ta (tCons (tTup (tCons (tC (.ty T)) (tCons (tC (.ty U)) tNil))) tNil))
section
variable {X : Cx} {a : Expr} {ta : TE} {pos p : Pos}
theorem Je {K : aC} {n T U : String} (hn : n ∈ kinds) (hT : T ∈ targets) (hU : U ∈ targets) : PySem.W.kitAny K (.type n) [.type T, .type U] = some (isTy T n || isTy U n) := by
 have h1 := Dj (K := K) hn hT;have h2 := Dj (K := K) hn hU;cases e1 : isTy T n with
 | true =>
  rw [e1] at h1;exact kitAny_cons h1 (fun z => by cases z) fun _ => rfl
 | false =>
  rw [e1] at h1;refine kitAny_cons h1 (fun _ => ?_) (fun z => by cases z)
  cases e2 : isTy U n with
  | true =>
   rw [e2] at h2;exact kitAny_cons h2 (fun z => by cases z) fun _ => rfl
  | false =>
   rw [e2] at h2;exact kitAny_cons h2 (fun _ => rfl) (fun z => by cases z)
theorem Fy {T U : String} (hT : T ∈ targets) (hU : U ∈ targets) : CallR X (.builtin "isinstance") (Ia X.K T U) := lD call_isiT fun xs H Q h => by
 match xs, h with
 | [x, .ref tp], ⟨ht, h⟩ =>
  have go : ∀ (k : String) (b : Bool), k ∈ kinds -> TyX X.K H x (.type k) -> b = (isTy T k || isTy U k) -> Q (.bl b) H -> rIsiT X.K [x, .ref tp] H Q := fun k b hk ty e q => ⟨x, tp, _, .type k, [.type T, .type U], _, rfl, ht, .cons (.ty T) (.cons (.ty U) .nil), ty, Je hk hT hU, by rw [<- e]; exact q⟩
  cases x with
  | non =>
   refine go "NoneType" false (by decide) (.base .non) ?_ h
   have : ∀ T ∈ targets, isTy T "NoneType" = false := by decide
   rw [this T hT, this U hU];rfl
  | bl b => exact go "bool" _ (by decide) (.base (.bl b)) rfl h
  | int b => exact go "int" _ (by decide) (.base (.int b)) rfl h
  | str b => exact go "str" _ (by decide) (.base (.str b)) rfl h
  | ref a =>
   obtain ⟨k, ⟨hk, ty⟩, q⟩ := h;have h3 : k = "list" \/ k = "tuple" \/ k = "dict" := by simpa using hk
   exact go k _ (by rcases h3 with e | e | e <;> subst e <;> decide) ty rfl q
  | _ => exact h.elim
theorem ND {q1 q2 tpos : Pos} {j : Nat} {T U : String} {y z : Str} (hm : X.mg "isinstance" = none) (hmT : X.mg y = none) (hmU : X.mg z = none) (ha : PE X a ta) (hT : T ∈ targets := by decide) (hU : U ∈ targets := by decide)
  (hv : bootBuiltins y = some (.type T) := by decide +kernel) (hw : bootBuiltins z = some (.type U) := by decide +kernel) (hg : Gl X "isinstance" := by rfl) (hgT : Gl X y := by rfl) (hgU : Gl X z := by rfl) (hn : y ≠ "__name__" := by decide) (hd : (y == ("__debug__" : Str)) = false := by decide) (hn2 : z ≠ "__name__" := by decide) (hd2 : (z == ("__debug__" : Str)) = false := by decide)
  (hs : starEach [a, .Tuple [.Name y q1, .Name z q2] j tpos] X.env = (false, eval a X.env) :: starEach [.Tuple [.Name y q1, .Name z q2] j tpos] X.env := by rfl) :
  PE X (.Call (.Name "isinstance" p) [a, .Tuple [.Name y q1, .Name z q2] j tpos] [] pos) (cIsE2 X.K T U ta) :=
 pe_callB (Fy hT hU) hg hm boot_isinstance (pa_cons ha (pa_cons (pe_tup (pa_cons (pe_bltn (v := .ty T) hgT hmT hv rfl hn hd) (pa_cons (pe_bltn (v := .ty U) hgU hmU hw rfl hn2 hd2) pa_nil))) pa_nil) hs) (he := hs)
end
structure OkMX (P : Program) (w : World) (K : aC) (mg : Str -> Option Value) (base : Heap) (k : Nat) (C m : Str) (ps : List Str) (sp : Sp) : Prop where
 ex : ∃ fd, FnOk P w K mg base (L2.CX P w) k (He.ma K (He.ga K C) m) fd ps sp /\ Binds K fd ps []
 mt : Meth K (He.ga K C) m (He.ma K (He.ga K C) m)
section
variable {X : Cx} {o e : Expr} {es : List Expr} {t : TA} {ta : TE} {apos pos p : Pos} {C m x : Str} {ps : List Str} {sp : Sp} {k j : Nat} {E : XK} {W : WX}
def cMeth (C : Addr) (m : Str) (sp : Sp) (E : XK) (ta : TE) (t : TA) : TE := fun σ H Q => ta σ H fun x H1 => match x with
 | .ref a => ∃ dx fs, H1 a = some (.ins C dx fs) /\ fs.lookup m = none /\ t σ H1 fun vs H2 => sp (.ref a :: vs) H2 Q E
 | _ => False
def cFld (C : Addr) (f : Str) (ta : TE) : TE := fun σ H Q => ta σ H fun x H1 => match x with
 | .ref a => ∃ dx fs v, H1 a = some (.ins C dx fs) /\ fs.lookup f = some v /\ Q v H1
 | _ => False
theorem e_fld {C : Addr} {f : Str} (c : Cls X.K C) (n : NoAttr X.K C f) (he : PE X e ta) (hb : attributeBase e f X.env (eval e X.env) = eval e X.env := by rfl) : PE X (.Attribute e f pos) (cFld C f ta) := by
 refine ⟨fun pins s σ H Q I h => ?_⟩
 refine attr_of hb (thn (he.run pins s σ H _ I h) fun u s1 hh => ?_)
 obtain ⟨x, H1, I1, rx, hq⟩ := hh;cases x with
 | ref a =>
  obtain ⟨dx, fs, v, ea, l, q⟩ := hq;obtain rfl : u = Value.ref a := rx;exact getattr_ok I1 ea c n l fun _ _ I2 ru => ⟨v, H1, I2, ru, q⟩
 | _ => exact hq.elim
def cSetF (C : Addr) (f : Str) (ta tv : TE) : TS := fun D σ H => tv σ H fun y H1 => ta σ H1 fun x H2 => match x with
 | .ref a => ∃ dx fs, H2 a = some (.ins C dx fs) /\ fs.length < 1000 /\ D.nx σ (upd H2 a (.ins C dx (putF f y fs)))
 | _ => False
theorem Lq {C : Addr} {f : Str} {value : Expr} {tv : TE} {pos' : Pos} (c : Cls X.K C) (n : NoAttr X.K C f) (ha : PE X o ta) (hv : PE X value tv) (hs : swapsWith value (some (.Attribute o f pos')) pos.line X.env = pure false := by rfl) : PS X (.Assign [.Attribute o f pos'] value pos) (cSetF C f ta tv) := by
 refine ⟨fun pins s σ H D I h => ?_⟩
 refine plainObj_wpAny_Assign_Attribute (thn (hv.run pins s σ H _ I h) fun u s1 hh => ?_) hs
 obtain ⟨y, H1, I1, ry, q⟩ := hh;refine thn (ha.run pins s1 σ H1 _ I1 q) fun ov s2 hh => ?_
 obtain ⟨x, H2, I2, rx, hq⟩ := hh;cases x with
 | ref a =>
  obtain ⟨dx, fs, ea, l, q2⟩ := hq;obtain rfl : ov = Value.ref a := rx;exact setattr_ok I2 ea c n l ry fun _ I3 => ⟨σ, _, I3, q2⟩
 | _ => exact hq.elim
structure ClF (K : aC) (mg : Str -> Option Value) (C : Str) : Prop where
 cls : Cls K (He.ga K C)
 mak : Mk K (He.ga K C) (He.ma K (He.ga K C) "__init__")
 glo : mg C = some (.ref (He.ga K C))
end
abbrev J1 (K : aC) (C m q : Str) (st : Stmt) : Prop := ∃ fd, FunD K m q (defArgs st) (defBody st) (defScope st) [] [] (He.ma K (He.ga K C) m) fd
section
variable {P : Program} {w : World} {K : aC} {mg : Str -> Option Value} {base : Heap}
theorem JS {C m q : Str} {st : Stmt} {N ps : List Str} {k : Nat} {sp : Sp} (F : J1 K C m q st) (g : Meth K (He.ga K C) m (He.ma K (He.ga K C) m)) (S : FnScope N ps (defScope st)) (len : ∀ vs H Q E, sp vs H Q E -> vs.length = ps.length)
  (bnd : ∀ (kV doc pm : Value) (an : Option Addr) (cdv ct : Value) (us : List Value), us.length = ps.length -> bindArgs (gM m q (defArgs st) (defBody st) (defScope st) .none kV doc pm an cdv ct) ⟨us, []⟩ = pure (ps.zip us))
  (hbody : ∀ (cdv : Value) (A : Around) (outer : List Env) (s : Shared) (H : Hp) (vs : List V) (Q : VK) (E : XK), Room k (A.deeper (envOfC q (defScope st) s.heap.objs.size (He.ma K (He.ga K C) m) cdv)) -> sp vs H Q E ->
   ∃ t, PSs (cxOf (L2.CX P w) P w K mg base N q (defScope st) (He.ma K (He.ga K C) m) cdv A outer s H E) (defBody st) t /\ t { nx := fun _ H' => Q .non H', rt := Q } (start N vs) H) : OkMX P w K mg base (k + 1) C m ps sp := by
 obtain ⟨fd, F⟩ := F;exact ⟨⟨fd, FunD.ok F S len fun cdv A outer s H vs Q E hr hsp => hbody cdv A outer s H vs Q E hr hsp, F.bindsN bnd⟩, g⟩
end
inductive D where
 | non | bl (b : Bool) | int (i : Int) | str (x : Str) | lst (xs : List D) | tup (xs : List D) | ins (C : Str) (ns : List Str) (xs : List D) | dct | opq (k : Option (Int × Int))
inductive Vl where
 | dat (d : D) | cel (n : Nat) | cels (ns : List Nat) | scr (ns : List Int) | tc (xs : List (D ⊕ Nat))
inductive Cell where
 | dead | lst (xs : List D) | ins (C : Str) (fs : List (Str × Vl)) | dct (fs : List (Str × Vl)) | lv (xs : List Vl) | dki (ks : List Int) (xs : List Vl) | dkt (ks : List (Int × Int)) (xs : List Vl)
abbrev aO := List Cell
abbrev Ev := List (Option Vl)
structure Er where
 cls : Str
 ns : List Str := []
 xs : List D := []
inductive Res (α : Type) where
 | ok (a : α) (S : aO) | err (e : Er) (S : aO) | stuck
def Res.bind {α β : Type} (r : Res α) (k : α -> aO -> Res β) : Res β := match r with
 | .ok a S => k a S
 | .err e S => .err e S
 | .stuck => .stuck
def jA (φ : List Addr) (S : aO) (a : Addr) : Prop := ∃ (n : Nat) (c : Cell), S[n]? = some c /\ c ≠ .dead /\ φ[n]? = some a
def jZ (B : Addr -> Prop) (φ : List Addr) (S : aO) (a : Addr) : Prop := B a \/ jA φ S a
mutual
/-- the tree d is at v -/
def Rep (K : aC) (Bk : Addr -> Prop) (H : Hp) : D -> V -> Prop
 | .non, v => v = .non
 | .bl b, v => v = .bl b
 | .int i, v => v = .int i
 | .str x, v => v = .str x
 | .lst ds, v => ∃ a vs, v = .ref a /\ ¬ Bk a /\ H a = some (.lst vs) /\ RepL K Bk H ds vs
 | .tup ds, v => ∃ a vs, v = .ref a /\ SqT K H a vs /\ RepL K Bk H ds vs
 | .ins C ns ds, v => ∃ a dx vs, v = .ref a /\ ¬ Bk a /\ H a = some (.ins (He.ga K C) dx (ns.zip vs)) /\ RepL K Bk H ds vs
 | .dct, v => ∃ a, v = .ref a /\ ¬ Bk a /\ H a = some (.dK [])
 | .opq none, v => ∃ a, v = .ref a
 | .opq (some k), v => ∃ a, v = .ref a /\ ¬ Bk a /\ H a = some (.tup [.int k.1, .int k.2])
def RepL (K : aC) (Bk : Addr -> Prop) (H : Hp) : List D -> List V -> Prop
 | [], vs => vs = []
 | d :: ds, vs => ∃ v ws, vs = v :: ws /\ Rep K Bk H d v /\ RepL K Bk H ds ws
end
structure Kp (Bk : Addr -> Prop) (H : Hp) (Bk' : Addr -> Prop) (H' : Hp) : Prop where
 old : ∀ b o, H b = some o -> ¬ Bk b -> H' b = some o /\ ¬ Bk' b
 tup : ∀ b u, Rd H b (.tup u) -> Rd H' b (.tup u)
theorem SqT.kp {K : aC} {H H' : Hp} {a : Addr} {vs : List V} (t : ∀ b u, Rd H b (.tup u) -> Rd H' b (.tup u)) (h : SqT K H a vs) : SqT K H' a vs := by
 rcases h with h | h
 ·exact .inl (t _ _ h)
 ·exact .inr h
mutual
theorem Rep.kp {K : aC} {Bk Bk' : Addr -> Prop} {H H' : Hp} (k' : Kp Bk H Bk' H') : ∀ (d : D) (v : V), Rep K Bk H d v -> Rep K Bk' H' d v
 | .non, v, h => h
 | .bl b, v, h => h
 | .int i, v, h => h
 | .str x, v, h => h
 | .lst ds, v, ⟨a, vs, e, nb, h, r⟩ => ⟨a, vs, e, (k'.old _ _ h nb).2, (k'.old _ _ h nb).1, RepL.kp k' ds vs r⟩
 | .tup ds, v, ⟨a, vs, e, h, r⟩ => ⟨a, vs, e, SqT.kp k'.tup h, RepL.kp k' ds vs r⟩
 | .ins C ns ds, v, ⟨a, dx, vs, e, nb, h, r⟩ => ⟨a, dx, vs, e, (k'.old _ _ h nb).2, (k'.old _ _ h nb).1, RepL.kp k' ds vs r⟩
 | .dct, v, ⟨a, e, nb, h⟩ => ⟨a, e, (k'.old _ _ h nb).2, (k'.old _ _ h nb).1⟩
 | .opq none, v, h => h
 | .opq (some k), v, ⟨a, e, nb, h⟩ => ⟨a, e, (k'.old _ _ h nb).2, (k'.old _ _ h nb).1⟩
theorem RepL.kp {K : aC} {Bk Bk' : Addr -> Prop} {H H' : Hp} (k : Kp Bk H Bk' H') : ∀ (ds : List D) (vs : List V), RepL K Bk H ds vs -> RepL K Bk' H' ds vs
 | [], vs, h => h
 | d :: ds, vs, ⟨v, ws, e, h1, h2⟩ => ⟨v, ws, e, Rep.kp k d v h1, RepL.kp k ds ws h2⟩
end
def ScrAt (K : aC) (H : Hp) (a : Addr) (vs : List V) : Prop := (∃ o, H a = some (.frz o (.lst vs))) \/ SqL K (fun _ => none) a vs
theorem ScrAt.sq {K : aC} {H : Hp} {a : Addr} {vs : List V} (h : ScrAt K H a vs) : SqL K H a vs := by
 rcases h with ⟨o, h⟩ | (h | ⟨o, h⟩) | h
 ·exact .inl (.inr ⟨o, h⟩)
 ·cases h
 ·cases h
 ·exact .inr h
theorem ScrAt.keep {K : aC} {H H' : Hp} {a : Addr} {vs : List V} (h : ScrAt K H a vs) (k : ∀ o u, H a = some (.frz o u) -> H' a = some (.frz o u)) : ScrAt K H' a vs := by
 rcases h with ⟨o, h⟩ | h
 ·exact .inl ⟨o, k _ _ h⟩
 ·exact .inr h
def RepI (K : aC) (Bk : Addr -> Prop) (φ : List Addr) (H : Hp) : D ⊕ Nat -> V -> Prop
 | .inl d, v => Rep K Bk H d v
 | .inr n, v => ∃ a, v = .ref a /\ φ[n]? = some a
def RepIs (K : aC) (Bk : Addr -> Prop) (φ : List Addr) (H : Hp) : List (D ⊕ Nat) -> List V -> Prop
 | [], vs => vs = []
 | x :: xs, vs => ∃ v ws, vs = v :: ws /\ RepI K Bk φ H x v /\ RepIs K Bk φ H xs ws
theorem RepI.kp {K : aC} {Bk Bk' : Addr -> Prop} {φ φ' : List Addr} {H H' : Hp} (k : Kp Bk H Bk' H') (hφ : ∀ (n : Nat) (a : Addr), φ[n]? = some a -> φ'[n]? = some a) : ∀ {x : D ⊕ Nat} {v : V}, RepI K Bk φ H x v -> RepI K Bk' φ' H' x v
 | .inl d, v, h => Rep.kp k d v h
 | .inr n, v, ⟨a, h1, h2⟩ => ⟨a, h1, hφ _ _ h2⟩
theorem RepIs.kp {K : aC} {Bk Bk' : Addr -> Prop} {φ φ' : List Addr} {H H' : Hp} (k : Kp Bk H Bk' H') (hφ : ∀ (n : Nat) (a : Addr), φ[n]? = some a -> φ'[n]? = some a) : ∀ {xs : List (D ⊕ Nat)} {vs : List V}, RepIs K Bk φ H xs vs -> RepIs K Bk' φ' H' xs vs
 | [], vs, h => h
 | x :: xs, vs, ⟨v, ws, e, h1, h2⟩ => ⟨v, ws, e, h1.kp k hφ, RepIs.kp k hφ h2⟩
def RepV (K : aC) (B : Addr -> Prop) (φ : List Addr) (S : aO) (H : Hp) : Vl -> V -> Prop
 | .dat d, v => Rep K (jZ B φ S) H d v
 | .cel n, v => ∃ a, v = .ref a /\ φ[n]? = some a
 | .cels ns, v => ∃ (a : Addr) (as : List Addr), v = .ref a /\ ¬ jZ B φ S a /\ H a = some (.lst (as.map V.ref)) /\ ns.map (fun n => φ[n]?) = as.map some
 | .scr ns, v => ∃ a, v = .ref a /\ ScrAt K H a (ns.map V.int)
 | .tc xs, v => ∃ a vs, v = .ref a /\ SqT K H a vs /\ RepIs K (jZ B φ S) φ H xs vs
def RepVs (K : aC) (B : Addr -> Prop) (φ : List Addr) (S : aO) (H : Hp) : List Vl -> List V -> Prop
 | [], vs => vs = []
 | d :: ds, vs => ∃ v ws, vs = v :: ws /\ RepV K B φ S H d v /\ RepVs K B φ S H ds ws
def RepF (K : aC) (B : Addr -> Prop) (φ : List Addr) (S : aO) (H : Hp) : List (Str × Vl) -> List (Str × V) -> Prop
 | [], vs => vs = []
 | d :: ds, vs => ∃ v ws, vs = (d.1, v) :: ws /\ RepV K B φ S H d.2 v /\ RepF K B φ S H ds ws
def kvOf (fs : List (Str × V)) : List (Key × V) := fs.map fun p => (Sum.inr p.1, p.2)
def kvI (ks : List Int) (vs : List V) : List (Key × V) := (ks.map Sum.inl).zip vs
def kvT (ks : List (Int × Int)) (vs : List V) : List (List Key × V) := (ks.map fun p => [Sum.inl p.1, Sum.inl p.2]).zip vs
def AA (K : aC) (B : Addr -> Prop) (φ : List Addr) (S : aO) (H : Hp) : Cell -> Addr -> Prop
 | .dead, _ => True
 | .lst ds, a => ∃ vs, H a = some (.lst vs) /\ RepL K (jZ B φ S) H ds vs
 | .ins C fs, a => ∃ dx vfs, H a = some (.ins (He.ga K C) dx vfs) /\ RepF K B φ S H fs vfs
 | .dct fs, a => ∃ vfs, H a = some (.dK (kvOf vfs)) /\ RepF K B φ S H fs vfs
 | .lv xs, a => ∃ vs, H a = some (.lst vs) /\ RepVs K B φ S H xs vs
 | .dki ks xs, a => ∃ vs, H a = some (.dK (kvI ks vs)) /\ RepVs K B φ S H xs vs
 | .dkt ks xs, a => ∃ vs, H a = some (.dT (kvT ks vs)) /\ RepVs K B φ S H xs vs
structure GInv (K : aC) (B : Addr -> Prop) (φ : List Addr) (S : aO) (H : Hp) : Prop where
 len : φ.length = S.length
 ok : ∀ (n : Nat) (c : Cell) (a : Addr), S[n]? = some c -> φ[n]? = some a -> AA K B φ S H c a
 inj : ∀ (n m : Nat) (c c' : Cell) (a : Addr), S[n]? = some c -> c ≠ .dead -> S[m]? = some c' -> c' ≠ .dead -> φ[n]? = some a -> φ[m]? = some a -> n = m
 blk : ∀ a, jA φ S a -> ¬ B a
 btr : ∀ a, B a -> ∃ o, H a = some o
structure Ext (φ : List Addr) (S : aO) (H : Hp) (φ' : List Addr) (S' : aO) (H' : Hp) : Prop where
 old : ∀ b o, H b = some o -> ¬ jA φ S b -> H' b = some o /\ ¬ jA φ' S' b
 ids : ∀ (n : Nat) (a : Addr), φ[n]? = some a -> φ'[n]? = some a
section
variable {K : aC} {B : Addr -> Prop} {φ φ' φ₂ : List Addr} {S S' S₂ : aO} {H H' H₂ : Hp}
theorem Ext.refl : Ext φ S H φ S H := ⟨fun _ _ h n => ⟨h, n⟩, fun _ _ h => h⟩
theorem Ext.trans (a : Ext φ S H φ' S' H') (b : Ext φ' S' H' φ₂ S₂ H₂) : Ext φ S H φ₂ S₂ H₂ :=
 ⟨fun c o h n => b.old c o (a.old c o h n).1 (a.old c o h n).2, fun n x h => b.ids n x (a.ids n x h)⟩
theorem GInv.at_ (I : GInv K B φ S H) {a : Addr} (h : jA φ S a) : (∃ vs, H a = some (.lst vs)) \/ (∃ C dx fs, H a = some (.ins C dx fs)) \/ (∃ kvs, H a = some (.dK kvs)) \/ ∃ kvs, H a = some (.dT kvs) := by
 obtain ⟨n, c, h1, h2, h3⟩ := h;have q := I.ok n c a h1 h3;cases c with
 | dead => exact absurd rfl h2
 | lst ds => obtain ⟨vs, e, _⟩ := q; exact .inl ⟨vs, e⟩
 | ins C fs => obtain ⟨dx, vs, e, _⟩ := q; exact .inr (.inl ⟨_, dx, vs, e⟩)
 | dct fs => obtain ⟨vs, e, _⟩ := q; exact .inr (.inr (.inl ⟨_, e⟩))
 | lv xs => obtain ⟨vs, e, _⟩ := q; exact .inl ⟨vs, e⟩
 | dki ks xs => obtain ⟨vs, e, _⟩ := q; exact .inr (.inr (.inl ⟨_, e⟩))
 | dkt ks xs => obtain ⟨vs, e, _⟩ := q; exact .inr (.inr (.inr ⟨_, e⟩))
theorem GInv.some_ (I : GInv K B φ S H) {a : Addr} (h : jA φ S a) : H a ≠ none := by
 rcases I.at_ h with ⟨_, e⟩ | ⟨_, _, _, e⟩ | ⟨_, e⟩ | ⟨_, e⟩ <;> rw [e] <;> simp
theorem GInv.fresh (I : GInv K B φ S H) {a : Addr} (h : H a = none) : ¬ jA φ S a := fun q => I.some_ q h
theorem GInv.nblk (I : GInv K B φ S H) {a : Addr} (h : H a = none) : ¬ jZ B φ S a := fun q => by
 rcases q with q | q
 ·obtain ⟨u, e⟩ := I.btr a q; rw [h] at e; cases e
 ·exact I.fresh h q
theorem GInv.ntup (I : GInv K B φ S H) {a : Addr} {xs : List V} (h : H a = some (.tup xs)) : ¬ jA φ S a := fun q => by
 rcases I.at_ q with ⟨_, e⟩ | ⟨_, _, _, e⟩ | ⟨_, e⟩ | ⟨_, e⟩ <;> rw [h] at e <;> cases e
theorem GInv.nfrz (I : GInv K B φ S H) {a : Addr} {o : Obj} {u : HO} (h : H a = some (.frz o u)) : ¬ jA φ S a := fun q => by
 rcases I.at_ q with ⟨_, e⟩ | ⟨_, _, _, e⟩ | ⟨_, e⟩ | ⟨_, e⟩ <;> rw [h] at e <;> cases e
theorem Ext.kp (e : Ext φ S H φ' S' H') (I : GInv K B φ S H) : Kp (jZ B φ S) H (jZ B φ' S') H' where
 old := fun b o h n => by
  obtain ⟨h1, h2⟩ := e.old b o h (fun q => n (.inr q))
  exact ⟨h1, fun q => by
   rcases q with q | q
   ·exact n (.inl q)
   ·exact h2 q⟩
 tup := fun b u h => by
  rcases h with h | ⟨o, h⟩
  ·exact .inl (e.old _ _ h (I.ntup h)).1
  ·exact .inr ⟨o, (e.old _ _ h (I.nfrz h)).1⟩
theorem BW (e : ∀ (n : Nat) (a : Addr), φ[n]? = some a -> φ'[n]? = some a) : ∀ (ns : List Nat) (as : List Addr), ns.map (fun n => φ[n]?) = as.map some -> ns.map (fun n => φ'[n]?) = as.map some
 | [], as, h => h
 | n :: ns, [], h => by simp at h
 | n :: ns, a :: as, h => by
  simp only [aN, List.cons.injEq] at h ⊢;exact ⟨e _ _ h.1, BW e ns as h.2⟩
theorem RepV.ext (e : Ext φ S H φ' S' H') (I : GInv K B φ S H) : ∀ {d : Vl} {v : V}, RepV K B φ S H d v -> RepV K B φ' S' H' d v
 | .dat d, v, h => Rep.kp (e.kp I) d v h
 | .cel n, v, ⟨a, h1, h2⟩ => ⟨a, h1, e.ids _ _ h2⟩
 | .cels ns, v, ⟨a, as, h1, h2, h3, h4⟩ => ⟨a, as, h1, ((e.kp I).old _ _ h3 h2).2, ((e.kp I).old _ _ h3 h2).1, BW e.ids ns as h4⟩
 | .scr ns, v, ⟨a, h1, h2⟩ => ⟨a, h1, h2.keep fun o u h => (e.old _ _ h (I.nfrz h)).1⟩
 | .tc xs, v, ⟨a, vs, h1, h2, h3⟩ => ⟨a, vs, h1, SqT.kp (e.kp I).tup h2, h3.kp (e.kp I) e.ids⟩
theorem RepVs.ext (e : Ext φ S H φ' S' H') (I : GInv K B φ S H) : ∀ {ds : List Vl} {vs : List V}, RepVs K B φ S H ds vs -> RepVs K B φ' S' H' ds vs
 | [], vs, h => h
 | d :: ds, vs, ⟨v, ws, e1, h1, h2⟩ => ⟨v, ws, e1, h1.ext e I, RepVs.ext e I h2⟩
theorem RepF.ext (e : Ext φ S H φ' S' H') (I : GInv K B φ S H) : ∀ {ds : List (Str × Vl)} {vs : List (Str × V)}, RepF K B φ S H ds vs -> RepF K B φ' S' H' ds vs
 | [], vs, h => h
 | d :: ds, vs, ⟨v, ws, e1, h1, h2⟩ => ⟨v, ws, e1, h1.ext e I, RepF.ext e I h2⟩
theorem Ext.repL (e : Ext φ S H φ' S' H') (I : GInv K B φ S H) {ds : List D} {vs : List V} (h : RepL K (jZ B φ S) H ds vs) : RepL K (jZ B φ' S') H' ds vs := RepL.kp (e.kp I) ds vs h
theorem eK {B' : Addr -> Prop} (hV : ∀ {d : Vl} {v : V}, RepV K B φ S H d v -> RepV K B' φ' S' H' d v) : ∀ {ds : List Vl} {vs : List V}, RepVs K B φ S H ds vs -> RepVs K B' φ' S' H' ds vs
 | [], vs, h => h
 | d :: ds, vs, ⟨v, ws, e1, h1, h2⟩ => ⟨v, ws, e1, hV h1, eK hV h2⟩
def RepE (K : aC) (B : Addr -> Prop) (φ : List Addr) (S : aO) (H : Hp) (ρ : Ev) (σ : L2.St) : Prop :=
 ρ.length = σ.length /\ ∀ (i : Nat) (d : Vl), ρ[i]? = some (some d) -> ∃ v, σ[i]? = some (some v) /\ RepV K B φ S H d v
theorem RepE.ext {ρ : Ev} {σ : L2.St} (e : Ext φ S H φ' S' H') (I : GInv K B φ S H) (h : RepE K B φ S H ρ σ) : RepE K B φ' S' H' ρ σ :=
 ⟨h.1, fun i d q => by
  obtain ⟨v, h1, h2⟩ := h.2 i d q;exact ⟨v, h1, h2.ext e I⟩⟩
theorem RepE.set {ρ : Ev} {σ : L2.St} {d : Vl} {v : V} (h : RepE K B φ S H ρ σ) (r : RepV K B φ S H d v) (i : Nat) : RepE K B φ S H (ρ.set i (some d)) (σ.set i (some v)) := by
 refine ⟨by simp [h.1], fun j d' q => ?_⟩
 rw [bD] at q ⊢
 by_cases e : i = j
 ·subst e
  rw [if_pos rfl] at q ⊢
  by_cases hl : i < ρ.length
  ·rw [if_pos hl] at q
   cases q;rw [if_pos (by rw [<- h.1]; exact hl)]
   exact ⟨v, rfl, r⟩
  ·rw [if_neg hl] at q; cases q
 ·rw [if_neg e] at q ⊢
  exact h.2 j d' q
theorem RepE.forget {ρ : Ev} {σ : L2.St} (h : RepE K B φ S H ρ σ) (i : Nat) : RepE K B φ S H (ρ.set i none) σ := by
 refine ⟨by simp [h.1], fun j d' q => ?_⟩
 rw [bD] at q
 by_cases e : i = j
 ·subst e
  rw [if_pos rfl] at q
  by_cases hl : i < ρ.length
  ·rw [if_pos hl] at q; cases q
  ·rw [if_neg hl] at q; cases q
 ·rw [if_neg e] at q
  exact h.2 j d' q
theorem oY {x : Cell} {p a : Addr} (hl : φ.length = S.length) : jA (φ ++ [p]) (S ++ [x]) a ↔ jA φ S a \/ (x ≠ .dead /\ a = p) := by
 constructor
 ·rintro ⟨n, c, h1, h2, h3⟩
  by_cases hn : n < S.length
  ·rw [aQ hn] at h1
   rw [aQ (by omega)] at h3
   exact .inl ⟨n, c, h1, h2, h3⟩
  ·have e : n = S.length := by
    have := (aI.mp h1).1;simp at this;omega
   subst e;rw [cP (bG _)] at h1;rw [<- hl, cP (bG _)] at h3;simp at h1 h3;subst h1;exact .inr ⟨h2, h3.symm⟩
 ·rintro (⟨n, c, h1, h2, h3⟩ | ⟨h, rfl⟩)
  ·exact ⟨n, c, by rw [aQ (aI.mp h1).1]; exact h1, h2, by rw [aQ (aI.mp h3).1]; exact h3⟩
  ·exact ⟨S.length, x, by simp, h, by rw [<- hl]; simp⟩
theorem Ext.new {p : Addr} {o : HO} (I : GInv K B φ S H) (hp : H p = none) : Ext φ S H φ S (upd H p o) :=
 ⟨fun b u h n => ⟨by rw [upd_ne (ne_of_none h hp)]; exact h, n⟩, fun _ _ h => h⟩
theorem GInv.mono {o : Ext φ S H φ S H'} (I : GInv K B φ S H) (h : ∀ (n : Nat) (c : Cell) (a : Addr), S[n]? = some c -> c ≠ .dead -> φ[n]? = some a -> H' a = H a) : GInv K B φ S H' where
 len := I.len
 ok := fun n c a h1 h2 => by
  have q := I.ok n c a h1 h2;cases c with
  | dead => trivial
  | lst ds => obtain ⟨vs, e, r⟩ := q; exact ⟨vs, by rw [h n _ a h1 (by simp) h2]; exact e, o.repL I r⟩
  | ins C fs => obtain ⟨dx, vs, e, r⟩ := q; exact ⟨dx, vs, by rw [h n _ a h1 (by simp) h2]; exact e, r.ext o I⟩
  | dct fs => obtain ⟨vs, e, r⟩ := q; exact ⟨vs, by rw [h n _ a h1 (by simp) h2]; exact e, r.ext o I⟩
  | lv xs => obtain ⟨vs, e, r⟩ := q; exact ⟨vs, by rw [h n _ a h1 (by simp) h2]; exact e, r.ext o I⟩
  | dki ks xs => obtain ⟨vs, e, r⟩ := q; exact ⟨vs, by rw [h n _ a h1 (by simp) h2]; exact e, r.ext o I⟩
  | dkt ks xs => obtain ⟨vs, e, r⟩ := q; exact ⟨vs, by rw [h n _ a h1 (by simp) h2]; exact e, r.ext o I⟩
 inj := I.inj
 blk := I.blk
 btr := fun a h => by
  obtain ⟨u, e⟩ := I.btr a h;exact ⟨u, (o.old a u e fun q => I.blk a q h).1⟩
theorem GInv.new {p : Addr} {o : HO} (I : GInv K B φ S H) (hp : H p = none) : GInv K B φ S (upd H p o) :=
 GInv.mono (o := Ext.new I hp) I fun n c a h1 h2 h3 => by
  rw [upd_ne];intro e;subst e;exact I.fresh hp ⟨n, c, h1, h2, h3⟩
theorem Ext.newC {p : Addr} {o : HO} {x : Cell} (I : GInv K B φ S H) (hp : H p = none) : Ext φ S H (φ ++ [p]) (S ++ [x]) (upd H p o) where
 old := fun b u h n => by
  have hb : b ≠ p := ne_of_none h hp;exact ⟨by rw [upd_ne hb]; exact h, fun q => by
   rcases (oY I.len).mp q with q | ⟨_, q⟩
   ·exact n q
   ·exact hb q⟩
 ids := fun n a h => by rw [aQ (aI.mp h).1]; exact h
theorem GInv.newC {p : Addr} {o : HO} {x : Cell} (I : GInv K B φ S H) (hp : H p = none) (hx : x ≠ .dead -> AA K B (φ ++ [p]) (S ++ [x]) (upd H p o) x p) : GInv K B (φ ++ [p]) (S ++ [x]) (upd H p o) where
 len := by simp [I.len]
 ok := fun n c a h1 h2 => by
  by_cases hn : n < S.length
  ·rw [aQ hn] at h1
   rw [aQ (by rw [I.len]; exact hn)] at h2
   have q := I.ok n c a h1 h2;have ex := Ext.newC (o := o) (x := x) I hp;have ha : c ≠ .dead -> upd H p o a = H a := fun hc => by
    rw [upd_ne];intro e;subst e;exact I.fresh hp ⟨n, c, h1, hc, h2⟩
   cases c with
   | dead => trivial
   | lst ds => obtain ⟨vs, e, r⟩ := q; exact ⟨vs, by rw [ha (by simp)]; exact e, ex.repL I r⟩
   | ins C fs => obtain ⟨dx, vs, e, r⟩ := q; exact ⟨dx, vs, by rw [ha (by simp)]; exact e, r.ext ex I⟩
   | dct fs => obtain ⟨vs, e, r⟩ := q; exact ⟨vs, by rw [ha (by simp)]; exact e, r.ext ex I⟩
   | lv xs => obtain ⟨vs, e, r⟩ := q; exact ⟨vs, by rw [ha (by simp)]; exact e, r.ext ex I⟩
   | dki ks xs => obtain ⟨vs, e, r⟩ := q; exact ⟨vs, by rw [ha (by simp)]; exact e, r.ext ex I⟩
   | dkt ks xs => obtain ⟨vs, e, r⟩ := q; exact ⟨vs, by rw [ha (by simp)]; exact e, r.ext ex I⟩
  ·have e : n = S.length := by
    have := (aI.mp h1).1;simp at this;omega
   subst e;rw [cP (bG _)] at h1;rw [<- I.len, cP (bG _)] at h2;simp at h1 h2;subst h1 h2;cases x with
   | dead => trivial
   | _ => exact hx (by simp)
 inj := fun n m c c' a h1 h2 h3 h4 h5 h6 => by
  have key : ∀ (n : Nat) (c : Cell), (S ++ [x])[n]? = some c -> (n < S.length /\ S[n]? = some c) \/ n = S.length := fun n c h => by
   by_cases hn : n < S.length
   ·rw [aQ hn] at h; exact .inl ⟨hn, h⟩
   ·have := (aI.mp h).1
    simp at this;exact .inr (by omega)
  have kφ : ∀ n : Nat, n < S.length -> (φ ++ [p])[n]? = φ[n]? := fun n hn => aQ (by rw [I.len]; exact hn)
  have kp : (φ ++ [p])[S.length]? = some p := by rw [<- I.len]; simp
  rcases key n c h1 with ⟨hn, e1⟩ | e1 <;> rcases key m c' h3 with ⟨hm, e2⟩ | e2
  ·rw [kφ n hn] at h5
   rw [kφ m hm] at h6;exact I.inj n m c c' a e1 h2 e2 h4 h5 h6
  ·subst e2
   rw [kp] at h6;cases h6;rw [kφ n hn] at h5;exact absurd ⟨n, c, e1, h2, h5⟩ (I.fresh hp)
  ·subst e1
   rw [kp] at h5;cases h5;rw [kφ m hm] at h6;exact absurd ⟨m, c', e2, h4, h6⟩ (I.fresh hp)
  ·omega
 blk := fun a h => by
  rcases (oY I.len).mp h with h | ⟨_, h⟩
  ·exact I.blk a h
  ·rw [h]; intro q; obtain ⟨u, e⟩ := I.btr p q; rw [hp] at e; cases e
 btr := fun a h => by
  obtain ⟨u, e⟩ := I.btr a h;exact ⟨u, by rw [upd_ne (ne_of_none e hp)]; exact e⟩
theorem BJ {n : Nat} {c x : Cell} {a : Addr} (h : S[n]? = some c) (hc : c ≠ .dead) (hx : x ≠ .dead) : jA φ (S.set n x) a ↔ jA φ S a := by
 constructor
 ·rintro ⟨m, c', h1, h2, h3⟩
  rw [bD] at h1
  by_cases e : n = m
  ·subst e
   exact ⟨n, c, h, hc, h3⟩
  ·rw [if_neg e] at h1
   exact ⟨m, c', h1, h2, h3⟩
 ·rintro ⟨m, c', h1, h2, h3⟩
  by_cases e : n = m
  ·subst e
   exact ⟨n, x, by rw [bD, if_pos rfl, if_pos (aI.mp h).1], hx, h3⟩
  ·exact ⟨m, c', by rw [bD, if_neg e]; exact h1, h2, h3⟩
theorem A4 {n : Nat} {a : Addr} (h : jA φ (S.set n .dead) a) : jA φ S a := by
 obtain ⟨m, c', h1, h2, h3⟩ := h;rw [bD] at h1
 by_cases e : n = m
 ·rw [if_pos e] at h1
  by_cases hl : n < S.length
  ·rw [if_pos hl] at h1; cases h1; exact absurd rfl h2
  ·rw [if_neg hl] at h1; cases h1
 ·rw [if_neg e] at h1
  exact ⟨m, c', h1, h2, h3⟩
theorem Ext.put {n : Nat} {c x : Cell} {a : Addr} {o : HO} (hn : S[n]? = some c) (hc : c ≠ .dead) (ha : φ[n]? = some a) (hx : x ≠ .dead) : Ext φ S H φ (S.set n x) (upd H a o) where
 old := fun b u h nb => by
  have hb : b ≠ a := fun e => by subst e; exact nb ⟨n, c, hn, hc, ha⟩
  exact ⟨by rw [upd_ne hb]; exact h, fun q => nb ((BJ hn hc hx).mp q)⟩
 ids := fun _ _ h => h
theorem GInv.put {n : Nat} {c x : Cell} {a : Addr} {o : HO} (I : GInv K B φ S H) (hn : S[n]? = some c) (hc : c ≠ .dead) (ha : φ[n]? = some a) (hx : x ≠ .dead) (ok : AA K B φ (S.set n x) (upd H a o) x a) : GInv K B φ (S.set n x) (upd H a o) where
 len := by simp [I.len]
 ok := fun m c' b h1 h2 => by
  by_cases e : n = m
  ·subst e
   rw [bD, if_pos rfl, if_pos (aI.mp hn).1] at h1;cases h1;rw [ha] at h2;cases h2;exact ok
  ·rw [bD, if_neg e] at h1
   have q := I.ok m c' b h1 h2;have ex := Ext.put (H := H) (o := o) hn hc ha hx;have hb : c' ≠ .dead -> upd H a o b = H b := fun hc' => upd_ne fun e2 => by
    subst e2;exact e (I.inj n m c c' b hn hc h1 hc' ha h2)
   cases c' with
   | dead => trivial
   | lst ds => obtain ⟨vs, e, r⟩ := q; exact ⟨vs, by rw [hb (by simp)]; exact e, ex.repL I r⟩
   | ins C fs => obtain ⟨dx, vs, e, r⟩ := q; exact ⟨dx, vs, by rw [hb (by simp)]; exact e, r.ext ex I⟩
   | dct fs => obtain ⟨vs, e, r⟩ := q; exact ⟨vs, by rw [hb (by simp)]; exact e, r.ext ex I⟩
   | lv xs => obtain ⟨vs, e, r⟩ := q; exact ⟨vs, by rw [hb (by simp)]; exact e, r.ext ex I⟩
   | dki ks xs => obtain ⟨vs, e, r⟩ := q; exact ⟨vs, by rw [hb (by simp)]; exact e, r.ext ex I⟩
   | dkt ks xs => obtain ⟨vs, e, r⟩ := q; exact ⟨vs, by rw [hb (by simp)]; exact e, r.ext ex I⟩
 inj := fun i j d d' b h1 h2 h3 h4 h5 h6 => by
  have key : ∀ (i : Nat) (d : Cell), (S.set n x)[i]? = some d -> d ≠ .dead -> ∃ d0, S[i]? = some d0 /\ d0 ≠ .dead := fun i d h hd => by
   by_cases e : n = i
   ·subst e; exact ⟨c, hn, hc⟩
   ·rw [bD, if_neg e] at h; exact ⟨d, h, hd⟩
  obtain ⟨d0, e1, e2⟩ := key i d h1 h2;obtain ⟨d1, e3, e4⟩ := key j d' h3 h4;exact I.inj i j d0 d1 b e1 e2 e3 e4 h5 h6
 blk := fun b h => I.blk b ((BJ hn hc hx).mp h)
 btr := fun b h => by
  obtain ⟨u, e⟩ := I.btr b h;exact ⟨u, by rw [upd_ne]; exact e; intro q; subst q; exact I.blk b ⟨n, c, hn, hc, ha⟩ h⟩
theorem Ext.kill {n : Nat} : Ext φ S H φ (S.set n .dead) H := ⟨fun b o h nb => ⟨h, fun q => nb (A4 q)⟩, fun _ _ h => h⟩
theorem GInv.kill {n : Nat} (I : GInv K B φ S H) : GInv K B φ (S.set n .dead) H where
 len := by simp [I.len]
 ok := fun m c' b h1 h2 => by
  by_cases e : n = m
  ·rw [bD, if_pos e] at h1
   by_cases hl : n < S.length
   ·rw [if_pos hl] at h1; cases h1; trivial
   ·rw [if_neg hl] at h1; cases h1
  ·rw [bD, if_neg e] at h1
   have q := I.ok m c' b h1 h2;have ex := Ext.kill (φ := φ) (S := S) (H := H) (n := n);cases c' with
   | dead => trivial
   | lst ds => obtain ⟨vs, e, r⟩ := q; exact ⟨vs, e, ex.repL I r⟩
   | ins C fs => obtain ⟨dx, vs, e, r⟩ := q; exact ⟨dx, vs, e, r.ext ex I⟩
   | dct fs => obtain ⟨vs, e, r⟩ := q; exact ⟨vs, e, r.ext ex I⟩
   | lv xs => obtain ⟨vs, e, r⟩ := q; exact ⟨vs, e, r.ext ex I⟩
   | dki ks xs => obtain ⟨vs, e, r⟩ := q; exact ⟨vs, e, r.ext ex I⟩
   | dkt ks xs => obtain ⟨vs, e, r⟩ := q; exact ⟨vs, e, r.ext ex I⟩
 inj := fun i j d d' b h1 h2 h3 h4 h5 h6 => by
  have key : ∀ (i : Nat) (d : Cell), (S.set n .dead)[i]? = some d -> d ≠ .dead -> S[i]? = some d := fun i d h hd => by
   rw [bD] at h
   by_cases e : n = i
   ·rw [if_pos e] at h
    by_cases hl : n < S.length
    ·rw [if_pos hl] at h; cases h; exact absurd rfl hd
    ·rw [if_neg hl] at h; cases h
   ·rw [if_neg e] at h; exact h
  exact I.inj i j d d' b (key i d h1 h2) h2 (key j d' h3 h4) h4 h5 h6
 blk := fun b h => I.blk b (A4 h)
 btr := I.btr
theorem GInv.killed {n : Nat} {c : Cell} {a : Addr} (I : GInv K B φ S H) (hn : S[n]? = some c) (hc : c ≠ .dead) (ha : φ[n]? = some a) : ¬ jZ B φ (S.set n .dead) a := fun q => by
 rcases q with q | ⟨m, c', h1, h2, h3⟩
 ·exact I.blk a ⟨n, c, hn, hc, ha⟩ q
 ·rw [bD] at h1
  by_cases e : n = m
  ·rw [if_pos e] at h1
   by_cases hl : n < S.length
   ·rw [if_pos hl] at h1; cases h1; exact h2 rfl
   ·rw [if_neg hl] at h1; cases h1
  ·rw [if_neg e] at h1
   exact e (I.inj n m c c' a hn hc h1 h2 ha h3)
end
abbrev FE := Ev -> aO -> Res Vl
abbrev FT := Ev -> aO -> Res Bool
abbrev FA := Ev -> aO -> Res (List Vl)
abbrev FO := Ev -> aO -> Res (Option Int)
abbrev Rl (α β : Type) := (Addr -> Prop) -> List Addr -> aO -> Hp -> α -> β -> Prop
def NK (K : aC) (B : Addr -> Prop) (φ : List Addr) (S : aO) (H : Hp) (e : Er) (c : Value) (x : Option Addr) : Prop :=
 c = .ref (He.ga K e.cls) /\ ((e.ns = [] /\ x = none) \/ ∃ d vs, x = some d /\ H d = some (.xd (e.ns.zip vs)) /\ RepL K (jZ B φ S) H e.xs vs)
section
variable {α β α' β' : Type}
def Fin (K : aC) (W : WX) (σ : L2.St) (R : Rl α β) (B : Addr -> Prop) (φ : List Addr) (S : aO) (H : Hp) (r : Res α) (Q : β -> Hp -> Prop) : Prop := match r with
 | .ok d S' => ∀ φ' v H', GInv K B φ' S' H' -> Ext φ S H φ' S' H' -> R B φ' S' H' d v -> Q v H'
 | .err e S' => ∀ φ' c x H', GInv K B φ' S' H' -> Ext φ S H φ' S' H' -> NK K B φ' S' H' e c x -> W c x σ H'
 | .stuck => False
def rd (K : aC) (W : WX) (R : Rl α β) (m : Ev -> aO -> Res α) : L2.St -> Hp -> (β -> Hp -> Prop) -> Prop := fun σ H Q =>
 ∃ B φ S ρ, GInv K B φ S H /\ RepE K B φ S H ρ σ /\ Fin K W σ R B φ S H (m ρ S) Q
end
def RB : Rl Bool Bool := fun _ _ _ _ b c => c = b
def RO : Rl (Option Int) (Option Int) := fun _ _ _ _ b c => c = b
abbrev dN (K : aC) (W : WX) (m : FE) : TE := rd K W (RepV K) m
abbrev vJ (K : aC) (W : WX) (m : FT) : TT := rd K W RB m
abbrev FV (K : aC) (W : WX) (m : FA) : TA := rd K W (RepVs K) m
abbrev rdO (K : aC) (W : WX) (m : FO) : TO := rd K W RO m
section
variable {α β α' β' : Type} {K : aC} {W : WX} {σ : L2.St} {R : Rl α β} {R' : Rl α' β'} {B : Addr -> Prop} {φ φ' : List Addr} {S S' : aO} {H H' : Hp}
theorem Fin.ext {r : Res α} {Q : β -> Hp -> Prop} (f : Fin K W σ R B φ S H r Q) (e : Ext φ S H φ' S' H') : Fin K W σ R B φ' S' H' r Q := by
 cases r with
 | ok d S1 => exact fun φ1 v H1 I1 X r => f φ1 v H1 I1 (e.trans X) r
 | err x S1 => exact fun φ1 c x H1 I1 X r => f φ1 c x H1 I1 (e.trans X) r
 | stuck => exact f
theorem cJ {m : Ev -> aO -> Res α} {k : α -> Ev -> aO -> Res α'} {Q : β' -> Hp -> Prop} {Q1 : β -> Hp -> Prop} (h : rd K W R' (fun ρ S => (m ρ S).bind fun a S' => k a ρ S') σ H Q)
  (hk : ∀ B φ S ρ d v H1, GInv K B φ S H1 -> RepE K B φ S H1 ρ σ -> R B φ S H1 d v -> Fin K W σ R' B φ S H1 (k d ρ S) Q -> Q1 v H1) : rd K W R m σ H Q1 := by
 obtain ⟨B, φ, S, ρ, I, E, f⟩ := h;refine ⟨B, φ, S, ρ, I, E, ?_⟩
 dsimp only at f;cases e : m ρ S with
 | stuck => rw [e] at f; exact f
 | err x S' => rw [e] at f; exact f
 | ok d S' =>
  rw [e] at f;exact fun φ' v H' I' X r => hk B φ' S' ρ d v H' I' (E.ext X I) r (Fin.ext f X)
theorem iY {ρ : Ev} {m : Ev -> aO -> Res α} {k : α -> aO -> Res α'} {Q : β' -> Hp -> Prop} {Q1 : β -> Hp -> Prop} (I : GInv K B φ S H) (E : RepE K B φ S H ρ σ) (f : Fin K W σ R' B φ S H ((m ρ S).bind k) Q)
  (hk : ∀ φ' S' d v H1, GInv K B φ' S' H1 -> Ext φ S H φ' S' H1 -> RepE K B φ' S' H1 ρ σ -> R B φ' S' H1 d v -> Fin K W σ R' B φ' S' H1 (k d S') Q -> Q1 v H1) : rd K W R m σ H Q1 := by
 refine ⟨B, φ, S, ρ, I, E, ?_⟩
 cases e : m ρ S with
 | stuck => rw [e] at f; exact f
 | err x S' => rw [e] at f; exact f
 | ok d S' =>
  rw [e] at f;exact fun φ' v H' I' X r => hk φ' S' d v H' I' X (E.ext X I) r (Fin.ext f X)
theorem Fin.now {d : α} {v : β} {Q : β -> Hp -> Prop} (f : Fin K W σ R B φ S H (.ok d S) Q) (I : GInv K B φ S H) (r : R B φ S H d v) : Q v H := f φ v H I Ext.refl r
end
def newL (c : Bool) (ds : List D) (S : aO) : Res Vl := if c then .ok (.cel S.length) (S ++ [.lst ds]) else .ok (.dat (.lst ds)) S
section
variable {K : aC} {W : WX} {σ : L2.St} {B : Addr -> Prop} {φ φ' : List Addr} {S S' : aO} {H H' : Hp} {Q : VK}
theorem nM {l : List Addr} {p : Addr} : (l ++ [p])[l.length]? = some p := by simp
theorem Fin.newT {ds : List D} {vs : List V} {p : Addr} (f : Fin K W σ (RepV K) B φ S H (.ok (.dat (.tup ds)) S) Q) (I : GInv K B φ S H) (r : RepL K (jZ B φ S) H ds vs) (hp : H p = none) : Q (.ref p) (upd H p (.tup vs)) :=
 f φ _ _ (I.new hp) (Ext.new I hp) ⟨p, vs, rfl, .inl (.inl upd_same), (Ext.new I hp).repL I r⟩
theorem Fin.newL {c : Bool} {ds : List D} {vs : List V} {p : Addr} (f : Fin K W σ (RepV K) B φ S H (newL c ds S) Q) (I : GInv K B φ S H) (r : RepL K (jZ B φ S) H ds vs) (hp : H p = none) : Q (.ref p) (upd H p (.lst vs)) := by
 unfold PH.newL at f;cases c with
 | false =>
  refine f φ _ _ (I.new hp) (Ext.new I hp) ⟨p, vs, rfl, I.nblk hp, upd_same, (Ext.new I hp).repL I r⟩
 | true =>
  have X := Ext.newC (o := .lst vs) (x := .lst ds) I hp;refine f (φ ++ [p]) _ _ (I.newC hp fun _ => ⟨vs, upd_same, X.repL I r⟩) X ⟨p, rfl, ?_⟩
  rw [<- I.len];exact nM
end
instance instIntMulOk (a b : Int) : Decidable (IntMulOk a b) := by unfold IntMulOk; infer_instance
instance instCDiv (a b : Int) : Decidable (CDiv a b) := by unfold CDiv; infer_instance
instance instCPow (a b : Int) : Decidable (CPow a b) := by unfold CPow; infer_instance
def lk : Ev -> Nat -> Option Vl
 | [], _ => none
 | x :: _, 0 => x
 | _ :: r, n + 1 => lk r n
theorem Ec : ∀ {ρ : Ev} {i : Nat} {d : Vl}, lk ρ i = some d -> ρ[i]? = some (some d)
 | [], _, _, h => by cases h
 | x :: _, 0, d, h => by
  have e : x = some d := h;rw [e]; rfl
 | _ :: r, n + 1, d, h => by
  have e := Ec (ρ := r) (i := n) (d := d) h
  simpa using e
def aD (i : Nat) : FE := fun ρ S => match lk ρ i with
 | some d => .ok d S
 | none => .stuck
def mC (d : D) : FE := fun _ S => .ok (.dat d) S
def bC (f : Vl -> Vl -> aO -> Res Vl) (a b : FE) : FE := fun ρ S => (a ρ S).bind fun x S1 => (b ρ S1).bind fun y S2 => f x y S2
def m1 (f : Vl -> aO -> Res Vl) (a : FE) : FE := fun ρ S => (a ρ S).bind fun x S1 => f x S1
def eX (K : aC) (r : R2) (f : Vl -> Vl -> aO -> Res Vl) : Prop := ∀ {W : WX} {σ : L2.St} {B : Addr -> Prop} {φ : List Addr} {S : aO} {H : Hp} {x y : V} {d e : Vl} {Q : VK}, GInv K B φ S H -> RepV K B φ S H d x -> RepV K B φ S H e y -> Fin K W σ (RepV K) B φ S H (f d e S) Q -> r x y H Q
def Cy (K : aC) (r : V -> Hp -> VK -> Prop) (f : Vl -> aO -> Res Vl) : Prop := ∀ {W : WX} {σ : L2.St} {B : Addr -> Prop} {φ : List Addr} {S : aO} {H : Hp} {x : V} {d : Vl} {Q : VK}, GInv K B φ S H -> RepV K B φ S H d x -> Fin K W σ (RepV K) B φ S H (f d S) Q -> r x H Q
section
variable {X : Cx} {W : WX} {e a b c : Expr} {pos p : Pos} {x : Str}
theorem fv (i : Nat) (hN : X.N[i]? = some x := by rfl) (hv : Vis X.env.scope x := by first | exact AQ rfl | exact xO (AQ rfl) | exact xO (xO rfl)) (hd : (x == ("__debug__" : Str)) = false := by decide)
  (hcd : (x == ("__classdict__" : Str)) = false := by decide) : PE X (.Name x pos) (dN X.K W (aD i)) := dF (pe_var hN hv hd hcd) fun σ H Q h => by
 obtain ⟨B, φ, S, ρ, I, E, f⟩ := h;unfold aD at f;cases q : lk ρ i with
 | none => rw [q] at f; exact f.elim
 | some d =>
  rw [q] at f;obtain ⟨v, h1, h2⟩ := E.2 i d (Ec q);exact ⟨v, h1, f.now I h2⟩
theorem IJ {v : V} {d : D} (h : PE X e (tC v)) (r : ∀ Bk H, Rep X.K Bk H d v) : PE X e (dN X.K W (mC d)) := dF h fun σ H Q h => by
 obtain ⟨B, φ, S, ρ, I, E, f⟩ := h;exact Fin.now (v := v) f I (r _ _)
theorem BO {K : aC} {r : R2} {f : Vl -> Vl -> aO -> Res Vl} {ma mb : FE} {σ : L2.St} {H : Hp} {Q : VK} (s : eX K r f) (h : dN K W (bC f ma mb) σ H Q) : tOp r (dN K W ma) (dN K W mb) σ H Q :=
 cJ (k := fun x ρ S => (mb ρ S).bind fun y S2 => f x y S2) h fun B φ S ρ d v H1 I E r1 f' => iY I E f' fun φ' S' e w H2 I2 X2 E2 r2 f2 => s I2 (r1.ext X2 I) r2 f2
theorem cO {op : Operator} {r : R2} {f : Vl -> Vl -> aO -> Res Vl} {ma mb : FE} (o : OpR X (binaryOp op) r) (s : eX X.K r f) (ha : PE X a (dN X.K W ma)) (hb : PE X b (dN X.K W mb)) : PE X (.BinOp a op b pos) (dN X.K W (bC f ma mb)) :=
 dF (pe_op o ha hb) fun σ H Q h => BO s h
theorem lU {op : CmpOp} {r : R2} {f : Vl -> Vl -> aO -> Res Vl} {ma mb : FE} (o : OpR X (compareOp op) r) (s : eX X.K r f) (ha : PE X a (dN X.K W ma)) (hb : PE X b (dN X.K W mb)) (hm : behindInMarks op b = false := by rfl) : PE X (.Compare a [op] [b] pos) (dN X.K W (bC f ma mb)) :=
 dF (e_cmp o ha hb hm) fun σ H Q h => BO s h
theorem Ga {K : aC} {r : V -> Hp -> VK -> Prop} {f : Vl -> aO -> Res Vl} {ma : FE} {σ : L2.St} {H : Hp} {Q : VK} (s : Cy K r f) (h : dN K W (m1 f ma) σ H Q) : dN K W ma σ H fun x H1 => r x H1 Q :=
 cJ (k := fun x ρ S => f x S) h fun B φ S ρ d v H1 I E r1 f' => s I r1 f'
def rP : Vl -> Vl -> aO -> Res Vl
 | .dat (.int i), .dat (.int j), S => .ok (.dat (.int (i - j))) S
 | _, _, _ => .stuck
def E9 : Vl -> Vl -> aO -> Res Vl
 | .dat (.int i), .dat (.int j), S => if IntMulOk i j then .ok (.dat (.int (i * j))) S else .stuck
 | _, _, _ => .stuck
def vX : Vl -> Vl -> aO -> Res Vl
 | .dat (.int i), .dat (.int j), S => if 0 < j then .ok (.dat (.int (i % j))) S else .stuck
 | _, _, _ => .stuck
def qK : Vl -> Vl -> aO -> Res Vl
 | .dat (.int i), .dat (.int j), S => if CDiv i j then .ok (.dat (.int (i / j))) S else .stuck
 | _, _, _ => .stuck
def KY : Vl -> Vl -> aO -> Res Vl
 | .dat (.int i), .dat (.int j), S => if CPow i j then .ok (.dat (.int (i ^ j.toNat))) S else .stuck
 | _, _, _ => .stuck
def DF : Vl -> Vl -> aO -> Res Vl
 | .dat (.int i), .dat (.int j), S => .ok (.dat (.bl (decide (i < j)))) S
 | _, _, _ => .stuck
def IT : Vl -> Vl -> aO -> Res Vl
 | .dat (.int i), .dat (.int j), S => .ok (.dat (.bl (decide (i <= j)))) S
 | _, _, _ => .stuck
def DG : Vl -> Vl -> aO -> Res Vl
 | .dat (.int i), .dat (.int j), S => .ok (.dat (.bl (decide (j < i)))) S
 | _, _, _ => .stuck
def fGe : Vl -> Vl -> aO -> Res Vl
 | .dat (.int i), .dat (.int j), S => .ok (.dat (.bl (decide (j <= i)))) S
 | _, _, _ => .stuck
variable {K : aC}
theorem qG : eX K Gm rP := fun {W σ B φ S H x y d e Q} I r1 r2 f => by
 unfold rP at f;split at f
 ·cases r1; cases r2; exact Fin.now f I rfl
 ·exact f.elim
theorem EU : eX K L7 E9 := fun {W σ B φ S H x y d e Q} I r1 r2 f => by
 unfold E9 at f;split at f
 ·cases r1; cases r2
  split at f
  ·rename_i h; exact ⟨h, Fin.now f I rfl⟩
  ·exact f.elim
 ·exact f.elim
theorem tV : eX K L8 vX := fun {W σ B φ S H x y d e Q} I r1 r2 f => by
 unfold vX at f;split at f
 ·cases r1; cases r2
  split at f
  ·rename_i h; exact ⟨h, Fin.now f I rfl⟩
  ·exact f.elim
 ·exact f.elim
theorem yS : eX K Gp qK := fun {W σ B φ S H x y d e Q} I r1 r2 f => by
 unfold qK at f;split at f
 ·cases r1; cases r2
  split at f
  ·rename_i h; exact ⟨h, Fin.now f I rfl⟩
  ·exact f.elim
 ·exact f.elim
theorem s_pow : eX K L5 KY := fun {W σ B φ S H x y d e Q} I r1 r2 f => by
 unfold KY at f;split at f
 ·cases r1; cases r2
  split at f
  ·rename_i h; exact ⟨h, Fin.now f I rfl⟩
  ·exact f.elim
 ·exact f.elim
theorem xF : eX K rLtC DF := fun {W σ B φ S H x y d e Q} I r1 r2 f => by
 unfold DF at f;split at f
 ·cases r1; cases r2; exact Fin.now f I rfl
 ·exact f.elim
theorem DU : eX K rLeC IT := fun {W σ B φ S H x y d e Q} I r1 r2 f => by
 unfold IT at f;split at f
 ·cases r1; cases r2; exact Fin.now f I rfl
 ·exact f.elim
theorem yR : eX K rGtC DG := fun {W σ B φ S H x y d e Q} I r1 r2 f => by
 unfold DG at f;split at f
 ·cases r1; cases r2; exact Fin.now f I rfl
 ·exact f.elim
theorem Lu : eX K rGeC fGe := fun {W σ B φ S H x y d e Q} I r1 r2 f => by
 unfold fGe at f;split at f
 ·cases r1; cases r2; exact Fin.now f I rfl
 ·exact f.elim
def oG : Vl -> aO -> Res Vl
 | .dat (.int i), S => .ok (.dat (.int (-i))) S
 | _, _ => .stuck
theorem rN {ma : FE} (ha : PE X a (dN X.K W ma)) : PE X (.UnaryOp .USub a pos) (dN X.K W (m1 oG ma)) :=
 dF (pe_un J3 ha) fun σ H Q h => Ga (r := cNeg) (fun {W σ B φ S H x d Q} I r f => by
  unfold oG at f;split at f
  ·cases r; exact Fin.now f I rfl
  ·exact f.elim) h
theorem RepL.len {Bk : Addr -> Prop} {H : Hp} : ∀ {ds : List D} {vs : List V}, RepL K Bk H ds vs -> vs.length = ds.length
 | [], vs, h => by cases h; rfl
 | d :: ds, vs, ⟨v, ws, e, _, h2⟩ => by subst e; simp [RepL.len h2]
theorem RepL.get {Bk : Addr -> Prop} {H : Hp} : ∀ {ds : List D} {vs : List V} {i : Nat} {d : D}, RepL K Bk H ds vs -> ds[i]? = some d -> ∃ v, vs[i]? = some v /\ Rep K Bk H d v
 | [], vs, i, d, h, q => by simp at q
 | d :: ds, vs, 0, d', ⟨v, ws, e, h1, h2⟩, q => by simp at q; subst q e; exact ⟨v, rfl, h1⟩
 | d :: ds, vs, i + 1, d', ⟨v, ws, e, h1, h2⟩, q => by
  subst e;obtain ⟨v', h3, h4⟩ := RepL.get (i := i) (d := d') h2 (by simpa using q)
  exact ⟨v', by simpa using h3, h4⟩
theorem RepL.append {Bk : Addr -> Prop} {H : Hp} : ∀ {ds es : List D} {vs ws : List V}, RepL K Bk H ds vs -> RepL K Bk H es ws -> RepL K Bk H (ds ++ es) (vs ++ ws)
 | [], es, vs, ws, h, h' => by cases h; exact h'
 | d :: ds, es, vs, ws, ⟨v, us, e, h1, h2⟩, h' => by subst e; exact ⟨v, us ++ ws, rfl, h1, RepL.append h2 h'⟩
theorem RepL.take {Bk : Addr -> Prop} {H : Hp} : ∀ {ds : List D} {vs : List V} (n : Nat), RepL K Bk H ds vs -> RepL K Bk H (ds.take n) (vs.take n)
 | ds, vs, 0, h => by simp [RepL]
 | [], vs, n + 1, h => by cases h; rfl
 | d :: ds, vs, n + 1, ⟨v, us, e, h1, h2⟩ => by subst e; exact ⟨v, us.take n, rfl, h1, RepL.take n h2⟩
theorem RepL.drop {Bk : Addr -> Prop} {H : Hp} : ∀ {ds : List D} {vs : List V} (n : Nat), RepL K Bk H ds vs -> RepL K Bk H (ds.drop n) (vs.drop n)
 | ds, vs, 0, h => h
 | [], vs, n + 1, h => by cases h; rfl
 | d :: ds, vs, n + 1, ⟨v, us, e, h1, h2⟩ => by subst e; exact RepL.drop n h2
theorem RepL.set {Bk : Addr -> Prop} {H : Hp} {d : D} {v : V} (r : Rep K Bk H d v) : ∀ {ds : List D} {vs : List V} (n : Nat), RepL K Bk H ds vs -> RepL K Bk H (ds.set n d) (vs.set n v)
 | [], vs, n, h => by cases h; rfl
 | _ :: ds, vs, 0, ⟨_, us, e, h1, h2⟩ => by subst e; exact ⟨v, us, rfl, r, h2⟩
 | d' :: ds, vs, n + 1, ⟨v', us, e, h1, h2⟩ => by subst e; exact ⟨v', us.set n v, rfl, h1, RepL.set r n h2⟩
theorem RepL.snoc {Bk : Addr -> Prop} {H : Hp} {ds : List D} {vs : List V} {d : D} {v : V} (h : RepL K Bk H ds vs) (r : Rep K Bk H d v) : RepL K Bk H (ds ++ [d]) (vs ++ [v]) := h.append ⟨v, [], rfl, r, rfl⟩
theorem RepL.atI {Bk : Addr -> Prop} {H : Hp} {ds : List D} {vs : List V} {i : Int} {d : D} (h : RepL K Bk H ds vs) (q : L2.atI ds i = some d) : ∃ v, L2.atI vs i = some v /\ Rep K Bk H d v := by
 unfold L2.atI at q ⊢;rw [h.len];cases e : ixN ds.length i with
 | none => rw [e] at q; cases q
 | some j =>
  rw [e] at q;exact h.get (i := j) q
theorem RepVs.len {B : Addr -> Prop} {φ : List Addr} {S : aO} {H : Hp} : ∀ {ds : List Vl} {vs : List V}, RepVs K B φ S H ds vs -> vs.length = ds.length
 | [], vs, h => by cases h; rfl
 | d :: ds, vs, ⟨v, ws, e, _, h2⟩ => by subst e; simp [RepVs.len h2]
def tP : List Vl -> Option (List D)
 | [] => some []
 | .dat d :: r => match tP r with
  | some ds => some (d :: ds)
  | none => none
 | _ :: _ => none
theorem uY {B : Addr -> Prop} {φ : List Addr} {S : aO} {H : Hp} : ∀ {xs : List Vl} {vs : List V} {ds : List D}, tP xs = some ds -> RepVs K B φ S H xs vs -> RepL K (jZ B φ S) H ds vs
 | [], vs, ds, h, r => by cases h; exact r
 | .dat d :: xs, vs, ds, h, ⟨v, ws, e, h1, h2⟩ => by
  unfold tP at h;cases q : tP xs with
  | none => rw [q] at h; cases h
  | some es => rw [q] at h; cases h; exact ⟨v, ws, e, h1, uY q h2⟩
 | .cel _ :: xs, vs, ds, h, _ => by cases h
 | .cels _ :: xs, vs, ds, h, _ => by cases h
 | .scr _ :: xs, vs, ds, h, _ => by cases h
 | .tc _ :: xs, vs, ds, h, _ => by cases h
def kU (S : aO) : Vl -> Option (List D)
 | .dat (.lst xs) => some xs
 | .cel n => match S[n]? with
  | some (.lst xs) => some xs
  | _ => none
 | _ => none
theorem lG {B : Addr -> Prop} {φ : List Addr} {S : aO} {H : Hp} {d : Vl} {v : V} {xs : List D} (I : GInv K B φ S H) (h : kU S d = some xs) (r : RepV K B φ S H d v) : ∃ a vs, v = .ref a /\ H a = some (.lst vs) /\ RepL K (jZ B φ S) H xs vs := by
 unfold kU at h;split at h
 ·cases h
  obtain ⟨a, vs, e, _, h1, h2⟩ := r;exact ⟨a, vs, e, h1, h2⟩
 ·rename_i n
  obtain ⟨a, e, h1⟩ := r;split at h
  ·rename_i ys q
   cases h;obtain ⟨vs, h2, h3⟩ := I.ok n _ a q h1;exact ⟨a, vs, e, h2, h3⟩
  ·cases h
 ·cases h
end
section
variable {X : Cx} {W : WX} {e a b c : Expr} {es rest : List Expr} {pos p : Pos} {x : Str} {K : aC} {ma mb mc : FE} {mt mu : FT} {mas : FA} {B : Addr -> Prop} {φ : List Addr} {S : aO} {H : Hp} {σ : L2.St} {Q : VK}
def cZ (cl : Bool) (x y : Vl) (S : aO) : Res Vl := match x, y with
 | .dat (.int i), .dat (.int j) => .ok (.dat (.int (i + j))) S
 | .dat (.str a), .dat (.str b) => if a.length + b.length <= sizeLine then .ok (.dat (.str (a ++ b))) S else .stuck
 | .dat (.tup xs), .dat (.tup ys) => if xs.length + ys.length <= sizeLine then .ok (.dat (.tup (xs ++ ys))) S else .stuck
 | x, y => match kU S x, kU S y with
  | some xs, some ys => if xs.length + ys.length <= sizeLine then newL cl (xs ++ ys) S else .stuck
  | _, _ => .stuck
theorem cV {cl : Bool} : eX K (cAdd K) (cZ cl) := fun {W σ B φ S H x y d e Q} I r1 r2 f => by
 unfold cZ at f;split at f
 ·cases r1; cases r2; exact Fin.now f I rfl
 ·cases r1; cases r2
  split at f
  ·rename_i h; exact ⟨h, Fin.now f I rfl⟩
  ·exact f.elim
 ·rename_i xs ys
  obtain ⟨a, vs, rfl, h1, l1⟩ := r1;obtain ⟨b, ws, rfl, h2, l2⟩ := r2;split at f
  ·rename_i h
   refine xO ⟨a, b, vs, ws, rfl, rfl, h1, h2, by rw [l1.len, l2.len]; exact h, fun e => ?_, fun e1 e2 => ?_, fun _ _ p hp => Fin.newT f I (l1.append l2) hp⟩
   ·have l := l1.append l2
    rw [e, dC] at l;exact Fin.now f I ⟨b, ws, rfl, h2, l⟩
   ·have l := l1.append l2
    rw [e2, dD] at l;exact Fin.now f I ⟨a, vs, rfl, h1, l⟩
  ·exact f.elim
 ·split at f
  ·rename_i xs ys q1 q2
   obtain ⟨a, vs, rfl, h1, l1⟩ := lG I q1 r1;obtain ⟨b, ws, rfl, h2, l2⟩ := lG I q2 r2;split at f
   ·rename_i h
    exact AQ ⟨a, b, vs, ws, rfl, rfl, h1, h2, by rw [l1.len, l2.len]; exact h, fun p hp => Fin.newL f I (l1.append l2) hp⟩
   ·exact f.elim
  ·exact f.elim
def cL (x y : Vl) (S : aO) : Res Vl := match x, y with
 | .dat (.tup xs), .dat (.int i) => match atI xs i with
  | some d => .ok (.dat d) S
  | none => .stuck
 | .dat (.str z), .dat (.int i) => if z.length <= sizeLine then (match atI z.cps.toList i with
  | some c => .ok (.dat (.str ⟨#[c]⟩)) S
  | none => .stuck) else .stuck
 | .cels ns, .dat (.int i) => match atI ns i with
  | some n => .ok (.cel n) S
  | none => .stuck
 | x, .dat (.int i) => match kU S x with
  | some xs => (match atI xs i with
   | some d => .ok (.dat d) S
   | none => .stuck)
  | none => .stuck
 | _, _ => .stuck
theorem Bs {α β : Type} {f : α -> β} {xs : List α} {i : Int} : atI (xs.map f) i = (atI xs i).map f := by
 unfold atI;rw [bE];cases ixN xs.length i with
 | none => rfl
 | some j => simp
theorem s_ix : eX K (cIx K) cL := fun {W σ B φ S H x y d e Q} I r1 r2 f => by
 unfold cL at f;split at f
 ·cases r2
  obtain ⟨a, vs, rfl, h1, l1⟩ := r1;split at f
  ·rename_i q
   obtain ⟨v, h2, h3⟩ := l1.atI q;exact ⟨vs, v, .inr h1, h2, Fin.now f I h3⟩
  ·exact f.elim
 ·cases r1; cases r2
  split at f
  ·rename_i h
   split at f
   ·rename_i c q
    exact ⟨h, c, q, Fin.now f I rfl⟩
   ·exact f.elim
  ·exact f.elim
 ·rename_i ns i
  cases r2;obtain ⟨a, as, rfl, h1, h2, h3⟩ := r1;split at f
  ·rename_i n q
   have q2 : atI (ns.map fun n => φ[n]?) i = some φ[n]? := by rw [Bs, q]; rfl
   rw [h3, Bs] at q2;cases q3 : atI as i with
   | none => rw [q3] at q2; cases q2
   | some b =>
    rw [q3] at q2;refine ⟨as.map V.ref, .ref b, .inl (SqL.of h2), by rw [Bs, q3]; rfl, Fin.now f I ⟨b, rfl, ?_⟩⟩
    simpa using q2.symm
  ·exact f.elim
 ·cases r2
  split at f
  ·rename_i xs q1
   obtain ⟨a, vs, rfl, h1, l1⟩ := lG I q1 r1;split at f
   ·rename_i q
    obtain ⟨v, h2, h3⟩ := l1.atI q;exact ⟨vs, v, .inl (SqL.of h1), h2, Fin.now f I h3⟩
   ·exact f.elim
  ·exact f.elim
 ·exact f.elim
theorem bX (ha : PE X a (dN X.K W ma)) (hb : PE X b (dN X.K W mb)) (hs : PlainIx b := by intro _ _; rfl) : PE X (.Subscript a b pos) (dN X.K W (bC cL ma mb)) := dF (e_ix ha hb hs) fun σ H Q h => BO s_ix h
mutual
def D.py : D -> Option PyData
 | .non => some .none
 | .bl b => some (.bool b)
 | .int i => some (.int i)
 | .str x => some (.str x)
 | .lst xs => match D.pys xs with
  | some ys => some (.list ys)
  | none => none
 | .tup xs => match D.pys xs with
  | some ys => some (.tuple ys)
  | none => none
 | .ins _ _ _ => none
 | .dct => none
 | .opq _ => none
def D.pys : List D -> Option (List PyData)
 | [] => some []
 | d :: ds => match D.py d, D.pys ds with
  | some x, some xs => some (x :: xs)
  | _, _ => none
end
mutual
theorem Rep.dp {Bk : Addr -> Prop} {H : Hp} : ∀ (d : D) (v : V) (p : PyData), d.py = some p -> Rep K Bk H d v -> Dp K H v p
 | .non, v, p, h, r => by cases h; cases r; exact .non
 | .bl b, v, p, h, r => by cases h; cases r; exact .bl b
 | .int b, v, p, h, r => by cases h; cases r; exact .int b
 | .str b, v, p, h, r => by cases h; cases r; exact .str b
 | .lst xs, v, p, h, ⟨a, vs, e, _, h1, h2⟩ => by
  subst e;unfold D.py at h;cases q : D.pys xs with
  | none => rw [q] at h; cases h
  | some ys => rw [q] at h; cases h; exact .lst (SqL.of h1) (RepL.dp xs vs ys q h2)
 | .tup xs, v, p, h, ⟨a, vs, e, h1, h2⟩ => by
  subst e;unfold D.py at h;cases q : D.pys xs with
  | none => rw [q] at h; cases h
  | some ys => rw [q] at h; cases h; exact .tup h1 (RepL.dp xs vs ys q h2)
 | .ins _ _ _, v, p, h, r => by cases h
 | .dct, v, p, h, r => by cases h
 | .opq _, v, p, h, r => by cases h
theorem RepL.dp {Bk : Addr -> Prop} {H : Hp} : ∀ (ds : List D) (vs : List V) (ps : List PyData), D.pys ds = some ps -> RepL K Bk H ds vs -> DpAll K H vs ps
 | [], vs, ps, h, r => by cases h; cases r; exact .nil
 | d :: ds, vs, ps, h, ⟨v, ws, e, h1, h2⟩ => by
  subst e;unfold D.pys at h;cases q1 : D.py d with
  | none => rw [q1] at h; cases h
  | some x =>
   cases q2 : D.pys ds with
   | none => rw [q1, q2] at h; cases h
   | some xs => rw [q1, q2] at h; cases h; exact .cons (Rep.dp d v x q1 h1) (RepL.dp ds ws xs q2 h2)
end
def EZ (S : aO) : Vl -> Option PyData
 | .dat d => d.py
 | .cel n => match S[n]? with
  | some (.lst xs) => D.py (.lst xs)
  | _ => none
 | _ => none
def FW (S : aO) : List Vl -> Option (List PyData)
 | [] => some []
 | x :: r => match EZ S x, FW S r with
  | some p, some ps => some (p :: ps)
  | _, _ => none
def xG (S : aO) : Vl -> Option PyData
 | .dat d => d.py
 | .cel n => match S[n]? with
  | some (.lst xs) => D.py (.lst xs)
  | some (.lv xs) => (match FW S xs with
   | some ps => some (.list ps)
   | none => none)
  | _ => none
 | _ => none
theorem Gq {d : Vl} {v : V} {p : PyData} (I : GInv K B φ S H) (h : EZ S d = some p) (r : RepV K B φ S H d v) : Dp K H v p := by
 unfold EZ at h;split at h
 ·exact Rep.dp _ _ _ h r
 ·rename_i n
  obtain ⟨a, rfl, h1⟩ := r;split at h
  ·rename_i xs q
   obtain ⟨vs, h2, h3⟩ := I.ok n _ a q h1;unfold D.py at h;cases q : D.pys xs with
   | none => rw [q] at h; cases h
   | some ys => rw [q] at h; cases h; exact .lst (SqL.of h2) (RepL.dp xs vs ys q h3)
  ·cases h
 ·cases h
theorem EY (I : GInv K B φ S H) : ∀ {xs : List Vl} {vs : List V} {ps : List PyData}, FW S xs = some ps -> RepVs K B φ S H xs vs -> DpAll K H vs ps
 | [], vs, ps, h, r => by cases h; cases r; exact .nil
 | x :: xs, vs, ps, h, ⟨v, ws, e, h1, h2⟩ => by
  subst e;unfold FW at h;cases q1 : EZ S x with
  | none => rw [q1] at h; cases h
  | some p =>
   cases q2 : FW S xs with
   | none => rw [q1, q2] at h; cases h
   | some qs => rw [q1, q2] at h; cases h; exact .cons (Gq I q1 h1) (EY I q2 h2)
theorem nI {d : Vl} {v : V} {p : PyData} (I : GInv K B φ S H) (h : xG S d = some p) (r : RepV K B φ S H d v) : Dp K H v p := by
 unfold xG at h;split at h
 ·exact Rep.dp _ _ _ h r
 ·rename_i n
  obtain ⟨a, rfl, h1⟩ := r;split at h
  ·rename_i xs q
   obtain ⟨vs, h2, h3⟩ := I.ok n _ a q h1;unfold D.py at h;cases q : D.pys xs with
   | none => rw [q] at h; cases h
   | some ys => rw [q] at h; cases h; exact .lst (SqL.of h2) (RepL.dp xs vs ys q h3)
  ·rename_i xs q
   obtain ⟨vs, h2, h3⟩ := I.ok n _ a q h1;cases q : FW S xs with
   | none => rw [q] at h; cases h
   | some ys => rw [q] at h; cases h; exact .lst (SqL.of h2) (EY I q h3)
  ·cases h
 ·cases h
def Iv (p q : PyData) : Bool := SeqAt.shaped p && SeqAt.shaped q
def gR (x y : Vl) (S : aO) : Res Vl := match x, y with
 | .dat (.int i), .dat (.int j) => .ok (.dat (.bl (decide (i = j)))) S
 | .dat (.str i), .dat (.str j) => .ok (.dat (.bl (decide (i = j)))) S
 | x, y => match xG S x, xG S y with
  | some p, some q => if Iv p q = true then .ok (.dat (.bl (PyData.eqv p q))) S else .stuck
  | _, _ => .stuck
def vW (x y : Vl) (S : aO) : Res Vl := match x, y with
 | .dat (.int i), .dat (.int j) => .ok (.dat (.bl (!decide (i = j)))) S
 | .dat (.str i), .dat (.str j) => .ok (.dat (.bl (!decide (i = j)))) S
 | x, y => match xG S x, xG S y with
  | some p, some q => if Iv p q = true then .ok (.dat (.bl (!PyData.eqv p q))) S else .stuck
  | _, _ => .stuck
theorem Kl {x y : V} (h : rEqD K x y H Q) : cEq K x y H Q := by
 unfold cEq;split
 ·obtain ⟨d, e, h1, h2, _, _, q⟩ := h
  cases h1; cases h2;exact q
 ·obtain ⟨d, e, h1, h2, _, _, q⟩ := h
  cases h1; cases h2;exact q
 ·exact h
theorem Kk {x y : V} (h : rNeD K x y H Q) : cNe K x y H Q := by
 unfold cNe;split
 ·obtain ⟨d, e, h1, h2, _, _, q⟩ := h
  cases h1; cases h2;exact q
 ·obtain ⟨d, e, h1, h2, _, _, q⟩ := h
  cases h1; cases h2;exact q
 ·exact h
theorem s_eq : eX K (cEq K) gR := fun {W σ B φ S H x y d e Q} I r1 r2 f => by
 unfold gR at f;split at f
 ·cases r1; cases r2; exact Fin.now f I rfl
 ·cases r1; cases r2; exact Fin.now f I rfl
 ·split at f
  ·rename_i p q h1 h2
   split at f
   ·rename_i h
    obtain ⟨h3, h4⟩ := He.ba h;exact Kl ⟨p, q, nI I h1 r1, nI I h2 r2, h3, h4, Fin.now f I rfl⟩
   ·exact f.elim
  ·exact f.elim
theorem tE : eX K (cNe K) vW := fun {W σ B φ S H x y d e Q} I r1 r2 f => by
 unfold vW at f;split at f
 ·cases r1; cases r2; exact Fin.now f I rfl
 ·cases r1; cases r2; exact Fin.now f I rfl
 ·split at f
  ·rename_i p q h1 h2
   split at f
   ·rename_i h
    obtain ⟨h3, h4⟩ := He.ba h;exact Kk ⟨p, q, nI I h1 r1, nI I h2 r2, h3, h4, Fin.now f I rfl⟩
   ·exact f.elim
  ·exact f.elim
def wA (neg : Bool) (x y : Vl) (S : aO) : Res Vl := match xG S x, xG S y with
 | some p, some (.list qs) => if Iv p (.list qs) = true then .ok (.dat (.bl (if neg then !(qs.any fun z => PyData.eqv z p) else (qs.any fun z => PyData.eqv z p)))) S else .stuck
 | _, _ => .stuck
theorem Gg : eX K (rInD K) (wA false) := fun {W σ B φ S H x y d e Q} I r1 r2 f => by
 unfold wA at f;split at f
 ·rename_i p qs h1 h2
  split at f
  ·rename_i h
   obtain ⟨h3, h4⟩ := He.ba h;exact ⟨p, qs, nI I h1 r1, nI I h2 r2, h3, h4, Fin.now f I rfl⟩
  ·exact f.elim
 ·exact f.elim
theorem JE : eX K (rNotInD K) (wA true) := fun {W σ B φ S H x y d e Q} I r1 r2 f => by
 unfold wA at f;split at f
 ·rename_i p qs h1 h2
  split at f
  ·rename_i h
   obtain ⟨h3, h4⟩ := He.ba h;exact ⟨p, qs, nI I h1 r1, nI I h2 r2, h3, h4, Fin.now f I rfl⟩
  ·exact f.elim
 ·exact f.elim
def isNon : Vl -> Bool
 | .dat .non => true
 | _ => false
def IU (neg : Bool) (x y : Vl) (S : aO) : Res Vl := match y with
 | .dat .non => .ok (.dat (.bl (if neg then !(isNon x) else isNon x))) S
 | _ => .stuck
theorem HY {d : Vl} {v : V} (r : RepV K B φ S H d v) : decide (v = .non) = isNon d := by
 cases d with
 | dat d =>
  cases d with
  | non => cases r; rfl
  | bl b => cases r; rfl
  | int b => cases r; rfl
  | str b => cases r; rfl
  | lst xs => obtain ⟨a, vs, rfl, _⟩ := r; rfl
  | tup xs => obtain ⟨a, vs, rfl, _⟩ := r; rfl
  | ins C ns xs => obtain ⟨a, dx, vs, rfl, _⟩ := r; rfl
  | dct => obtain ⟨a, rfl, _⟩ := r; rfl
  | opq k => cases k with
   | none => obtain ⟨a, rfl⟩ := r; rfl
   | some k => obtain ⟨a, rfl, _⟩ := r; rfl
 | cel n => obtain ⟨a, rfl, _⟩ := r; rfl
 | cels ns => obtain ⟨a, as, rfl, _⟩ := r; rfl
 | scr ns => obtain ⟨a, rfl, _⟩ := r; rfl
 | tc xs => obtain ⟨a, vs, rfl, _⟩ := r; rfl
theorem Ge : eX K Gn (IU true) := fun {W σ B φ S H x y d e Q} I r1 r2 f => by
 unfold IU at f;split at f
 ·cases r2
  show Q (.bl (!decide (x = .non))) H
  rw [HY r1];exact Fin.now f I rfl
 ·exact f.elim
def unB : Vl -> aO -> Res Bool
 | .dat (.bl b), S => .ok b S
 | _, _ => .stuck
def mB (a : FE) : FT := fun ρ S => (a ρ S).bind unB
theorem GZ {Q : Bool -> Hp -> Prop} (h : vJ K W (mB ma) σ H Q) : dN K W ma σ H fun x H' => (match x with | .bl k => Q k H' | _ => False) :=
 cJ (k := fun x _ S => unB x S) h fun B φ S ρ d v H1 I E r f => by
  unfold unB at f;split at f
  ·cases r; exact Fin.now f I rfl
  ·exact f.elim
theorem aY {op : CmpOp} {r : R2} {f : Vl -> Vl -> aO -> Res Vl} (o : OpR X (compareOp op) r) (s : eX X.K r f) (ha : PE X a (dN X.K W ma)) (hb : PE X b (dN X.K W mb)) (hm : behindInMarks op b = false := by rfl) : PT X (.Compare a [op] [b] pos) (vJ X.K W (mB (bC f ma mb))) :=
 A6 (Kx o ha hb hm) fun σ H Q h => BO s (GZ h)
def yD (x : Vl) (S : aO) : Res Bool := match x with
 | .dat .non => .ok false S
 | .dat (.bl b) => .ok b S
 | .dat (.int i) => .ok (i != 0) S
 | .dat (.str y) => if y.length <= sizeLine then .ok ((y.length : Int) != 0) S else .stuck
 | .dat (.tup xs) => .ok (!xs.isEmpty) S
 | x => match kU S x with
  | some xs => .ok (!xs.isEmpty) S
  | none => .stuck
theorem RepL.emp {Bk : Addr -> Prop} {ds : List D} {vs : List V} (h : RepL K Bk H ds vs) : (!ds.isEmpty) = !vs.isEmpty := by
 have := h.len;cases ds <;> cases vs <;> simp at this ⊢
theorem BL {d : Vl} {v : V} {Q : Bool -> Hp -> Prop} (I : GInv K B φ S H) (r : RepV K B φ S H d v) (f : Fin K W σ RB B φ S H (yD d S) Q) : cT K v H Q := by
 unfold yD at f;split at f
 ·cases r; exact Fin.now f I rfl
 ·cases r; exact Fin.now f I rfl
 ·cases r; exact Fin.now f I rfl
 ·cases r
  split at f
  ·rename_i h; exact ⟨_, ⟨h, rfl⟩, Fin.now f I rfl⟩
  ·exact f.elim
 ·obtain ⟨a, vs, rfl, h1, l1⟩ := r
  exact ⟨_, .inr (.inl ⟨vs, h1, l1.emp⟩), Fin.now f I rfl⟩
 ·split at f
  ·rename_i xs q1
   obtain ⟨a, vs, rfl, h1, l1⟩ := lG I q1 r;exact ⟨_, .inl ⟨vs, SqL.of h1, l1.emp⟩, Fin.now f I rfl⟩
  ·exact f.elim
def fD (a : FE) : FT := fun ρ S => (a ρ S).bind yD
theorem fQ (ha : PE X a (dN X.K W ma)) (he : ∀ whole, isTrue a X.env whole = (do let v <- whole; standAt a.pos; holding [v] (truthy v)) := by intro _; rfl) : PT X a (vJ X.K W (fD ma)) :=
 A6 (t_val ha he) fun σ H Q h => cJ (k := fun x _ S => yD x S) h fun B φ S ρ d v H1 I E r f => BL I r f
def vP (a b : FT) : FT := fun ρ S => (a ρ S).bind fun c S1 => if c = true then b ρ S1 else .ok false S1
def uC (a b : FT) : FT := fun ρ S => (a ρ S).bind fun c S1 => if c = true then .ok true S1 else b ρ S1
def mM (a : FT) : FT := fun ρ S => (a ρ S).bind fun c S1 => .ok (!c) S1
theorem Il {e : Expr} {t u : TT} (h : PW X e t) (i : ∀ σ H Q, u σ H Q -> t σ H Q) : PW X e u := ⟨fun whole pins s σ H Q I q => h.run whole pins s σ H Q I (i σ H Q q)⟩
theorem JA {Q : Bool -> Hp -> Prop} (h : vJ K W (vP mt mu) σ H Q) : tAnd (vJ K W mt) (vJ K W mu) σ H Q :=
 cJ (k := fun c ρ S => if c = true then mu ρ S else .ok false S) h fun B φ S ρ d v H1 I E r f => by
  have r : v = d := r;subst r;cases v with
  | true => exact ⟨B, φ, S, ρ, I, E, f⟩
  | false => exact Fin.now f I rfl
theorem Lp {Q : Bool -> Hp -> Prop} (h : vJ K W (uC mt mu) σ H Q) : tOr (vJ K W mt) (vJ K W mu) σ H Q :=
 cJ (k := fun c ρ S => if c = true then .ok true S else mu ρ S) h fun B φ S ρ d v H1 I E r f => by
  have r : v = d := r;subst r;cases v with
  | false => exact ⟨B, φ, S, ρ, I, E, f⟩
  | true => exact Fin.now f I rfl
theorem oE (ha : PT X a (vJ X.K W mt)) (hb : PW X (.BoolOp .And (b :: rest) pos) (vJ X.K W mu)) : PW X (.BoolOp .And (a :: b :: rest) pos) (vJ X.K W (vP mt mu)) := Il (pw_and ha hb) fun σ H Q h => JA h
theorem gW (ha : PT X a (vJ X.K W mt)) (hb : PW X (.BoolOp .Or (b :: rest) pos) (vJ X.K W mu)) : PW X (.BoolOp .Or (a :: b :: rest) pos) (vJ X.K W (uC mt mu)) := Il (pw_or ha hb) fun σ H Q h => Lp h
theorem hZ (ha : PT X a (vJ X.K W mt)) : PT X (.UnaryOp .Not a pos) (vJ X.K W (mM mt)) := A6 (pt_not ha) fun σ H Q h =>
 cJ (k := fun c _ S => .ok (!c) S) h fun B φ S ρ d v H1 I E r f => by cases r; exact Fin.now f I rfl
def qJ (a b : FE) : FE := fun ρ S => (a ρ S).bind fun x S1 => match x with
 | .dat (.bl c) => if c = true then b ρ S1 else .ok (.dat (.bl false)) S1
 | _ => .stuck
def M6 (a b : FE) : FE := fun ρ S => (a ρ S).bind fun x S1 => match x with
 | .dat (.bl c) => if c = true then .ok (.dat (.bl true)) S1 else b ρ S1
 | _ => .stuck
def H9 (a : FE) : FE := fun ρ S => (a ρ S).bind fun x S1 => (yD x S1).bind fun k S2 => .ok (.dat (.bl (!k))) S2
theorem oF (ha : PE X a (dN X.K W ma)) (hb : PE X (.BoolOp .And (b :: rest) pos) (dN X.K W mb)) : PE X (.BoolOp .And (a :: b :: rest) pos) (dN X.K W (qJ ma mb)) := dF (e_and ha hb) fun σ H Q h =>
 cJ (k := fun x ρ S1 => match x with | .dat (.bl c) => if c = true then mb ρ S1 else .ok (.dat (.bl false)) S1 | _ => .stuck) h fun B φ S ρ d v H1 I E r f => by
  split at f
  ·rename_i c
   cases r;cases c with
   | true => exact ⟨B, φ, S, ρ, I, E, f⟩
   | false => exact Fin.now f I rfl
  ·exact f.elim
theorem fe_or (ha : PE X a (dN X.K W ma)) (hb : PE X (.BoolOp .Or (b :: rest) pos) (dN X.K W mb)) : PE X (.BoolOp .Or (a :: b :: rest) pos) (dN X.K W (M6 ma mb)) := dF (e_or ha hb) fun σ H Q h =>
 cJ (k := fun x ρ S1 => match x with | .dat (.bl c) => if c = true then .ok (.dat (.bl true)) S1 else mb ρ S1 | _ => .stuck) h fun B φ S ρ d v H1 I E r f => by
  split at f
  ·rename_i c
   cases r;cases c with
   | false => exact ⟨B, φ, S, ρ, I, E, f⟩
   | true => exact Fin.now f I rfl
  ·exact f.elim
def M7 (a b : FE) : FE := fun ρ S => (a ρ S).bind fun x S1 => (yD x S1).bind fun k S2 => if k = true then .ok x S2 else b ρ S2
theorem C3 {x : Vl} {k : Bool} {S' : aO} (h : yD x S = .ok k S') : S' = S := by
 unfold yD at h;split at h
 ·cases h; rfl
 ·cases h; rfl
 ·cases h; rfl
 ·split at h <;> cases h; rfl
 ·cases h; rfl
 ·split at h <;> cases h; rfl
theorem tru_V {d : Vl} {v : V} {k : Bool} (I : GInv K B φ S H) (r : RepV K B φ S H d v) (h : yD d S = .ok k S) : TruV K v H k := by
 obtain ⟨k', h1, h2⟩ := IZ v H (fun b _ => b = k) (BL (W := Lh) (σ := []) I r (by
  rw [h];exact fun φ' v' H' _ _ r => r))
 rw [<- h2]; exact h1
theorem N6 (ha : PE X a (dN X.K W ma)) (hb : PE X (.BoolOp .Or (b :: rest) pos) (dN X.K W mb)) : PE X (.BoolOp .Or (a :: b :: rest) pos) (dN X.K W (M7 ma mb)) := dF (pe_orT ha hb) fun σ H Q h =>
 cJ (k := fun x ρ S1 => (yD x S1).bind fun k S2 => if k = true then .ok x S2 else mb ρ S2) h fun B φ S ρ d v H1 I E r f => by
  cases q : yD d S with
  | stuck => rw [q] at f; exact f.elim
  | err e S' =>
   exfalso
   unfold yD at q;split at q <;> first | cases q | (split at q <;> cases q)
  | ok k S' =>
   have e := C3 q;subst e;rw [q] at f;refine ⟨k, tru_V I r q, ?_⟩
   cases k with
   | true => exact Fin.now f I r
   | false => exact ⟨B, φ, S', ρ, I, E, f⟩
theorem N7 (ha : PE X a (dN X.K W ma)) : PE X (.UnaryOp .Not a pos) (dN X.K W (H9 ma)) := dF (e_not ha) fun σ H Q h =>
 cJ (k := fun x _ S1 => (yD x S1).bind fun k S2 => Res.ok (Vl.dat (D.bl (!k))) S2) h fun B φ S ρ d v H1 I E r f => by
  cases q : yD d S with
  | stuck => rw [q] at f; exact f.elim
  | err e S' =>
   exfalso
   unfold yD at q;split at q <;> first | cases q | (split at q <;> cases q)
  | ok k S' =>
   have e := C3 q;subst e;rw [q] at f;refine BL (W := W) (σ := σ) I r ?_
   rw [q];intro φ' v' H' I' X' r';cases r';exact Fin.now (Fin.ext f X') I' rfl
def pR (f g : Vl -> Vl -> aO -> Res Vl) (a b c : FE) : FE := fun ρ S => (a ρ S).bind fun x S1 => (b ρ S1).bind fun y S2 => (f x y S2).bind fun z S3 => match z with
 | .dat (.bl k) => if k = true then (c ρ S3).bind fun w S4 => g y w S4 else .ok (.dat (.bl false)) S3
 | _ => .stuck
theorem AW {r r' : R2} {f g : Vl -> Vl -> aO -> Res Vl} (s : eX K r f) (s' : eX K r' g) (h : dN K W (pR f g ma mb mc) σ H Q) : Br r r' (dN K W ma) (dN K W mb) (dN K W mc) σ H Q := by
 refine cJ (k := fun x ρ S1 => (mb ρ S1).bind fun y S2 => (f x y S2).bind fun z S3 => match z with | .dat (.bl k) => if k = true then (mc ρ S3).bind fun w S4 => g y w S4 else .ok (.dat (.bl false)) S3 | _ => .stuck) h fun B φ S ρ d v H1 I E r1 f' => iY I E f' fun φ' S' e w H2 I2 X2 E2 r2 f2 => ?_
 have r1' := r1.ext X2 I;refine s (W := W) (σ := σ) I2 r1' r2 ?_
 cases q : f d e S' with
 | stuck => rw [q] at f2; exact f2
 | err x S3 => rw [q] at f2; exact f2
 | ok z S3 =>
  rw [q] at f2;intro φ3 v3 H3 I3 X3 r3;have f3 := Fin.ext f2 X3;dsimp only [Res.bind] at f3;split at f3
  ·rename_i k
   cases r3;cases k with
   | false => exact Fin.now f3 I3 rfl
   | true => exact iY I3 (E2.ext X3 I2) f3 fun φ4 S4 d4 v4 H4 I4 X4 E4 r4 f4 => s' I4 ((r2.ext X3 I2).ext X4 I3) r4 f4
  ·exact f3.elim
theorem Es {op op' : CmpOp} {r r' : R2} {f g : Vl -> Vl -> aO -> Res Vl} (ho : OpR X (compareOp op) r) (s : eX X.K r f) (ho' : OpR X (compareOp op') r') (s' : eX X.K r' g) (ha : PE X a (dN X.K W ma)) (hb : PE X b (dN X.K W mb)) (hc : PE X c (dN X.K W mc))
  (hm : lastMarks [op, op'] [b, c] = false := by with_unfolding_all rfl) : PE X (.Compare a [op, op'] [b, c] pos) (dN X.K W (pR f g ma mb mc)) := dF (Kf ho ho' ha hb hc hm) fun σ H Q h => AW s s' h
theorem Cc {op op' : CmpOp} {r r' : R2} {f g : Vl -> Vl -> aO -> Res Vl} (ho : OpR X (compareOp op) r) (s : eX X.K r f) (ho' : OpR X (compareOp op') r') (s' : eX X.K r' g) (ha : PE X a (dN X.K W ma)) (hb : PE X b (dN X.K W mb)) (hc : PE X c (dN X.K W mc))
  (hm : lastMarks [op, op'] [b, c] = false := by with_unfolding_all rfl) : PT X (.Compare a [op, op'] [b, c] pos) (vJ X.K W (mB (pR f g ma mb mc))) := A6 (J5 ho ho' ha hb hc hm) fun σ H Q h => AW s s' (GZ h)
def mIf (t : FT) (a b : FE) : FE := fun ρ S => (t ρ S).bind fun c S1 => if c = true then a ρ S1 else b ρ S1
def aJ : FA := fun _ S => .ok [] S
def aB (a : FE) (r : FA) : FA := fun ρ S => (a ρ S).bind fun x S1 => (r ρ S1).bind fun xs S2 => .ok (x :: xs) S2
theorem Io {t u : TA} (h : PA X es t) (i : ∀ σ H Q, u σ H Q -> t σ H Q) : PA X es u := ⟨fun pos pins s σ H Q I q => h.run pos pins s σ H Q I (i σ H Q q)⟩
theorem aF : PA X [] (FV X.K W aJ) := Io pa_nil fun σ H Q h => by
 obtain ⟨B, φ, S, ρ, I, E, f⟩ := h;exact Fin.now (v := []) f I rfl
theorem aA (ha : PE X a (dN X.K W ma)) (hr : PA X es (FV X.K W mas)) (hs : starEach (a :: es) X.env = (false, eval a X.env) :: starEach es X.env := by rfl) : PA X (a :: es) (FV X.K W (aB ma mas)) := Io (pa_cons ha hr hs) fun σ H Q h =>
 cJ (k := fun x ρ S1 => (mas ρ S1).bind fun xs S2 => .ok (x :: xs) S2) h fun B φ S ρ d v H1 I E r f => iY I E f fun φ' S' ds vs H2 I2 X2 E2 r2 f2 => Fin.now f2 I2 ⟨v, vs, rfl, r.ext X2 I, r2⟩
def cM (cl : Bool) (r : FA) : FE := fun ρ S => (r ρ S).bind fun xs S1 => match tP xs with
 | some ds => if ds.length <= sizeLine then newL cl ds S1 else .stuck
 | none => .stuck
def bW (r : FA) : FE := fun ρ S => (r ρ S).bind fun xs S1 => match tP xs with
 | some ds => if ds.length <= sizeLine then .ok (.dat (.tup ds)) S1 else .stuck
 | none => .stuck
theorem bY {cl : Bool} (h : PA X es (FV X.K W mas)) : PE X (.List es pos) (dN X.K W (cM cl mas)) := dF (pe_lst h) fun σ H Q h =>
 cJ (k := fun xs ρ S1 => match tP xs with | some ds => if ds.length <= sizeLine then newL cl ds S1 else .stuck | none => .stuck) h fun B φ S ρ d v H1 I E r f => by
  split at f
  ·rename_i ds q
   have l := uY q r;split at f
   ·rename_i hl
    exact ⟨by rw [l.len]; exact hl, fun p hp => Fin.newL f I l hp⟩
   ·exact f.elim
  ·exact f.elim
theorem bI (h : PA X es (FV X.K W mas)) : PE X (.Tuple es x1 pos) (dN X.K W (bW mas)) := dF (pe_tup h) fun σ H Q h =>
 cJ (k := fun xs ρ S1 => match tP xs with | some ds => if ds.length <= sizeLine then Res.ok (Vl.dat (D.tup ds)) S1 else .stuck | none => .stuck) h fun B φ S ρ d v H1 I E r f => by
  split at f
  ·rename_i ds q
   have l := uY q r;split at f
   ·rename_i hl
    exact ⟨by rw [l.len]; exact hl, fun p hp => Fin.newT f I l hp⟩
   ·exact f.elim
  ·exact f.elim
end
section
variable {X : Cx} {W : WX} {e a b c : Expr} {es rest : List Expr} {pos p q p2 : Pos} {x y z : Str} {K : aC} {ma mb mc : FE} {mt mu : FT} {mas : FA} {B : Addr -> Prop} {φ : List Addr} {S : aO} {H : Hp} {σ : L2.St} {Q : VK}
theorem yF {r : V -> Hp -> VK -> Prop} {f : Vl -> aO -> Res Vl} (s : Cy K r f) (h : dN K W (m1 f ma) σ H Q) : tCB (c1 r) (tCons (dN K W ma) tNil) σ H Q := Ga s h
def eP (x : Vl) (S : aO) : Res Vl := match x with
 | .dat (.tup xs) => .ok (.dat (.int xs.length)) S
 | .dat (.str z) => if z.length <= sizeLine then .ok (.dat (.int z.length)) S else .stuck
 | .cels ns => .ok (.dat (.int ns.length)) S
 | x => match kU S x with
  | some xs => .ok (.dat (.int xs.length)) S
  | none => .stuck
theorem s_len : Cy K (cLen K) eP := fun {W σ B φ S H x d Q} I r f => by
 unfold eP at f;split at f
 ·obtain ⟨a, vs, rfl, h1, l1⟩ := r
  refine ⟨vs, .inr h1, ?_⟩
  rw [l1.len];exact Fin.now f I rfl
 ·cases r
  split at f
  ·rename_i h; exact ⟨h, Fin.now f I rfl⟩
  ·exact f.elim
 ·rename_i ns
  obtain ⟨a, as, rfl, h1, h2, h3⟩ := r;refine ⟨as.map V.ref, .inl (SqL.of h2), ?_⟩
  have e : as.length = ns.length := by
   have := congrArg List.length h3
   simpa using this.symm
  rw [bE, e];exact Fin.now f I rfl
 ·split at f
  ·rename_i xs q1
   obtain ⟨a, vs, rfl, h1, l1⟩ := lG I q1 r;refine ⟨vs, .inl (SqL.of h1), ?_⟩
   rw [l1.len];exact Fin.now f I rfl
  ·exact f.elim
theorem eJ (hm : X.mg "len" = none) (ha : PE X a (dN X.K W ma)) (hg : Gl X "len" := by rfl) (hs : starEach [a] X.env = [(false, eval a X.env)] := by rfl) : PE X (.Call (.Name "len" p) [a] [] pos) (dN X.K W (m1 eP ma)) := dF (e_len hm ha hg hs) fun σ H Q h => yF s_len h
def xJ (x : Vl) (S : aO) : Res Vl := match x with
 | .dat (.int i) => .ok (.dat (.int i)) S
 | .dat (.bl k) => .ok (.dat (.int (if k then 1 else 0))) S
 | _ => .stuck
theorem s_int : Cy K cInt xJ := fun {W σ B φ S H x d Q} I r f => by
 unfold xJ at f;split at f
 ·cases r; exact Fin.now f I rfl
 ·cases r; exact Fin.now f I rfl
 ·exact f.elim
theorem vV (hm : X.mg "int" = none) (ha : PE X a (dN X.K W ma)) (hg : Gl X "int" := by rfl) (hs : starEach [a] X.env = [(false, eval a X.env)] := by rfl) : PE X (.Call (.Name "int" p) [a] [] pos) (dN X.K W (m1 xJ ma)) := dF (e_int hm ha hg hs) fun σ H Q h => yF s_int h
def A3 : List D -> Option (List Bool)
 | [] => some []
 | .bl b :: r => match A3 r with
  | some bs => some (b :: bs)
  | none => none
 | _ :: _ => none
theorem Cv {Bk : Addr -> Prop} : ∀ {ds : List D} {bs : List Bool} {vs : List V}, A3 ds = some bs -> RepL K Bk H ds vs -> vs = bs.map V.bl
 | [], bs, vs, h, r => by cases h; exact r
 | d :: ds, bs, vs, h, ⟨v, ws, e, h1, h2⟩ => by
  subst e;cases d with
  | bl b =>
   unfold A3 at h;cases q : A3 ds with
   | none => rw [q] at h; cases h
   | some es => rw [q] at h; cases h; cases h1; rw [Cv q h2]; rfl
  | _ => cases h
def NJ : List D -> Option (List Int)
 | [] => some []
 | .int b :: r => match NJ r with
  | some bs => some (b :: bs)
  | none => none
 | _ :: _ => none
def AL (x : Vl) (S : aO) : Res Vl := match kU S x with
 | some xs => (match A3 xs with
  | some bs => .ok (.dat (.bl (bs.all id))) S
  | none => .stuck)
 | none => .stuck
theorem s_all : Cy K (cAll K) AL := fun {W σ B φ S H x d Q} I r f => by
 unfold AL at f;split at f
 ·rename_i xs q1
  obtain ⟨a, vs, rfl, h1, l1⟩ := lG I q1 r;split at f
  ·rename_i bs q2
   rw [Cv q2 l1] at h1;exact ⟨bs, SqL.of h1, Fin.now f I rfl⟩
  ·exact f.elim
 ·exact f.elim
theorem LV (hm : X.mg "all" = none) (ha : PE X a (dN X.K W ma)) (hc : X.calm = true := by rfl) (hg : Gl X "all" := by rfl) (hs : starEach [a] X.env = [(false, eval a X.env)] := by rfl) : PE X (.Call (.Name "all" p) [a] [] pos) (dN X.K W (m1 AL ma)) := dF (e_all hm ha hc hg hs) fun σ H Q h => yF s_all h
def rQ (cl : Bool) (x : Vl) (S : aO) : Res Vl := match x with
 | .dat (.tup xs) => newL cl xs S
 | x => match kU S x with
  | some xs => newL cl xs S
  | none => .stuck
theorem Lr {cl : Bool} : Cy K (LY K) (rQ cl) := fun {W σ B φ S H x d Q} I r f => by
 unfold rQ at f;split at f
 ·obtain ⟨a, vs, rfl, h1, l1⟩ := r
  exact ⟨vs, .inr h1, fun l hl => Fin.newL f I l1 hl⟩
 ·split at f
  ·rename_i xs q1
   obtain ⟨a, vs, rfl, h1, l1⟩ := lG I q1 r;exact ⟨vs, .inl (SqL.of h1), fun l hl => Fin.newL f I l1 hl⟩
  ·exact f.elim
theorem E8 {cl : Bool} (hm : X.mg "list" = none) (ha : PE X a (dN X.K W ma)) (hg : Gl X "list" := by rfl) (hs : starEach [a] X.env = [(false, eval a X.env)] := by rfl) : PE X (.Call (.Name "list" p) [a] [] pos) (dN X.K W (m1 (rQ cl) ma)) := dF (NC hm ha hg hs) fun σ H Q h => yF Lr h
def fTuple (x : Vl) (S : aO) : Res Vl := match kU S x with
 | some xs => .ok (.dat (.tup xs)) S
 | none => .stuck
theorem JD : Cy K (IY K) fTuple := fun {W σ B φ S H x d Q} I r f => by
 unfold fTuple at f;split at f
 ·rename_i xs q1
  obtain ⟨a, vs, rfl, h1, l1⟩ := lG I q1 r;exact ⟨vs, SqL.of h1, fun l hl => Fin.newT f I l1 hl⟩
 ·exact f.elim
theorem Bh (hm : X.mg "tuple" = none) (ha : PE X a (dN X.K W ma)) (hg : Gl X "tuple" := by rfl) (hs : starEach [a] X.env = [(false, eval a X.env)] := by rfl) : PE X (.Call (.Name "tuple" p) [a] [] pos) (dN X.K W (m1 fTuple ma)) := dF (Ke hm ha hg hs) fun σ H Q h => yF JD h
def fAbs (x : Vl) (S : aO) : Res Vl := match x with
 | .dat (.int i) => .ok (.dat (.int (if i < 0 then -i else i))) S
 | _ => .stuck
theorem CO {a : Addr} {xs : List V} (h : SqT K H a xs) : A8 K H a "tuple" := by
 refine ⟨by decide, ?_⟩
 rcases h with (h | ⟨o, h⟩) | ⟨o, its, n, h, hc, _⟩
 ·exact .base (.tup h)
 ·exact .fTuple h
 ·exact .kTuple h hc
theorem rJ {a : Addr} {xs : List V} (h : SqL K H a xs) : A8 K H a "list" := by
 refine ⟨by decide, ?_⟩
 rcases h with (h | ⟨o, h⟩) | ⟨o, its, n, h, hc, _⟩
 ·exact .base (.lst h)
 ·exact .base (.frz h)
 ·exact .kList h hc
def kindOf (S : aO) : Vl -> Option String
 | .dat .non => some "NoneType"
 | .dat (.bl _) => some "bool"
 | .dat (.int _) => some "int"
 | .dat (.str _) => some "str"
 | .dat (.lst _) => some "list"
 | .dat (.tup _) => some "tuple"
 | .dat .dct => some "dict"
 | .dat (.opq _) => none
 | .dat (.ins _ _ _) => none
 | .cels _ => some "list"
 | .scr _ => some "list"
 | .tc _ => some "tuple"
 | .cel n => match S[n]? with
  | some (.lst _) => some "list"
  | some (.dct _) => some "dict"
  | some (.lv _) => some "list"
  | _ => none
def fIsi (T : String) (x : Vl) (S : aO) : Res Vl := match kindOf S x with
 | some n => .ok (.dat (.bl (isTy T n))) S
 | none => .stuck
theorem vQ {d : Vl} {v : V} {n : String} (I : GInv K B φ S H) (r : RepV K B φ S H d v) (h : kindOf S d = some n) : (v = .non /\ n = "NoneType") \/ (∃ b, v = .bl b /\ n = "bool") \/ (∃ b, v = .int b /\ n = "int") \/ (∃ b, v = .str b /\ n = "str") \/ ∃ a, v = .ref a /\ A8 K H a n := by
 cases d with
 | dat d =>
  cases d with
  | non => cases h; cases r; exact .inl ⟨rfl, rfl⟩
  | bl b => cases h; cases r; exact .inr (.inl ⟨b, rfl, rfl⟩)
  | int b => cases h; cases r; exact .inr (.inr (.inl ⟨b, rfl, rfl⟩))
  | str b => cases h; cases r; exact .inr (.inr (.inr (.inl ⟨b, rfl, rfl⟩)))
  | lst xs => cases h; obtain ⟨a, vs, rfl, _, h1, _⟩ := r; exact .inr (.inr (.inr (.inr ⟨a, rfl, rJ (SqL.of h1)⟩)))
  | tup xs => cases h; obtain ⟨a, vs, rfl, h1, _⟩ := r; exact .inr (.inr (.inr (.inr ⟨a, rfl, CO h1⟩)))
  | ins C ns xs => cases h
  | opq _ => cases h
  | dct => cases h; obtain ⟨a, rfl, _, h1⟩ := r; exact .inr (.inr (.inr (.inr ⟨a, rfl, by decide, .base (.dK h1)⟩)))
 | cels ns => cases h; obtain ⟨a, as, rfl, _, h1, _⟩ := r; exact .inr (.inr (.inr (.inr ⟨a, rfl, rJ (SqL.of h1)⟩)))
 | scr ns => cases h; obtain ⟨a, rfl, h1⟩ := r; exact .inr (.inr (.inr (.inr ⟨a, rfl, rJ h1.sq⟩)))
 | tc xs => cases h; obtain ⟨a, vs, rfl, h1, _⟩ := r; exact .inr (.inr (.inr (.inr ⟨a, rfl, CO h1⟩)))
 | cel n =>
  obtain ⟨a, rfl, h1⟩ := r;have h : (match S[n]? with | some (.lst _) => some "list" | some (.dct _) => some "dict" | some (.lv _) => some "list" | _ => none) = some _ := h
  split at h
  ·rename_i q
   cases h;obtain ⟨vs, h2, _⟩ := I.ok n _ a q h1;exact .inr (.inr (.inr (.inr ⟨a, rfl, rJ (SqL.of h2)⟩)))
  ·rename_i q
   cases h;obtain ⟨vs, h2, _⟩ := I.ok n _ a q h1;exact .inr (.inr (.inr (.inr ⟨a, rfl, by decide, .base (.dK h2)⟩)))
  ·rename_i q
   cases h;obtain ⟨vs, h2, _⟩ := I.ok n _ a q h1;exact .inr (.inr (.inr (.inr ⟨a, rfl, rJ (SqL.of h2)⟩)))
  ·cases h
theorem s_isi {T : String} (hT : T ∈ targets) : Cy K (Ib K T) (fIsi T) := fun {W σ B φ S H x d Q} I r f => by
 unfold fIsi at f;have h6 : T = "int" \/ T = "bool" \/ T = "str" \/ T = "list" \/ T = "tuple" \/ T = "dict" := by simpa [targets] using hT
 split at f
 ·rename_i n h
  have q : ∀ b, b = isTy T n -> Q (.bl b) H := fun b e => by rw [e]; exact Fin.now f I rfl
  rcases vQ I r h with ⟨rfl, rfl⟩ | ⟨b, rfl, rfl⟩ | ⟨b, rfl, rfl⟩ | ⟨b, rfl, rfl⟩ | ⟨a, rfl, hk⟩
  ·exact q false (by rcases h6 with e | e | e | e | e | e <;> subst e <;> decide)
  ·exact q _ (by rcases h6 with e | e | e | e | e | e <;> subst e <;> decide)
  ·exact q _ (by rcases h6 with e | e | e | e | e | e <;> subst e <;> decide)
  ·exact q _ (by rcases h6 with e | e | e | e | e | e <;> subst e <;> decide)
  ·have h3 : n = "list" \/ n = "tuple" \/ n = "dict" := by simpa using hk.1
   exact ⟨n, hk, q _ (by rcases h6 with e | e | e | e | e | e <;> rcases h3 with e' | e' | e' <;> subst e <;> subst e' <;> decide)⟩
 ·exact f.elim
theorem gP {T : String} (hm : X.mg "isinstance" = none) (hmT : X.mg y = none) (ha : PE X a (dN X.K W ma)) (hT : T ∈ targets := by decide) (hv : bootBuiltins y = some (.type T) := by decide +kernel)
  (hg : Gl X "isinstance" := by rfl) (hgT : Gl X y := by rfl) (hn : y ≠ "__name__" := by decide) (hd : (y == ("__debug__" : Str)) = false := by decide) (hs : starEach [a, .Name y q] X.env = (false, eval a X.env) :: starEach [.Name y q] X.env := by rfl) :
  PE X (.Call (.Name "isinstance" p) [a, .Name y q] [] pos) (dN X.K W (m1 (fIsi T) ma)) := dF (e_isi hm hmT ha hT hv hg hgT hn hd hs) fun σ H Q h => Ga (s_isi hT) h
def fIsi2 (T U : String) (x : Vl) (S : aO) : Res Vl := match kindOf S x with
 | some n => .ok (.dat (.bl (isTy T n || isTy U n))) S
 | none => .stuck
theorem Ls {T U : String} (hT : T ∈ targets) (hU : U ∈ targets) {x : V} {d : Vl} (I : GInv K B φ S H) (r : RepV K B φ S H d x) (f : Fin K W σ (RepV K) B φ S H (fIsi2 T U d S) Q) {tp : Addr} {H' : Hp} (ntp : H tp = none) (hH : H' = upd H tp (.tup [.ty T, .ty U])) : LZ K T U x H' fun b => Q (.bl b) H' := by
 unfold fIsi2 at f;split at f
 ·rename_i n h
  have X1 := Ext.new (o := .tup [.ty T, .ty U]) I ntp;have I1 := I.new (o := .tup [.ty T, .ty U]) ntp;have hq : Q (.bl (isTy T n || isTy U n)) H' := by subst hH; exact f φ _ _ I1 X1 rfl
  have r' : RepV K B φ S H' d x := by subst hH; exact r.ext X1 I
  rcases vQ I r h with ⟨rfl, rfl⟩ | ⟨b, rfl, rfl⟩ | ⟨b, rfl, rfl⟩ | ⟨b, rfl, rfl⟩ | ⟨a, rfl, hk⟩
  ·have : ∀ T ∈ targets, isTy T "NoneType" = false := by decide
   rw [this T hT, this U hU] at hq;exact hq
  ·exact hq
  ·exact hq
  ·exact hq
  ·have I1' : GInv K B φ S H' := by subst hH; exact I1
   rcases vQ I1' r' h with ⟨z, _⟩ | ⟨b, z, _⟩ | ⟨b, z, _⟩ | ⟨b, z, _⟩ | ⟨a', z, hk'⟩ <;> cases z
   exact ⟨n, hk', hq⟩
 ·exact f.elim
theorem IP {q1 q2 tpos : Pos} {j : Nat} {T U : String} (hm : X.mg "isinstance" = none) (hmT : X.mg y = none) (hmU : X.mg z = none) (ha : PE X a (dN X.K W ma)) (hT : T ∈ targets := by decide) (hU : U ∈ targets := by decide)
  (hv : bootBuiltins y = some (.type T) := by decide +kernel) (hw : bootBuiltins z = some (.type U) := by decide +kernel) (hg : Gl X "isinstance" := by rfl) (hgT : Gl X y := by rfl) (hgU : Gl X z := by rfl) (hn : y ≠ "__name__" := by decide) (hd : (y == ("__debug__" : Str)) = false := by decide) (hn2 : z ≠ "__name__" := by decide) (hd2 : (z == ("__debug__" : Str)) = false := by decide)
  (hs : starEach [a, .Tuple [.Name y q1, .Name z q2] j tpos] X.env = (false, eval a X.env) :: starEach [.Tuple [.Name y q1, .Name z q2] j tpos] X.env := by rfl) :
  PE X (.Call (.Name "isinstance" p) [a, .Tuple [.Name y q1, .Name z q2] j tpos] [] pos) (dN X.K W (m1 (fIsi2 T U) ma)) :=
 dF (ND hm hmT hmU ha hT hU hv hw hg hgT hgU hn hd hn2 hd2 hs) fun σ H Q h => cJ (k := fun x _ S => fIsi2 T U x S) h fun B φ S ρ d v H1 I E r f => by
  show _ /\ _
  exact ⟨(by show 2 <= sizeLine; decide), fun tp htp => ⟨upd_same, Ls hT hU I r f htp rfl⟩⟩
def cutD (xs : List D) (lo hi : Option Int) : List D := (xs.drop (HT.sIx xs.length 0 lo)).take (HT.sIx xs.length xs.length hi - HT.sIx xs.length 0 lo)
theorem RepL.cut {Bk : Addr -> Prop} {ds : List D} {vs : List V} {lo hi : Option Int} (h : RepL K Bk H ds vs) : RepL K Bk H (cutD ds lo hi) (cutV vs lo hi) := by
 unfold cutD cutV;rw [h.len];exact (h.drop _).take _
def LW (cl : Bool) (x : Vl) (lo hi : Option Int) (S : aO) : Res Vl := match x with
 | .dat (.tup xs) => .ok (.dat (.tup (cutD xs lo hi))) S
 | .dat (.str z) => if z.length <= sizeLine then .ok (.dat (.str (cutS z lo hi))) S else .stuck
 | .scr ns => newL cl (cutD (ns.map D.int) lo hi) S
 | x => match kU S x with
  | some xs => newL cl (cutD xs lo hi) S
  | none => .stuck
def AJ : FO := fun _ S => .ok none S
def sW (a : FE) : FO := fun ρ S => (a ρ S).bind fun x S1 => match x with
 | .dat (.int i) => .ok (some i) S1
 | _ => .stuck
theorem Im {e : Option Expr} {t u : TO} (h : PO X e t) (i : ∀ σ H Q, u σ H Q -> t σ H Q) : PO X e u := ⟨fun pins s σ H Q I q => h.run pins s σ H Q I (i σ H Q q)⟩
theorem nO : PO X none (rdO X.K W AJ) := Im po_none fun σ H Q h => by
 obtain ⟨B, φ, S, ρ, I, E, f⟩ := h;exact Fin.now (v := none) f I rfl
theorem nN (ha : PE X a (dN X.K W ma)) : PO X (some a) (rdO X.K W (sW ma)) := Im (Gu ha) fun σ H Q h =>
 cJ (k := fun x _ S1 => match x with | .dat (.int i) => .ok (some i) S1 | _ => .stuck) h fun B φ S ρ d v H1 I E r f => by
  split at f
  ·cases r; exact Fin.now f I rfl
  ·exact f.elim
theorem Ad {Bk : Addr -> Prop} : ∀ ns : List Int, RepL K Bk H (ns.map D.int) (ns.map V.int)
 | [] => rfl
 | n :: ns => ⟨_, _, rfl, rfl, Ad ns⟩
theorem Fv {xs : List D} {lo hi : Option Int} (h : HT.sIx xs.length 0 lo = 0 /\ HT.sIx xs.length xs.length hi = xs.length) : cutD xs lo hi = xs := by
 unfold cutD;rw [h.1, h.2];simp
def Iz (cl : Bool) (a : FE) (l h : FO) : FE := fun ρ S => (a ρ S).bind fun x S1 => (l ρ S1).bind fun lo S2 => (h ρ S2).bind fun hi S3 => LW cl x lo hi S3
theorem Ci {cl : Bool} {lo hi : Option Expr} {ml mh : FO} (ha : PE X a (dN X.K W ma)) (hl : PO X lo (rdO X.K W ml)) (hh : PO X hi (rdO X.K W mh)) : PE X (.Subscript a (.Slice lo hi none p2) pos) (dN X.K W (Iz cl ma ml mh)) := dF (pe_slice sl_C ha hl hh) fun σ H Q h =>
 cJ (k := fun x ρ S1 => (ml ρ S1).bind fun lo S2 => (mh ρ S2).bind fun hi S3 => LW cl x lo hi S3) h fun B φ S ρ d v H1 I E r f => iY I E f fun φ1 S1 d1 v1 H2 I1 X1 E1 r1 f1 => iY I1 E1 f1 fun φ2 S2 d2 v2 H3 I2 X2 E2 r2 f2 => by
  cases r1;cases r2
  replace r := (r.ext X1 I).ext X2 I1
  unfold LW at f2;split at f2
  ·rename_i xs
   obtain ⟨a, vs, rfl, h1, l1⟩ := r;refine xO ⟨vs, h1, fun hw => ?_, fun hw p hp => Fin.newT f2 I2 l1.cut hp⟩
   rw [l1.len] at hw;have e := Fv (xs := xs) hw;rw [e] at f2;exact Fin.now f2 I2 ⟨a, vs, rfl, h1, l1⟩
  ·cases r
   split at f2
   ·rename_i hz; exact ⟨hz, Fin.now f2 I2 rfl⟩
   ·exact f2.elim
  ·obtain ⟨a, rfl, h1⟩ := r
   exact AQ ⟨_, h1.sq, fun p hp => Fin.newL f2 I2 (Ad _).cut hp⟩
  ·split at f2
   ·rename_i xs q1
    obtain ⟨a, vs, rfl, h1, l1⟩ := lG I2 q1 r;exact AQ ⟨vs, SqL.of h1, fun p hp => Fin.newL f2 I2 l1.cut hp⟩
   ·exact f2.elim
def vO (a : FE) : FE := fun ρ S => (a ρ S).bind fun x S1 => match x with
 | .cel n => (match S1[n]? with
  | some (.lst ds) => .ok (.dat (.lst ds)) (S1.set n .dead)
  | _ => .stuck)
 | _ => .stuck
theorem rO (ha : PE X a (dN X.K W ma)) : PE X a (dN X.K W (vO ma)) := dF ha fun σ H Q h =>
 cJ (k := fun x _ S1 => match x with | .cel n => (match S1[n]? with | some (Cell.lst ds) => Res.ok (Vl.dat (D.lst ds)) (S1.set n Cell.dead) | _ => Res.stuck) | _ => Res.stuck) h fun B φ S ρ d v H1 I E r f => by
  split at f
  ·rename_i n
   obtain ⟨a, rfl, h1⟩ := r;split at f
   ·rename_i ds q
    obtain ⟨vs, h2, l⟩ := I.ok n _ a q h1;have X1 := Ext.kill (φ := φ) (S := S) (H := H1) (n := n);exact f φ _ H1 I.kill X1 ⟨a, vs, rfl, I.killed q (by simp) h1, h2, X1.repL I l⟩
   ·exact f.elim
  ·exact f.elim
end
inductive Out where
 | next (ρ : Ev) (S : aO) | ret (d : Vl) (S : aO) | brk (ρ : Ev) (S : aO) | cnt (ρ : Ev) (S : aO) | err (e : Er) (ρ : Ev) (S : aO) | stuck
abbrev FS := Ev -> aO -> Out
def Res.toS {α : Type} (r : Res α) (ρ : Ev) (k : α -> aO -> Out) : Out := match r with
 | .ok a S => k a S
 | .err e S => .err e ρ S
 | .stuck => .stuck
def FinS (K : aC) (W : WX) (D : Ends) (B : Addr -> Prop) (φ : List Addr) (S : aO) (H : Hp) (o : Out) : Prop := match o with
 | .next ρ' S' => ∀ φ' σ' H', GInv K B φ' S' H' -> Ext φ S H φ' S' H' -> RepE K B φ' S' H' ρ' σ' -> D.nx σ' H'
 | .ret d S' => ∀ φ' v H', GInv K B φ' S' H' -> Ext φ S H φ' S' H' -> RepV K B φ' S' H' d v -> D.rt v H'
 | .brk ρ' S' => ∀ φ' σ' H', GInv K B φ' S' H' -> Ext φ S H φ' S' H' -> RepE K B φ' S' H' ρ' σ' -> D.bk σ' H'
 | .cnt ρ' S' => ∀ φ' σ' H', GInv K B φ' S' H' -> Ext φ S H φ' S' H' -> RepE K B φ' S' H' ρ' σ' -> D.ct σ' H'
 | .err e ρ' S' => ∀ φ' σ' c x H', GInv K B φ' S' H' -> Ext φ S H φ' S' H' -> RepE K B φ' S' H' ρ' σ' -> NK K B φ' S' H' e c x -> W c x σ' H'
 | .stuck => False
def mI (K : aC) (W : WX) (m : FS) : TS := fun D σ H => ∃ B φ S ρ, GInv K B φ S H /\ RepE K B φ S H ρ σ /\ FinS K W D B φ S H (m ρ S)
section
variable {X : Cx} {W : WX} {e a b c : Expr} {es rest : List Expr} {pos p q p2 : Pos} {x y z : Str} {K : aC} {ma mb mc : FE} {mt mu : FT} {mas : FA} {B : Addr -> Prop} {φ φ' : List Addr} {S S' : aO} {H H' : Hp} {σ : L2.St} {Q : VK} {m n : FS} {st : Stmt} {sts : List Stmt} {D : Ends}
theorem jQ {t u : TS} (h : PS X st t) (i : ∀ D σ H, u D σ H -> t D σ H) : PS X st u := ⟨fun pins s σ H D I q => h.run pins s σ H D I (i D σ H q)⟩
theorem xZ {t u : TS} (h : PSs X sts t) (i : ∀ D σ H, u D σ H -> t D σ H) : PSs X sts u := ⟨fun pins s σ H D I q => h.run pins s σ H D I (i D σ H q)⟩
theorem FinS.ext {o : Out} (f : FinS K W D B φ S H o) (e : Ext φ S H φ' S' H') : FinS K W D B φ' S' H' o := by
 cases o with
 | next ρ S1 => exact fun φ1 v H1 I1 X r => f φ1 v H1 I1 (e.trans X) r
 | ret d S1 => exact fun φ1 v H1 I1 X r => f φ1 v H1 I1 (e.trans X) r
 | brk ρ S1 => exact fun φ1 v H1 I1 X r => f φ1 v H1 I1 (e.trans X) r
 | cnt ρ S1 => exact fun φ1 v H1 I1 X r => f φ1 v H1 I1 (e.trans X) r
 | err x ρ S1 => exact fun φ1 σ1 c x H1 I1 X r => f φ1 σ1 c x H1 I1 (e.trans X) r
 | stuck => exact f
theorem dJ {α β : Type} {R : Rl α β} {ρ : Ev} {m : Ev -> aO -> Res α} {k : α -> aO -> Out} {Q1 : β -> Hp -> Prop} (I : GInv K B φ S H) (E : RepE K B φ S H ρ σ) (f : FinS K W D B φ S H ((m ρ S).toS ρ k))
  (hk : ∀ φ' S' d v H1, GInv K B φ' S' H1 -> Ext φ S H φ' S' H1 -> RepE K B φ' S' H1 ρ σ -> R B φ' S' H1 d v -> FinS K W D B φ' S' H1 (k d S') -> Q1 v H1) : rd K W R m σ H Q1 := by
 refine ⟨B, φ, S, ρ, I, E, ?_⟩
 cases e : m ρ S with
 | stuck => rw [e] at f; exact f
 | err x S' =>
  rw [e] at f;exact fun φ' c d H' I' X r => f φ' σ c d H' I' X (E.ext X I) r
 | ok d S' =>
  rw [e] at f;exact fun φ' v H' I' X r => hk φ' S' d v H' I' X (E.ext X I) r (FinS.ext f X)
def aT (m n : FS) : FS := fun ρ S => match m ρ S with
 | .next ρ' S' => n ρ' S'
 | o => o
def bP : FS := fun ρ S => .next ρ S
def cC (a : FE) : FS := fun ρ S => (a ρ S).toS ρ fun d S1 => .ret d S1
def kY (a : FE) : FS := fun ρ S => (a ρ S).toS ρ fun _ S1 => .next ρ S1
def cN (t : FT) (m n : FS) : FS := fun ρ S => (t ρ S).toS ρ fun c S1 => if c = true then m ρ S1 else n ρ S1
theorem J7 (h : mI K W (aT m n) D σ H) : tSeq (mI K W m) (mI K W n) D σ H := by
 obtain ⟨B, φ, S, ρ, I, E, f⟩ := h;refine ⟨B, φ, S, ρ, I, E, ?_⟩
 unfold aT at f;cases e : m ρ S with
 | next ρ' S' =>
  rw [e] at f;exact fun φ' σ' H' I' X r => ⟨B, φ', S', ρ', I', r, FinS.ext f X⟩
 | ret d S' => rw [e] at f; exact f
 | brk d S' => rw [e] at f; exact f
 | cnt d S' => rw [e] at f; exact f
 | err x d S' => rw [e] at f; exact f
 | stuck => rw [e] at f; exact f
theorem aZ : PSs X [] (mI X.K W bP) := xZ pss_nil fun D σ H h => by
 obtain ⟨B, φ, S, ρ, I, E, f⟩ := h;exact f φ σ H I Ext.refl E
theorem aH (h : PS X st (mI X.K W m)) : PSs X [st] (mI X.K W m) := pss_one h
theorem aG (h : PS X st (mI X.K W m)) (hr : PSs X sts (mI X.K W n)) : PSs X (st :: sts) (mI X.K W (aT m n)) := xZ (pss_cons h hr) fun D σ H h => J7 h
theorem aX (ha : PE X a (dN X.K W ma)) : PS X (.Return (some a) pos) (mI X.K W (cC ma)) := jQ (ps_ret ha) fun D σ H h => by
 obtain ⟨B, φ, S, ρ, I, E, f⟩ := h;exact dJ I E f fun φ' S' d v H1 I1 X1 E1 r f1 => f1 φ' v H1 I1 Ext.refl r
theorem gH (ha : PE X a (dN X.K W ma)) (hs : swapsWith a none pos.line X.env = pure false := by rfl) : PS X (.Expr a pos) (mI X.K W (kY ma)) := jQ (ps_expr ha hs) fun D σ H h => by
 obtain ⟨B, φ, S, ρ, I, E, f⟩ := h;exact dJ I E f fun φ' S' d v H1 I1 X1 E1 r f1 => f1 φ' σ H1 I1 Ext.refl E1
theorem bV {s1 s2 : List Stmt} (ht : PT X c (vJ X.K W mt)) (ha : PSs X s1 (mI X.K W m)) (hb : PSs X s2 (mI X.K W n)) : PS X (.If c s1 s2 pos) (mI X.K W (cN mt m n)) := jQ (ps_if ht ha hb) fun D σ H h => by
 obtain ⟨B, φ, S, ρ, I, E, f⟩ := h;refine dJ I E f fun φ' S' d v H1 I1 X1 E1 r f1 => ?_
 have r : v = d := r;subst r;cases v with
 | true => exact ⟨B, φ', S', ρ, I1, E1, f1⟩
 | false => exact ⟨B, φ', S', ρ, I1, E1, f1⟩
inductive Tg where
 | nm (i : Nat) | tp (is : List Nat) | tn (i : Nat) (is : List Nat)
def Bf : List Nat -> TGs
 | [] => gNil
 | i :: r => gCons (gName i) (Bf r)
def Kw (K : aC) : Tg -> TG
 | .nm i => gName i
 | .tp is => gTup K is.length (Bf is)
 | .tn i is => gTup K 2 (gCons (gName i) (gCons (gTup K is.length (Bf is)) gNil))
def putAll : List Nat -> List L2.V -> L2.St -> L2.St
 | i :: r, v :: vs, σ => putAll r vs (σ.set i (some v))
 | _, _, σ => σ
def jW : List Nat -> List PH.D -> Ev -> Ev
 | i :: r, v :: vs, σ => jW r vs (σ.set i (some (.dat v)))
 | _, _, σ => σ
def lP : Tg -> Vl -> Ev -> Option Ev
 | .nm i, d, ρ => some (ρ.set i (some d))
 | .tp is, .dat (.tup ds), ρ => if ds.length = is.length then some (jW is ds ρ) else none
 | .tp _, _, _ => none
 | .tn i is, .dat (.tup [d, .tup ds]), ρ => if ds.length = is.length then some (jW is ds (ρ.set i (some (.dat d)))) else none
 | .tn _ _, _, _ => none
def tgS : Tg -> List Nat
 | .nm i => [i]
 | .tp is => is
 | .tn i is => i :: is
theorem vS {Q : L2.St -> Hp -> Prop} : ∀ {is : List Nat} {vs : List L2.V} {σ : L2.St} {H : Hp}, vs.length = is.length -> Q (putAll is vs σ) H -> Bf is vs σ H Q
 | [], [], σ, H, _, q => ⟨rfl, q⟩
 | i :: is, v :: vs, σ, H, h, q => ⟨v, vs, rfl, vS (is := is) (by simpa using h) q⟩
 | [], _ :: _, _, _, h, _ => by simp at h
 | _ :: _, [], _, _, h, _ => by simp at h
theorem yZ : ∀ {is : List Nat} {ds : List PH.D} {vs : List L2.V} {ρ : Ev} {σ : L2.St}, RepL K (jZ B φ S) H ds vs -> RepE K B φ S H ρ σ -> RepE K B φ S H (jW is ds ρ) (putAll is vs σ)
 | [], ds, vs, ρ, σ, h, E => by cases ds <;> cases vs <;> exact E
 | i :: is, [], vs, ρ, σ, h, E => by cases h; exact E
 | i :: is, d :: ds, vs, ρ, σ, ⟨v, ws, e, h1, h2⟩, E => by subst e; exact yZ (is := is) h2 (E.set (d := .dat d) h1 i)
def Lm : Tg -> L2.V -> List L2.V -> L2.St -> L2.St
 | .nm i, v, _, σ => σ.set i (some v)
 | .tp is, _, vs, σ => putAll is vs σ
 | .tn i is, _, v :: vs, σ => putAll is vs (σ.set i (some v))
 | .tn _ _, _, [], σ => σ
theorem DL {t : Tg} {d : Vl} {v : L2.V} {ρ ρ' : Ev} {Q : L2.St -> Hp -> Prop} (E : RepE K B φ S H ρ σ) (r : RepV K B φ S H d v) (h : lP t d ρ = some ρ') (q : ∀ vs, RepE K B φ S H ρ' (Lm t v vs σ) -> Q (Lm t v vs σ) H) : Kw K t v σ H Q := by
 cases t with
 | nm i => cases h; exact q [] (E.set r i)
 | tp is =>
  cases d with
  | dat d =>
   cases d with
   | tup ds =>
    have h : (if ds.length = is.length then some (jW is ds ρ) else none) = some ρ' := h
    split at h
    ·rename_i hl
     cases h;obtain ⟨a, vs, rfl, h1, l⟩ := r;exact ⟨a, vs, rfl, h1, by rw [l.len, hl], vS (by rw [l.len, hl]) (q vs (yZ l E))⟩
    ·cases h
   | _ => cases h
  | _ => cases h
 | tn i is =>
  cases d with
  | dat d =>
   cases d with
   | tup xs =>
    cases xs with
    | nil => cases h
    | cons d0 xs =>
     cases xs with
     | nil => cases h
     | cons d1 xs =>
      cases xs with
      | cons _ _ => cases d1 <;> cases h
      | nil =>
       cases d1 with
       | tup ds =>
        have h : (if ds.length = is.length then some (jW is ds (ρ.set i (some (.dat d0)))) else none) = some ρ' := h
        split at h
        ·rename_i hl
         cases h;obtain ⟨a, vs, rfl, h1, v0, ws, rfl, r0, v1, us, rfl, ⟨b, zs, rfl, h2, l⟩, rfl⟩ := r;refine ⟨a, [v0, .ref b], rfl, h1, rfl, v0, _, rfl, .ref b, _, rfl, b, zs, rfl, h2, by rw [l.len, hl], ?_⟩
         refine vS (Q := fun σ' H' => gNil [] σ' H' Q) (by rw [l.len, hl]) ⟨rfl, ?_⟩
         exact q (v0 :: zs) (yZ l (E.set (d := .dat d0) r0 i))
        ·cases h
       | _ => cases h
   | _ => cases h
  | _ => cases h
def bS (a : FE) (t : Tg) : FS := fun ρ S => (a ρ S).toS ρ fun d S1 => match lP t d ρ with
 | some ρ' => .next ρ' S1
 | none => .stuck
theorem ER {t : Tg} (h : mI K W (bS ma t) D σ H) : tAsg (dN K W ma) (Kw K t) D σ H := by
 obtain ⟨B, φ, S, ρ, I, E, f⟩ := h;refine dJ I E f fun φ' S' d v H1 I1 X1 E1 r f1 => ?_
 split at f1
 ·rename_i ρ' q
  exact DL E1 r q fun vs E2 => f1 φ' _ H1 I1 Ext.refl E2
 ·exact f1.elim
theorem E7 {tg e : Expr} {t : Tg} (he : PE X e (dN X.K W ma)) (hg : PG X tg (Kw X.K t)) (hs : swapsWithSole [tg] e pos.line X.env = pure false := by rfl) (hw : swappedStores [tg] e X.env = pure none := by rfl)
  (h1 : (assignEach [tg] X.env).map (·.2) = [assign tg X.env] := by rfl) : PS X (.Assign [tg] e pos) (mI X.K W (bS ma t)) := jQ (ps_asg he hg hs hw h1) fun D σ H h => ER h
theorem aV {i : Nat} {x : Str} {e : Expr} {pos' : Pos} (hN : X.N.Nodup) (hi : X.N[i]? = some x) (hx : Loc X.env.scope x) (he : PE X e (dN X.K W ma)) (hs : swapsWith e (some (.Name x pos')) pos.line X.env = pure false := by rfl) (hf : X.fn x = true \/ X.env.scope.names.lookup x = some .local := by first | exact .inl rfl | exact .inr rfl | assumption) :
  PS X (.Assign [.Name x pos'] e pos) (mI X.K W (bS ma (.nm i))) := jQ (ps_set hN hi hx he hs hf) fun D σ H h => ER (t := .nm i) h
def wipeE (ρ : Ev) : List Nat -> Ev
 | [] => ρ
 | v :: vs => (wipeE ρ vs).set v none
theorem RepE.wipeE {ρ : Ev} (E : RepE K B φ S H ρ σ) : ∀ is : List Nat, RepE K B φ S H (wipeE ρ is) σ
 | [] => E
 | i :: is => (RepE.wipeE E is).forget i
def eL (is : List Nat) (m : FS) : FS := fun ρ S => match m ρ S with
 | .next ρ' S' => .next (wipeE ρ' is) S'
 | .cnt ρ' S' => .cnt (wipeE ρ' is) S'
 | .brk ρ' S' => .brk (wipeE ρ' is) S'
 | o => o
theorem GV {is : List Nat} (h : mI K W (eL is m) D σ H) : mI K W m D σ H := by
 obtain ⟨B, φ, S, ρ, I, E, f⟩ := h;refine ⟨B, φ, S, ρ, I, E, ?_⟩
 unfold eL at f;cases e : m ρ S with
 | next ρ' S' => rw [e] at f; exact fun φ' σ' H' I' X r => f φ' σ' H' I' X (r.wipeE is)
 | ret d S' => rw [e] at f; exact f
 | brk ρ' S' => rw [e] at f; exact fun φ' σ' H' I' X r => f φ' σ' H' I' X (r.wipeE is)
 | cnt ρ' S' => rw [e] at f; exact fun φ' σ' H' I' X r => f φ' σ' H' I' X (r.wipeE is)
 | err x d S' => rw [e] at f; exact f
 | stuck => rw [e] at f; exact f
theorem cX (is : List Nat) (h : PSs X sts (mI X.K W m)) : PSs X sts (mI X.K W (eL is m)) := xZ h fun D σ H h => GV h
abbrev FI := Ev -> aO -> Res (List PH.D)
def Ir (K : aC) (B : Addr -> Prop) (φ : List Addr) (S : aO) (H : Hp) (J : It) (ds : List PH.D) : Prop := ∀ φ1 S1 H1 B1, GInv K B1 φ1 S1 H1 -> Kp (jZ B φ S) H (jZ B1 φ1 S1) H1 ->
 (∀ i, i < ds.length -> J.go i H1) /\ J.stop ds.length H1 /\ ∀ i x H2 d, ds[i]? = some d -> J.yld i H1 x H2 -> GInv K B1 φ1 S1 H2 /\ Ext φ1 S1 H1 φ1 S1 H2 /\ Rep K (jZ B1 φ1 S1) H2 d x
def RI (K : aC) : Rl (List PH.D) It := fun B φ S H ds J => Ir K B φ S H J ds
abbrev L3 (K : aC) (W : WX) (m : FI) : TI := rd K W (RI K) m
theorem EF {tg iter : Expr} {t u : TI} (h : PI X tg iter t) (i : ∀ σ H R, u σ H R -> t σ H R) : PI X tg iter u := ⟨fun pins s σ H R I q => h.run pins s σ H R I (i σ H R q)⟩
theorem Ext.kpB {B1 : Addr -> Prop} {φ1 : List Addr} {S1 : aO} {H1 : Hp} (h1 : ∀ a, B a -> B1 a) (h2 : ∀ a, H a ≠ none -> B1 a -> B a) (I : GInv K B φ S H) (x : Ext φ S H φ1 S1 H1) : Kp (jZ B φ S) H (jZ B1 φ1 S1) H1 where
 old := fun b o h n => by
  obtain ⟨h3, h4⟩ := x.old b o h (fun q => n (.inr q))
  exact ⟨h3, fun q => by
   rcases q with q | q
   ·exact n (.inl (h2 b (by rw [h]; simp) q))
   ·exact h4 q⟩
 tup := (x.kp I).tup
theorem Jk {v : L2.V} {ds : List PH.D} (I : GInv K B φ S H) (r : Rep K (jZ B φ S) H (.lst ds) v) : ∃ a, v = .ref a /\ (∃ xs, SqL K H a xs) /\ Ir K B φ S H (Itl K a) ds := by
 obtain ⟨a, vs, rfl, nb, h1, l⟩ := r;refine ⟨a, rfl, ⟨vs, SqL.of h1⟩, fun φ1 S1 H1 B1 I1 X1 => ?_⟩
 have h2 := (X1.old a _ h1 nb).1;have l2 := RepL.kp X1 ds vs l;have hl := l.len;refine ⟨fun i hi => ⟨vs, vs[i], SqL.of h2, by simp [hl, hi]⟩, ⟨vs, SqL.of h2, by omega⟩, fun i x H2 d hd y => ?_⟩
 obtain ⟨rfl, y⟩ := y;obtain ⟨v', h3, h4⟩ := l2.get hd;rw [y vs (SqL.of h2)] at h3;cases h3;exact ⟨I1, Ext.refl, h4⟩
theorem MP {v : L2.V} {ds : List PH.D} (I : GInv K B φ S H) (r : Rep K (jZ B φ S) H (.tup ds) v) : ∃ a, v = .ref a /\ (∃ xs, SqT K H a xs) /\ Ir K B φ S H (Itt K a) ds := by
 obtain ⟨a, vs, rfl, h1, l⟩ := r;refine ⟨a, rfl, ⟨vs, h1⟩, fun φ1 S1 H1 B1 I1 X1 => ?_⟩
 have h2 : SqT K H1 a vs := SqT.kp X1.tup h1;have l2 := RepL.kp X1 ds vs l;have hl := l.len;refine ⟨fun i hi => ⟨vs, vs[i], h2, by simp [hl, hi]⟩, ⟨vs, h2, by omega⟩, fun i x H2 d hd y => ?_⟩
 obtain ⟨rfl, y⟩ := y;obtain ⟨v', h3, h4⟩ := l2.get hd;rw [y vs h2] at h3;cases h3;exact ⟨I1, Ext.refl, h4⟩
def itemsOf : Vl -> aO -> Res (List PH.D)
 | .dat (.lst ds), S => .ok ds S
 | .dat (.tup ds), S => .ok ds S
 | _, _ => .stuck
def jY (a : FE) : FI := fun ρ S => (a ρ S).bind itemsOf
theorem gU {tg : Expr} (ha : PE X a (dN X.K W ma)) : PI X tg a (L3 X.K W (jY ma)) := EF (Lw ha) fun σ H R h =>
 cJ (k := fun x _ S => itemsOf x S) h fun B φ S ρ d v H1 I E r f => by
  unfold itemsOf at f;split at f
  ·obtain ⟨a, rfl, h1, h2⟩ := Jk I r
   exact AQ ⟨h1, Fin.now f I h2⟩
  ·obtain ⟨a, rfl, h1, h2⟩ := MP I r
   exact xO ⟨h1, Fin.now f I h2⟩
  ·exact f.elim
def gN (lo : Int) (n : Nat) : List PH.D := (dG n).map fun (k : Nat) => PH.D.int (lo + (k : Int))
theorem MQ {lo : Int} {n : Nat} : Ir K B φ S H (Itr lo n) (gN lo n) := fun φ1 S1 H1 B1 I1 X1 => by
 refine ⟨fun i hi => by show i < n; simpa [gN] using hi, by show n <= _; simp [gN], fun i x H2 d hd y => ?_⟩
 obtain ⟨rfl, rfl⟩ := y;have : d = .int (lo + (i : Int)) := by
  unfold gN at hd;rw [cY] at hd;cases q : (dG n)[i]? with
  | none => rw [q] at hd; cases hd
  | some k =>
   rw [q] at hd;have := aI.mp q;obtain ⟨_, e⟩ := this;simp at e;subst e;cases hd;rfl
 subst this;exact ⟨I1, Ext.refl, rfl⟩
def kH (a : FE) : FI := fun ρ S => (a ρ S).bind fun x S1 => match x with
 | .dat (.int j) => if -(2 ^ 62) <= j /\ j < 2 ^ 62 then .ok (gN 0 j.toNat) S1 else .stuck
 | _ => .stuck
theorem fH {tg : Expr} (hg : Gl X "range") (hm : X.mg "range" = none) (ha : PE X a (dN X.K W ma)) (hs : starEach [a] X.env = [(false, eval a X.env)] := by rfl) : PI X tg (.Call (.Name "range" p) [a] [] pos) (L3 X.K W (kH ma)) := EF (pi_range1 hg hm (pa_cons ha pa_nil hs) hs) fun σ H R h =>
 cJ (k := fun x _ S1 => match x with | Vl.dat (PH.D.int j) => if -(2 ^ 62) <= j /\ j < 2 ^ 62 then Res.ok (gN 0 j.toNat) S1 else .stuck | _ => .stuck) h fun B φ S ρ d v H1 I E r f => by
  split at f
  ·rename_i j
   cases r;split at f
   ·rename_i hj
    exact ⟨j, rfl, hj.1, hj.2, Fin.now f I MQ⟩
   ·exact f.elim
  ·exact f.elim
def bL : Nat -> List PH.D -> List PH.D
 | _, [] => []
 | n, d :: r => .tup [.int (n : Nat), d] :: bL (n + 1) r
theorem Ay : ∀ (n : Nat) (ds : List PH.D), (bL n ds).length = ds.length
 | _, [] => rfl
 | n, d :: r => by simp [bL, Ay (n + 1) r]
theorem Az : ∀ (n : Nat) (ds : List PH.D) (i : Nat), (bL n ds)[i]? = (ds[i]?).map fun d => PH.D.tup [.int ((n + i : Nat) : Int), d]
 | n, [], i => by simp [bL]
 | n, d :: r, 0 => by simp [bL]
 | n, d :: r, i + 1 => by
  simp only [bL, List.getElem?_cons_succ]
  rw [Az (n + 1) r i, show n + 1 + i = n + (i + 1) by omega]
def qI (a : FE) : FI := fun ρ S => (a ρ S).bind fun x S1 => match x with
 | .dat (.lst ds) => .ok (bL 0 ds) S1
 | _ => .stuck
theorem Jl {a : Addr} {vs : List L2.V} {ds : List PH.D} (I : GInv K B φ S H) (nb : ¬ jZ B φ S a) (h1 : H a = some (.lst vs)) (l : RepL K (jZ B φ S) H ds vs) : Ir K B φ S H (Ite K a) (bL 0 ds) := fun φ1 S1 H1 B1 I1 X1 => by
 have h2 := (X1.old a _ h1 nb).1;have l2 := RepL.kp X1 ds vs l;have hl := l.len;rw [Ay];refine ⟨fun i hi => ⟨vs, vs[i], SqL.of h2, by simp [hl, hi]⟩, ⟨vs, SqL.of h2, by omega⟩, fun i x H2 d hd y => ?_⟩
 obtain ⟨T, x', rfl, nT, rfl, y⟩ := y;rw [Az, nY] at hd;cases q : ds[i]? with
 | none => rw [q] at hd; cases hd
 | some d' =>
  rw [q] at hd;cases hd;obtain ⟨v', h3, h4⟩ := l2.get q;rw [y vs (SqL.of h2)] at h3;cases h3;have X2 := Ext.new (o := .tup [.int (i : Nat), x']) I1 nT;exact ⟨I1.new nT, X2, T, _, rfl, .inl (.inl upd_same), _, _, rfl, rfl, _, _, rfl, Rep.kp (X2.kp I1) _ _ h4, rfl⟩
theorem lJ {elts : List Expr} {kk : Nat} {tpos : Pos} (hg : Gl X "enumerate") (hm : X.mg "enumerate" = none) (ha : PE X a (dN X.K W ma)) (hs : starEach [a] X.env = [(false, eval a X.env)] := by rfl) : PI X (.Tuple elts kk tpos) (.Call (.Name "enumerate" p) [a] [] pos) (L3 X.K W (qI ma)) := EF (pi_enum hg hm (pa_cons ha pa_nil hs) hs) fun σ H R h =>
 cJ (k := fun x _ S1 => match x with | Vl.dat (PH.D.lst ds) => Res.ok (bL 0 ds) S1 | _ => .stuck) h fun B φ S ρ d v H1 I E r f => by
  split at f
  ·obtain ⟨a, vs, rfl, nb, h1, l⟩ := r
   exact ⟨a, vs, rfl, SqL.of h1, Fin.now f I (Jl I nb h1 l)⟩
  ·exact f.elim
end
section
variable {X : Cx} {W : WX} {e a b c : Expr} {es rest : List Expr} {pos p q p2 : Pos} {x y z : Str} {K : aC} {ma mb mc : FE} {mt mu : FT} {mas : FA} {mi : FI} {B : Addr -> Prop} {φ φ' : List Addr} {S S' : aO} {H H' : Hp} {σ : L2.St} {Q : VK} {m n : FS} {st : Stmt} {sts : List Stmt} {D : Ends} {t : Tg}
def loop (t : Tg) (mb : FS) : List PH.D -> Ev -> aO -> Out
 | [], ρ, S => .next ρ S
 | d :: r, ρ, S => match lP t (.dat d) ρ with
  | none => .stuck
  | some ρ1 => match mb ρ1 S with
   | .next ρ2 S2 => loop t mb r ρ2 S2
   | .cnt ρ2 S2 => loop t mb r ρ2 S2
   | .brk ρ2 S2 => .next ρ2 S2
   | .ret d S2 => .ret d S2
   | .err e ρ2 S2 => .err e ρ2 S2
   | .stuck => .stuck
def kW (mi : FI) (t : Tg) (mb : FS) : FS := fun ρ S => (mi ρ S).toS ρ fun ds S1 => loop t mb ds ρ S1
theorem J8 (h : mI K W (kW mi t m) D σ H) : tFor (L3 K W mi) (Kw K t) (mI K W m) D σ H := by
 obtain ⟨B, φ, S, ρ, I, E, f⟩ := h;refine dJ I E f fun φ0 S0 ds J H0 I0 X0 E0 r f0 => ?_
 refine ⟨fun i k σ' H' => i <= ds.length /\ k = ds.length - i /\ ∃ φ1 S1 ρ1, GInv K B φ1 S1 H' /\ Ext φ0 S0 H0 φ1 S1 H' /\ RepE K B φ1 S1 H' ρ1 σ' /\ FinS K W D B φ1 S1 H' (loop t m (ds.drop i) ρ1 S1), ⟨_, AR _, rfl, φ0, S0, ρ, I0, Ext.refl, E0, f0⟩, ?_⟩
 rintro i k σ' H' ⟨hi, rfl, φ1, S1, ρ1, I1, X1, E1, f1⟩
 obtain ⟨hgo, hstop, hyld⟩ := r φ1 S1 H' B I1 (X1.kp I0)
 by_cases hlt : i < ds.length
 ·refine .inr ⟨hgo i hlt, fun σ2 H2 => i + 1 <= ds.length /\ ∃ φ2 S2 ρ2, GInv K B φ2 S2 H2 /\ Ext φ0 S0 H0 φ2 S2 H2 /\ RepE K B φ2 S2 H2 ρ2 σ2 /\ FinS K W D B φ2 S2 H2 (loop t m (ds.drop (i + 1)) ρ2 S2), fun σ2 H2 ⟨h1, h2⟩ => ⟨ds.length - (i + 1), by omega, h1, rfl, h2⟩, fun x H2 y => ?_⟩
  have hd : ds[i]? = some ds[i] := by simp [hlt]
  obtain ⟨I2, X2, r2⟩ := hyld i x H2 ds[i] hd y;rw [jI hlt] at f1;unfold loop at f1;have E2 := E1.ext X2 I1;have f2 := FinS.ext f1 X2;split at f2
  ·exact f2.elim
  ·rename_i ρ2 q2
   refine DL E2 (d := .dat ds[i]) r2 q2 fun vs E3 => ⟨B, φ1, S1, ρ2, I2, E3, ?_⟩
   cases q3 : m ρ2 S1 with
   | next ρ3 S3 =>
    rw [q3] at f2;exact fun φ3 σ3 H3 I3 X3 E4 => ⟨hlt, φ3, S3, ρ3, I3, X1.trans (X2.trans X3), E4, FinS.ext f2 X3⟩
   | cnt ρ3 S3 =>
    rw [q3] at f2;exact fun φ3 σ3 H3 I3 X3 E4 => ⟨hlt, φ3, S3, ρ3, I3, X1.trans (X2.trans X3), E4, FinS.ext f2 X3⟩
   | brk ρ3 S3 => rw [q3] at f2; exact f2
   | ret d S3 => rw [q3] at f2; exact f2
   | err e ρ3 S3 => rw [q3] at f2; exact f2
   | stuck => rw [q3] at f2; exact f2
 ·have e : i = ds.length := by omega
  subst e;rw [List.drop_length] at f1;exact .inl ⟨hstop, f1 φ1 σ' H' I1 Ext.refl E1⟩
theorem eI {tg iter : Expr} (hp : PassesOwn (model X.prog X.w) X.A X.env X.xe) (hc : X.calm = true) (hi : PI X tg iter (L3 X.K W mi)) (hg : PG X tg (Kw X.K t)) (hb : PSs X sts (mI X.K W m))
  (hs : ∀ x, foldedSetIterable iter X.env x = pure x := by intro _; rfl) : PS X (.For tg iter sts [] pos) (mI X.K W (kW mi t m)) := jQ (ps_for hp hc hi hg hb hs) fun D σ H h => J8 h
theorem sD : ∀ (vs : List Nat) (σ : L2.St) (j : Nat), (wipe σ vs)[j]? = if j ∈ vs then (σ[j]?).map (fun _ => none) else σ[j]?
 | [], σ, j => by simp [wipe]
 | v :: vs, σ, j => by
  unfold wipe;rw [bD, sD vs σ j, wipe_length]
  by_cases e : v = j
  ·subst e
   rw [if_pos rfl, if_pos (aL ..)]
   by_cases hl : v < σ.length
   ·rw [if_pos hl]; simp [hl]
   ·rw [if_neg hl]; simp [qR hl]
  ·rw [if_neg e]
   by_cases hm : j ∈ vs
   ·rw [if_pos hm, if_pos (aK _ hm)]
   ·rw [if_neg hm, if_neg]
    intro h;rcases bN.mp h with h | h
    ·exact e h.symm
    ·exact hm h
theorem yC {vs : List Nat} {σ : L2.St} {i : Nat} {v : Option L2.V} (hi : i ∈ vs) : wipe (σ.set i v) vs = wipe σ vs := by
 apply lE
 intro j;rw [sD, sD]
 by_cases hj : j ∈ vs
 ·rw [if_pos hj, if_pos hj, bD]
  by_cases e : i = j
  ·subst e
   rw [if_pos rfl]
   by_cases hl : i < σ.length
   ·rw [if_pos hl]; simp [hl]
   ·rw [if_neg hl]; simp [qR hl]
  ·rw [if_neg e]
 ·rw [if_neg hj, if_neg hj, bD, if_neg]
  intro e;subst e;exact hj hi
theorem F8 {vs : List Nat} {σ : L2.St} : wipe (wipe σ vs) vs = wipe σ vs := by
 apply lE
 intro j;rw [sD]
 by_cases hj : j ∈ vs
 ·rw [if_pos hj, sD, if_pos hj]
  cases σ[j]? <;> rfl
 ·rw [if_neg hj]
theorem qS {vs : List Nat} : ∀ {is : List Nat} {ws : List L2.V} {σ : L2.St}, (∀ i ∈ is, i ∈ vs) -> wipe (putAll is ws σ) vs = wipe σ vs
 | [], ws, σ, _ => by cases ws <;> rfl
 | i :: is, [], σ, _ => rfl
 | i :: is, w :: ws, σ, h => by
  unfold putAll;rw [qS (is := is) fun j hj => h j (aK _ hj), yC (h i (aL ..))]
theorem F9 {vs : List Nat} {v : L2.V} {ws : List L2.V} (h : ∀ i ∈ tgS t, i ∈ vs) : wipe (Lm t v ws σ) vs = wipe σ vs := by
 cases t with
 | nm i => exact yC (h i (by simp [tgS]))
 | tp is => exact qS h
 | tn i is =>
  cases ws with
  | nil => rfl
  | cons w ws =>
   show wipe (putAll is ws (σ.set i (some w))) vs = _
   rw [qS fun j hj => h j (aK _ hj), yC (h i (aL ..))]
theorem RepE.wipes {ρ : Ev} (E : RepE K B φ S H ρ σ) (vs : List Nat) : RepE K B φ S H (PH.wipeE ρ vs) (wipe σ vs) := by
 have hl : ∀ vs : List Nat, (PH.wipeE ρ vs).length = ρ.length := fun vs => by
  induction vs with
  | nil => rfl
  | cons v vs ih => simp [PH.wipeE, ih]
 have hg : ∀ (vs : List Nat) (i : Nat) (d : Vl), (PH.wipeE ρ vs)[i]? = some (some d) -> i ∉ vs /\ ρ[i]? = some (some d) := fun vs => by
  induction vs with
  | nil => intro i d h; exact ⟨by simp, h⟩
  | cons v vs ih =>
   intro i d h;unfold PH.wipeE at h;rw [bD] at h
   by_cases e : v = i
   ·rw [if_pos e] at h
    by_cases hv : v < (PH.wipeE ρ vs).length
    ·rw [if_pos hv] at h; cases h
    ·rw [if_neg hv] at h; cases h
   ·rw [if_neg e] at h
    obtain ⟨h1, h2⟩ := ih i d h;exact ⟨fun q => by
     rcases bN.mp q with q | q
     ·exact e q.symm
     ·exact h1 q, h2⟩
 refine ⟨by rw [hl, wipe_length]; exact E.1, fun i d h => ?_⟩
 obtain ⟨h1, h2⟩ := hg vs i d h;obtain ⟨v, h3, h4⟩ := E.2 i d h2;exact ⟨v, by rw [sD, if_neg h1]; exact h3, h4⟩
def oL (B : Addr -> Prop) (a : Addr) : Addr -> Prop := fun b => B b \/ b = a
theorem GInv.plus {a : Addr} {o : HO} (I : GInv K B φ S H) (ha : H a = none) : GInv K (oL B a) φ S (upd H a o) where
 len := I.len
 ok := fun n c b h1 h2 => by
  have q := I.ok n c b h1 h2;have k : Kp (jZ B φ S) H (jZ (oL B a) φ S) (upd H a o) := Ext.kpB (B1 := oL B a) (fun _ h => .inl h) (fun b hb h => by
   rcases h with h | h
   ·exact h
   ·exact absurd (by rw [h]; exact ha) hb) I (Ext.new I ha)
  have hb : c ≠ .dead -> upd H a o b = H b := fun hc => upd_ne fun e => by
   subst e;exact I.fresh ha ⟨n, c, h1, hc, h2⟩
  have hV : ∀ {d : Vl} {v : L2.V}, RepV K B φ S H d v -> RepV K (oL B a) φ S (upd H a o) d v := fun {d v} r => by
   cases d with
   | dat d => exact Rep.kp k d v r
   | cel n => exact r
   | cels ns => obtain ⟨a', as, e1, e2, e3, e4⟩ := r; exact ⟨a', as, e1, (k.old _ _ e3 e2).2, (k.old _ _ e3 e2).1, e4⟩
   | scr ns => obtain ⟨a', e1, e2⟩ := r; exact ⟨a', e1, e2.keep fun o u h => by rw [upd_ne (ne_of_none h ha)]; exact h⟩
   | tc xs => obtain ⟨a', vs, e1, e2, e3⟩ := r; exact ⟨a', vs, e1, SqT.kp k.tup e2, e3.kp k (fun _ _ h => h)⟩
  have hF : ∀ {fs : List (Str × Vl)} {vs : List (Str × L2.V)}, RepF K B φ S H fs vs -> RepF K (oL B a) φ S (upd H a o) fs vs := fun {fs} => by
   induction fs with
   | nil => intro vs r; exact r
   | cons f fs ih => rintro vs ⟨v, ws, e, h1, h2⟩; exact ⟨v, ws, e, hV h1, ih h2⟩
  cases c with
  | dead => trivial
  | lst ds => obtain ⟨vs, e, r⟩ := q; exact ⟨vs, by rw [hb (by simp)]; exact e, RepL.kp k ds vs r⟩
  | ins C fs => obtain ⟨dx, vs, e, r⟩ := q; exact ⟨dx, vs, by rw [hb (by simp)]; exact e, hF r⟩
  | dct fs => obtain ⟨vs, e, r⟩ := q; exact ⟨vs, by rw [hb (by simp)]; exact e, hF r⟩
  | lv xs => obtain ⟨vs, e, r⟩ := q; exact ⟨vs, by rw [hb (by simp)]; exact e, eK hV r⟩
  | dki ks xs => obtain ⟨vs, e, r⟩ := q; exact ⟨vs, by rw [hb (by simp)]; exact e, eK hV r⟩
  | dkt ks xs => obtain ⟨vs, e, r⟩ := q; exact ⟨vs, by rw [hb (by simp)]; exact e, eK hV r⟩
 inj := I.inj
 blk := fun b h q => by
  rcases q with q | q
  ·exact I.blk b h q
  ·subst q; exact I.fresh ha h
 btr := fun b h => by
  rcases h with h | h
  ·obtain ⟨u, e⟩ := I.btr b h
   exact ⟨u, by rw [upd_ne (ne_of_none e ha)]; exact e⟩
  ·subst h; exact ⟨o, upd_same⟩
theorem RepV.less {a : Addr} {d : Vl} {v : L2.V} (r : RepV K (oL B a) φ S H d v) : RepV K B φ S H d v := by
 have k : Kp (jZ (oL B a) φ S) H (jZ B φ S) H := ⟨fun b o h n => ⟨h, fun q => n (by
  rcases q with q | q
  ·exact .inl (.inl q)
  ·exact .inr q)⟩, fun _ _ h => h⟩
 cases d with
 | dat d => exact Rep.kp k d v r
 | cel n => exact r
 | cels ns => obtain ⟨a', as, e1, e2, e3, e4⟩ := r; exact ⟨a', as, e1, (k.old _ _ e3 e2).2, e3, e4⟩
 | scr ns => exact r
 | tc xs => obtain ⟨a', vs, e1, e2, e3⟩ := r; exact ⟨a', vs, e1, SqT.kp k.tup e2, e3.kp k (fun _ _ h => h)⟩
theorem RepL.less {a : Addr} {ds : List PH.D} {vs : List L2.V} (r : RepL K (jZ (oL B a) φ S) H ds vs) : RepL K (jZ B φ S) H ds vs :=
 RepL.kp ⟨fun b o h n => ⟨h, fun q => n (by
  rcases q with q | q
  ·exact .inl (.inl q)
  ·exact .inr q)⟩, fun _ _ h => h⟩ ds vs r
theorem RepF.less {a : Addr} : ∀ {fs : List (Str × Vl)} {vs : List (Str × L2.V)}, RepF K (oL B a) φ S H fs vs -> RepF K B φ S H fs vs
 | [], vs, r => r
 | f :: fs, vs, ⟨v, ws, e, h1, h2⟩ => ⟨v, ws, e, h1.less, RepF.less h2⟩
theorem GInv.less {a : Addr} (I : GInv K (oL B a) φ S H) : GInv K B φ S H where
 len := I.len
 ok := fun n c b h1 h2 => by
  have q := I.ok n c b h1 h2;cases c with
  | dead => trivial
  | lst ds => obtain ⟨vs, e, r⟩ := q; exact ⟨vs, e, r.less⟩
  | ins C fs => obtain ⟨dx, vs, e, r⟩ := q; exact ⟨dx, vs, e, r.less⟩
  | dct fs => obtain ⟨vs, e, r⟩ := q; exact ⟨vs, e, r.less⟩
  | lv xs => obtain ⟨vs, e, r⟩ := q; exact ⟨vs, e, eK RepV.less r⟩
  | dki ks xs => obtain ⟨vs, e, r⟩ := q; exact ⟨vs, e, eK RepV.less r⟩
  | dkt ks xs => obtain ⟨vs, e, r⟩ := q; exact ⟨vs, e, eK RepV.less r⟩
 inj := I.inj
 blk := fun b h q => I.blk b h (.inl q)
 btr := fun b h => I.btr b (.inl h)
theorem Kp.plusPut {a : Addr} {acc : List L2.V} {o : HO} (ha : H a = some (.lst acc)) : Kp (jZ (oL B a) φ S) H (jZ (oL B a) φ S) (upd H a o) :=
 ⟨fun b o' h n => ⟨by
  rw [upd_ne]
  ·exact h
  ·intro e; subst e; exact n (.inl (.inr rfl)), n⟩, fun b w h => by
  have ne : b ≠ a := fun e => by
   subst e;rcases h with h | ⟨o', h⟩
   ·rw [ha] at h; cases h
   ·rw [ha] at h; cases h
  rcases h with h | ⟨o', h⟩
  ·exact .inl (by rw [upd_ne ne]; exact h)
  ·exact .inr ⟨o', by rw [upd_ne ne]; exact h⟩⟩
theorem RepV.plusPut {a : Addr} {acc : List L2.V} {o : HO} (ha : H a = some (.lst acc)) {d : Vl} {v : L2.V} (r : RepV K (oL B a) φ S H d v) : RepV K (oL B a) φ S (upd H a o) d v := by
 have k := Kp.plusPut (B := B) (φ := φ) (S := S) (o := o) ha;cases d with
 | dat d => exact Rep.kp k d v r
 | cel n => exact r
 | cels ns => obtain ⟨a', as, e1, e2, e3, e4⟩ := r; exact ⟨a', as, e1, (k.old _ _ e3 e2).2, (k.old _ _ e3 e2).1, e4⟩
 | scr ns =>
  obtain ⟨a', e1, e2⟩ := r;refine ⟨a', e1, e2.keep fun o u h => ?_⟩
  rw [upd_ne]
  ·exact h
  ·intro e; subst e; rw [ha] at h; cases h
 | tc xs => obtain ⟨a', vs, e1, e2, e3⟩ := r; exact ⟨a', vs, e1, SqT.kp k.tup e2, e3.kp k (fun _ _ h => h)⟩
theorem RepF.plusPut {a : Addr} {acc : List L2.V} {o : HO} (ha : H a = some (.lst acc)) : ∀ {fs : List (Str × Vl)} {vs : List (Str × L2.V)}, RepF K (oL B a) φ S H fs vs -> RepF K (oL B a) φ S (upd H a o) fs vs
 | [], vs, r => r
 | f :: fs, vs, ⟨v, ws, e, h1, h2⟩ => ⟨v, ws, e, h1.plusPut ha, RepF.plusPut ha h2⟩
theorem GInv.plusPut {a : Addr} {acc : List L2.V} {o : HO} (I : GInv K (oL B a) φ S H) (ha : H a = some (.lst acc)) : GInv K (oL B a) φ S (upd H a o) where
 len := I.len
 ok := fun n c b h1 h2 => by
  have q := I.ok n c b h1 h2;have k := Kp.plusPut (B := B) (φ := φ) (S := S) (o := o) ha;have hb : c ≠ .dead -> upd H a o b = H b := fun hc => upd_ne fun e => by
   subst e;exact I.blk b ⟨n, c, h1, hc, h2⟩ (.inr rfl)
  cases c with
  | dead => trivial
  | lst ds => obtain ⟨vs, e, r⟩ := q; exact ⟨vs, by rw [hb (by simp)]; exact e, RepL.kp k ds vs r⟩
  | ins C fs => obtain ⟨dx, vs, e, r⟩ := q; exact ⟨dx, vs, by rw [hb (by simp)]; exact e, r.plusPut ha⟩
  | dct fs => obtain ⟨vs, e, r⟩ := q; exact ⟨vs, by rw [hb (by simp)]; exact e, r.plusPut ha⟩
  | lv xs => obtain ⟨vs, e, r⟩ := q; exact ⟨vs, by rw [hb (by simp)]; exact e, eK (RepV.plusPut ha) r⟩
  | dki ks xs => obtain ⟨vs, e, r⟩ := q; exact ⟨vs, by rw [hb (by simp)]; exact e, eK (RepV.plusPut ha) r⟩
  | dkt ks xs => obtain ⟨vs, e, r⟩ := q; exact ⟨vs, by rw [hb (by simp)]; exact e, eK (RepV.plusPut ha) r⟩
 inj := I.inj
 blk := I.blk
 btr := fun b h => by
  by_cases e : b = a
  ·subst e; exact ⟨o, upd_same⟩
  ·obtain ⟨u, h1⟩ := I.btr b h
   exact ⟨u, by rw [upd_ne e]; exact h1⟩
theorem RepV.plus {a : Addr} {o : HO} (I : GInv K B φ S H) (ha : H a = none) {d : Vl} {v : L2.V} (r : RepV K B φ S H d v) : RepV K (oL B a) φ S (upd H a o) d v := by
 have k : Kp (jZ B φ S) H (jZ (oL B a) φ S) (upd H a o) := Ext.kpB (B1 := oL B a) (fun _ h => .inl h) (fun b hb h => by
  rcases h with h | h
  ·exact h
  ·exact absurd (by rw [h]; exact ha) hb) I (Ext.new I ha)
 cases d with
 | dat d => exact Rep.kp k d v r
 | cel n => exact r
 | cels ns => obtain ⟨a', as, e1, e2, e3, e4⟩ := r; exact ⟨a', as, e1, (k.old _ _ e3 e2).2, (k.old _ _ e3 e2).1, e4⟩
 | scr ns => obtain ⟨a', e1, e2⟩ := r; exact ⟨a', e1, e2.keep fun o u h => by rw [upd_ne (ne_of_none h ha)]; exact h⟩
 | tc xs => obtain ⟨a', vs, e1, e2, e3⟩ := r; exact ⟨a', vs, e1, SqT.kp k.tup e2, e3.kp k (fun _ _ h => h)⟩
theorem RepE.plus {a : Addr} {o : HO} {ρ : Ev} (I : GInv K B φ S H) (ha : H a = none) (E : RepE K B φ S H ρ σ) : RepE K (oL B a) φ S (upd H a o) ρ σ :=
 ⟨E.1, fun i d h => by
  obtain ⟨v, h1, h2⟩ := E.2 i d h;exact ⟨v, h1, h2.plus I ha⟩⟩
theorem RepE.plusPut {a : Addr} {acc : List L2.V} {o : HO} {ρ : Ev} (ha : H a = some (.lst acc)) (E : RepE K (oL B a) φ S H ρ σ) : RepE K (oL B a) φ S (upd H a o) ρ σ :=
 ⟨E.1, fun i d h => by
  obtain ⟨v, h1, h2⟩ := E.2 i d h;exact ⟨v, h1, h2.plusPut ha⟩⟩
theorem Fin.done {cl : Bool} {a : Addr} {ds : List PH.D} {vs : List L2.V} {H0 : Hp} {φ0 : List Addr} {S0 : aO} (f : Fin K W σ (RepV K) B φ0 S0 H0 (PH.newL cl ds S) Q) (I : GInv K (oL B a) φ S H) (X0 : Ext φ0 S0 H0 φ S H) (h0 : H0 a = none) (nB : ¬ B a) (ha : H a = some (.lst vs)) (l : RepL K (jZ (oL B a) φ S) H ds vs) : Q (.ref a) H := by
 have na : ¬ jA φ S a := fun q => I.blk a q (.inr rfl)
 unfold PH.newL at f;cases cl with
 | false =>
  refine f φ _ H I.less X0 ⟨a, vs, rfl, fun q => ?_, ha, l.less⟩
  rcases q with q | q
  ·exact nB q
  ·exact na q
 | true =>
  have X1 : Ext φ0 S0 H0 (φ ++ [a]) (S ++ [.lst ds]) H := {
   old := fun b o h n => by
    obtain ⟨h1, h2⟩ := X0.old b o h n;refine ⟨h1, fun q => ?_⟩
    rcases (oY I.len).mp q with q | ⟨_, q⟩
    ·exact h2 q
    ·subst q; rw [h0] at h; cases h
   ids := fun n b h => by
    have := X0.ids n b h;rw [aQ (aI.mp this).1]; exact this }
  have hS : ∀ b, jZ B (φ ++ [a]) (S ++ [.lst ds]) b -> jZ (oL B a) φ S b := fun b q => by
   rcases q with q | q
   ·exact .inl (.inl q)
   ·rcases (oY I.len).mp q with q | ⟨_, q⟩
    ·exact .inr q
    ·exact .inl (.inr q)
  have k : Kp (jZ (oL B a) φ S) H (jZ B (φ ++ [a]) (S ++ [.lst ds])) H := ⟨fun b o h n => ⟨h, fun q => n (hS b q)⟩, fun _ _ h => h⟩
  have hφ : ∀ (n : Nat) (b : Addr), φ[n]? = some b -> (φ ++ [a])[n]? = some b := fun n b h => by rw [aQ (aI.mp h).1]; exact h
  have hV : ∀ {d : Vl} {v : L2.V}, RepV K (oL B a) φ S H d v -> RepV K B (φ ++ [a]) (S ++ [.lst ds]) H d v := fun {d v} r => by
   cases d with
   | dat d => exact Rep.kp k d v r
   | cel n => obtain ⟨b, e1, e2⟩ := r; exact ⟨b, e1, hφ _ _ e2⟩
   | cels ns => obtain ⟨a', as, e1, e2, e3, e4⟩ := r; exact ⟨a', as, e1, (k.old _ _ e3 e2).2, e3, BW hφ ns as e4⟩
   | scr ns => exact r
   | tc xs => obtain ⟨a', vs, e1, e2, e3⟩ := r; exact ⟨a', vs, e1, SqT.kp k.tup e2, e3.kp k hφ⟩
  have hF : ∀ {fs : List (Str × Vl)} {vs : List (Str × L2.V)}, RepF K (oL B a) φ S H fs vs -> RepF K B (φ ++ [a]) (S ++ [.lst ds]) H fs vs := fun {fs} => by
   induction fs with
   | nil => intro vs r; exact r
   | cons f fs ih => rintro vs ⟨v, ws, e, h1, h2⟩; exact ⟨v, ws, e, hV h1, ih h2⟩
  refine f (φ ++ [a]) _ H ?_ X1 ⟨a, rfl, by rw [<- I.len]; exact nM⟩
  exact {
   len := by simp [I.len]
   ok := fun n c b h1 h2 => by
    by_cases hn : n < S.length
    ·rw [aQ hn] at h1
     rw [aQ (by rw [I.len]; exact hn)] at h2
     have q := I.ok n c b h1 h2;cases c with
     | dead => trivial
     | lst es => obtain ⟨us, e, r⟩ := q; exact ⟨us, e, RepL.kp k es us r⟩
     | ins C fs => obtain ⟨dx, us, e, r⟩ := q; exact ⟨dx, us, e, hF r⟩
     | dct fs => obtain ⟨us, e, r⟩ := q; exact ⟨us, e, hF r⟩
     | lv xs => obtain ⟨us, e, r⟩ := q; exact ⟨us, e, eK hV r⟩
     | dki ks xs => obtain ⟨us, e, r⟩ := q; exact ⟨us, e, eK hV r⟩
     | dkt ks xs => obtain ⟨us, e, r⟩ := q; exact ⟨us, e, eK hV r⟩
    ·have e : n = S.length := by
      have := (aI.mp h1).1;simp at this;omega
     subst e;rw [cP (bG _)] at h1;rw [<- I.len, cP (bG _)] at h2;simp at h1 h2;subst h1 h2;exact ⟨vs, ha, RepL.kp k ds vs l⟩
   inj := fun n m c c' b h1 h2 h3 h4 h5 h6 => by
    have key : ∀ (n : Nat) (c : Cell), (S ++ [.lst ds])[n]? = some c -> (n < S.length /\ S[n]? = some c) \/ n = S.length := fun n c h => by
     by_cases hn : n < S.length
     ·rw [aQ hn] at h; exact .inl ⟨hn, h⟩
     ·have := (aI.mp h).1
      simp at this;exact .inr (by omega)
    have kφ : ∀ n : Nat, n < S.length -> (φ ++ [a])[n]? = φ[n]? := fun n hn => aQ (by rw [I.len]; exact hn)
    have kp : (φ ++ [a])[S.length]? = some a := by rw [<- I.len]; simp
    rcases key n c h1 with ⟨hn, e1⟩ | e1 <;> rcases key m c' h3 with ⟨hm, e2⟩ | e2
    ·rw [kφ n hn] at h5
     rw [kφ m hm] at h6;exact I.inj n m c c' b e1 h2 e2 h4 h5 h6
    ·subst e2
     rw [kp] at h6;cases h6;rw [kφ n hn] at h5;exact absurd ⟨n, c, e1, h2, h5⟩ na
    ·subst e1
     rw [kp] at h5;cases h5;rw [kφ m hm] at h6;exact absurd ⟨m, c', e2, h4, h6⟩ na
    ·omega
   blk := fun b h => by
    rcases (oY I.len).mp h with h | ⟨_, h⟩
    ·exact fun q => I.blk b h (.inl q)
    ·subst h; exact nB
   btr := fun b h => I.btr b (.inl h) }
end
section
variable {X : Cx} {W : WX} {e a b c : Expr} {es rest : List Expr} {pos p q p2 : Pos} {x y z : Str} {K : aC} {ma mb mc : FE} {mt mu : FT} {mas : FA} {mi mj : FI} {B : Addr -> Prop} {φ φ' : List Addr} {S S' : aO} {H H' : Hp} {σ : L2.St} {Q : VK} {m n : FS} {st : Stmt} {sts : List Stmt} {D : Ends} {t t1 : Tg}
def lS : FT := fun _ S => .ok true S
theorem J6 {Q : Bool -> Hp -> Prop} (h : vJ K W lS σ H Q) : tYes σ H Q := by
 obtain ⟨B, φ, S, ρ, I, E, f⟩ := h;exact Fin.now (v := true) f I rfl
theorem Ks {es : List Expr} {t u : TT} (h : PTs X es t) (i : ∀ σ H Q, u σ H Q -> t σ H Q) : PTs X es u := ⟨fun pins s σ H Q I q => h.run pins s σ H Q I (i σ H Q q)⟩
theorem fG : PTs X [] (vJ X.K W lS) := Ks pts_nil fun σ H Q h => J6 h
theorem xY {c : Expr} (h : PT X c (vJ X.K W mt)) : PTs X [c] (vJ X.K W mt) := pts_one h
def kX (t : Tg) (mt : FT) (me : FE) (ρ : Ev) : List PH.D -> aO -> Res (List PH.D)
 | [], S => .ok [] S
 | d :: r, S => match lP t (.dat d) ρ with
  | none => .stuck
  | some ρ1 => match mt ρ1 S with
   | .ok b S1 => if b = true then (match me ρ1 S1 with
     | .ok (.dat e) S2 => (match kX t mt me ρ r S2 with
      | .ok es S3 => .ok (e :: es) S3
      | _ => .stuck)
     | _ => .stuck) else kX t mt me ρ r S1
   | _ => .stuck
def xV (cl : Bool) (mi : FI) (t : Tg) (mt : FT) (me : FE) (vs : List Nat) : FE := fun ρ S => (mi ρ S).bind fun ds S1 => if ds.length <= sizeLine then (match kX t mt me (wipeE ρ vs) ds S1 with
 | .ok es S2 => newL cl es S2
 | _ => .stuck) else .stuck
theorem GX {cl : Bool} {me : FE} {vs : List Nat} (ht : ∀ i ∈ tgS t, i ∈ vs) (h : dN K W (xV cl mi t mt me vs) σ H Q) : tLc (L3 K W mi) (Kw K t) (vJ K Lh mt) (dN K Lh me) vs σ H Q := by
 refine cJ (k := fun ds ρ S1 => if ds.length <= sizeLine then (match kX t mt me (wipeE ρ vs) ds S1 with | .ok es S2 => newL cl es S2 | _ => .stuck) else .stuck) h fun B φ0 S0 ρ ds J H0 I0 E0 r f0 => ?_
 intro A hA;split at f0
 case isFalse => exact f0.elim
 rename_i hsz;cases q0 : kX t mt me (wipeE ρ vs) ds S0 with
 | stuck => rw [q0] at f0; exact f0.elim
 | err e S' => rw [q0] at f0; exact f0.elim
 | ok es0 Sz =>
 rw [q0] at f0;have nB : ¬ B A := fun q => by obtain ⟨u, e⟩ := I0.btr A q; rw [hA] at e; cases e
 have IA : GInv K (oL B A) φ0 S0 (upd H0 A (.lst [])) := I0.plus hA;have b2 : ∀ a, H0 a ≠ none -> oL B A a -> B a := fun b hb h => by
  rcases h with h | h
  ·exact h
  ·exact absurd (by rw [h]; exact hA) hb
 -- what is known at a turn
 refine ⟨fun i k H' => i <= ds.length /\ k = ds.length - i /\ ∃ φ1 S1 us acc rest, GInv K (oL B A) φ1 S1 H' /\ Ext φ0 S0 H0 φ1 S1 H' /\ RepE K (oL B A) φ1 S1 H' (wipeE ρ vs) (wipe σ vs) /\ H' A = some (.lst us) /\ us.length <= i /\ RepL K (jZ (oL B A) φ1 S1) H' acc us /\ kX t mt me (wipeE ρ vs) (ds.drop i) S1 = .ok rest Sz /\ acc ++ rest = es0,
  ⟨_, AR _, rfl, φ0, S0, [], [], es0, IA, Ext.new I0 hA, (E0.wipes vs).plus I0 hA, upd_same, bG _, rfl, q0, rfl⟩, ?_⟩
 rintro i k H' ⟨hi, rfl, φ1, S1, us, acc, rs, I1, X1, E1, hA1, hul, l1, g1, ea⟩
 obtain ⟨hgo, hstop, hyld⟩ := r φ1 S1 H' (oL B A) I1 (X1.kpB (fun _ h => .inl h) b2 I0)
 by_cases hlt : i < ds.length
 ·refine .inr ⟨hgo i hlt, fun H2 => i + 1 <= ds.length /\ ∃ φ1 S1 us acc rest, GInv K (oL B A) φ1 S1 H2 /\ Ext φ0 S0 H0 φ1 S1 H2 /\ RepE K (oL B A) φ1 S1 H2 (wipeE ρ vs) (wipe σ vs) /\ H2 A = some (.lst us) /\ us.length <= i + 1 /\ RepL K (jZ (oL B A) φ1 S1) H2 acc us /\ kX t mt me (wipeE ρ vs) (ds.drop (i + 1)) S1 = .ok rest Sz /\ acc ++ rest = es0, fun H2 ⟨h1, h2⟩ => ⟨ds.length - (i + 1), by omega, h1, rfl, h2⟩, fun x H2 y => ?_⟩
  have hd : ds[i]? = some ds[i] := by simp [hlt]
  obtain ⟨I2, X2, r2⟩ := hyld i x H2 ds[i] hd y;rw [jI hlt] at g1;unfold kX at g1;split at g1
  case h_1 => cases g1
  rename_i ρ2 q2;have hA2 := (X2.old A _ hA1 fun q => I1.blk A q (.inr rfl)).1
  refine DL (E1.ext X2 I1) (d := .dat ds[i]) r2 q2 fun ws E3 => ⟨by rw [F9 ht, F8], oL B A, φ1, S1, ρ2, I2, E3, ?_⟩
  split at g1
  case h_2 => cases g1
  rename_i b S3 q3;rw [q3];intro φ3 b' H3 I3 X3 rb;have rb : b' = b := rb;subst rb;have hA3 := (X3.old A _ hA2 fun q => I2.blk A q (.inr rfl)).1
  have Xa := X1.trans (X2.trans X3);cases b' with
  | false =>
   exact ⟨hlt, φ3, S3, us, acc, rs, I3, Xa, (E1.ext X2 I1).ext X3 I2, hA3, Nat.le_succ_of_le hul, X3.repL I2 (X2.repL I1 l1), g1, ea⟩
  | true =>
   rw [if_pos rfl];rw [if_pos rfl] at g1;refine ⟨oL B A, φ3, S3, ρ2, I3, E3.ext X3 I2, ?_⟩
   split at g1
   case h_2 => cases g1
   rename_i e S4 q4;rw [q4];intro φ4 v4 H4 I4 X4 r4;have hA4 := (X4.old A _ hA3 fun q => I3.blk A q (.inr rfl)).1
   split at g1
   case h_2 => cases g1
   rename_i es S5 q5;cases g1;have l4 : RepL K (jZ (oL B A) φ4 S4) H4 (acc ++ [e]) (us ++ [v4]) := (X4.repL I3 (X3.repL I2 (X2.repL I1 l1))).snoc r4;refine ⟨us, hA4, by omega, hlt, φ4, S4, us ++ [v4], acc ++ [e], es, I4.plusPut hA4, ?_, (((E1.ext X2 I1).ext X3 I2).ext X4 I3).plusPut hA4, upd_same, by simp; omega, RepL.kp (Kp.plusPut hA4) _ _ l4, q5, by rw [<- ea]; simp⟩
   exact ⟨fun b o h nb => by
    obtain ⟨h1, h2⟩ := (Xa.trans X4).old b o h nb;exact ⟨by rw [upd_ne (fun e => by subst e; rw [hA] at h; cases h)]; exact h1, h2⟩, (Xa.trans X4).ids⟩
 ·have e : i = ds.length := by omega
  subst e;rw [List.drop_length] at g1;cases g1;rw [dD] at ea;subst ea;exact .inl ⟨hstop, Fin.done f0 I1 X1 hA nB hA1 l1⟩
theorem sV {cl : Bool} {me : FE} {elt tg iter : Expr} {ifs : List Expr} {scope : Scope} {own : List (Str × Nat)} (hc : X.calm = true) (hN : X.N.Nodup) (hi : PI X tg iter (L3 X.K W mi)) (ok : BlkOk X.N X.env.scope scope own)
  (hg : ∀ (s : Shared) (H : Hp) (C : Addr) (cl : List (Str × Addr)) (fp : List Addr), PG (X.blk s H scope (compEnvC scope cl C X.env) fp) tg (Kw X.K t)) (ht : ∀ (s : Shared) (H : Hp) (C : Addr) (cl : List (Str × Addr)) (fp : List Addr), PTs (X.blk s H scope (compEnvC scope cl C X.env) fp) ifs (vJ X.K Lh mt))
  (he : ∀ (s : Shared) (H : Hp) (C : Addr) (cl : List (Str × Addr)) (fp : List Addr), PE (X.blk s H scope (compEnvC scope cl C X.env) fp) elt (dN X.K Lh me)) (hs : ∀ x, foldedSetIterable iter X.env x = pure x := by intro _; rfl) (hv : ∀ i ∈ tgS t, i ∈ own.map (·.2) := by decide) :
  PE X (.ListComp elt [⟨tg, iter, ifs, 0⟩] scope pos) (dN X.K W (xV cl mi t mt me (own.map (·.2)))) := dF (pe_lc hc hN hi ok hg ht he hs) fun σ H Q h => GX hv h
theorem uG {i : Nat} {y : Str} {py : Pos} {cl : Bool} {me : FE} {elt tg iter : Expr} {ifs : List Expr} {scope : Scope} {own : List (Str × Nat)} {spos : Pos} (hc : X.calm = true) (hN : X.N.Nodup) (hy : X.N[i]? = some y) (hyl : X.env.scope.names.lookup y = some .local)
  (hsw : swapsWith (.ListComp elt [⟨tg, iter, ifs, 0⟩] scope pos) (some (.Name y py)) spos.line X.env = pure true) (hi : PI X tg iter (L3 X.K W mi)) (ok : BlkOk X.N X.env.scope scope own)
  (hg : ∀ (s : Shared) (H : Hp) (C : Addr) (cl : List (Str × Addr)) (fp : List Addr), PG (X.blk s H scope (compEnvC scope cl C X.env) fp) tg (Kw X.K t)) (ht : ∀ (s : Shared) (H : Hp) (C : Addr) (cl : List (Str × Addr)) (fp : List Addr), PTs (X.blk s H scope (compEnvC scope cl C X.env) fp) ifs (vJ X.K Lh mt))
  (he : ∀ (s : Shared) (H : Hp) (C : Addr) (cl : List (Str × Addr)) (fp : List Addr), PE (X.blk s H scope (compEnvC scope cl C X.env) fp) elt (dN X.K Lh me)) (hs : ∀ x, foldedSetIterable iter X.env x = pure x := by intro _; rfl) (hv : ∀ i ∈ tgS t, i ∈ own.map (·.2) := by decide) :
  PS X (.Assign [.Name y py] (.ListComp elt [⟨tg, iter, ifs, 0⟩] scope pos) spos) (mI X.K W (bS (xV cl mi t mt me (own.map (·.2))) (.nm i))) := jQ (ps_setLc hc hN hy hyl hsw hi ok hg ht he hs) fun D σ H h => by
 obtain ⟨B, φ, S, ρ, I, E, f⟩ := h;refine GX hv (dJ I E f fun φ' S' d v H1 I1 X1 E1 r f1 => ?_)
 exact f1 φ' _ H1 I1 Ext.refl (E1.set r i)
end
section
variable {X : Cx} {W : WX} {e a b c o i : Expr} {es rest : List Expr} {pos p q p2 tpos apos cpos : Pos} {x y z : Str} {K : aC} {ma mb mc mo mx : FE} {mt mt1 mu : FT} {mas : FA} {mi mj : FI} {B : Addr -> Prop} {φ φ' : List Addr} {S S' : aO} {H H' : Hp} {σ : L2.St} {Q : VK} {m n : FS} {st : Stmt} {sts : List Stmt} {D : Ends} {t t1 : Tg}
def Bm (x y : Vl) (S : aO) : Res Vl := match x, y with
 | .cel n, .dat d => (match S[n]? with
  | some (.lst ds) => if ds.length < sizeLine then .ok (.dat .non) (S.set n (.lst (ds ++ [d]))) else .stuck
  | _ => .stuck)
 | _, _ => .stuck
theorem Co {n : Nat} {ds ds' : List PH.D} {v v' : L2.V} {d' : Vl} {vs vs' : List L2.V} {a : Addr} (I : GInv K B φ S H) (hn : S[n]? = some (.lst ds)) (ha : φ[n]? = some a) (l : RepL K (jZ B φ S) H ds' vs') (r : RepV K B φ S H d' v')
  (f : Fin K W σ (RepV K) B φ S H (.ok d' (S.set n (.lst ds'))) Q) : Q v' (upd H a (.lst vs')) := by
 have X1 := Ext.put (H := H) (o := .lst vs') (x := .lst ds') hn (by simp) ha (by simp)
 have I1 : GInv K B φ (S.set n (.lst ds')) (upd H a (.lst vs')) := I.put hn (by simp) ha (by simp) ⟨vs', upd_same, X1.repL I l⟩
 exact f φ v' _ I1 X1 (r.ext X1 I)
theorem M3 : ∀ {x : L2.V} {y : L2.V} {d e : Vl}, GInv K B φ S H -> RepV K B φ S H d x -> RepV K B φ S H e y -> Fin K W σ (RepV K) B φ S H (Bm d e S) Q -> F0 x [y] H Q := fun {x y d e} I r1 r2 f => by
 unfold Bm at f;split at f
 ·rename_i n d
  obtain ⟨a, rfl, h1⟩ := r1;split at f
  ·rename_i ds q
   obtain ⟨vs, h2, l⟩ := I.ok n _ a q h1;split at f
   ·rename_i hl
    exact ⟨vs, h2, by rw [l.len]; exact hl, Co (v := .non) (v' := .non) (d' := .dat .non) (vs := vs) I q h1 (l.snoc r2) rfl f⟩
   ·exact f.elim
  ·exact f.elim
 ·exact f.elim
theorem Ii {d e : Vl} {v : L2.V} (I : GInv K B φ S H) (r : RepV K B φ S H d v) (h : ∃ ds, kU S d = some ds) : tyV K "list" v H := by
 obtain ⟨ds, q⟩ := h;obtain ⟨a, vs, rfl, h1, l⟩ := lG I q r;exact .inl ⟨rfl, vs, SqL.of h1⟩
def sU (a b : FE) : FE := fun ρ S => (a ρ S).bind fun x S1 => match kU S1 x with
 | some _ => (b ρ S1).bind fun y S2 => Bm x y S2
 | none => .stuck
theorem oU (ha : PE X a (dN X.K W ma)) (hb : PE X b (dN X.K W mb)) (hs : starEach [b] X.env = (false, eval b X.env) :: starEach [] X.env := by rfl) (hbase : attributeBase a "append" X.env (eval a X.env) = eval a X.env := by rfl) (hline : (apos.endLine == cpos.line) = true := by rfl)
  (hfew : ((backTo cpos (starEach [b] X.env)).all (fun x => !x.1) && (backToKw cpos (keywordEach [] X.env)).all (fun x => x.1.isSome)
   && decide ([b].length + ([] : List Keyword).length + (if ([] : List Keyword).isEmpty then 0 else 1) < 30)) = true := by rfl)
  (hpl : (backTo cpos (starEach ([] : List Expr) X.env)).any (·.1) = false := by rfl) : PE X (.Call (.Attribute a "append" apos) [b] [] cpos) (dN X.K W (sU ma mb)) :=
 dF (pe_bm PySem.F.plainAttrs_list PySem.F.slot_list_append PySem.F.type_list_append Dh ha (pa_cons hb pa_nil hs) hbase hfew hline hs hpl) fun σ H Q h =>
  cJ (k := fun x ρ S1 => match kU S1 x with | some _ => (mb ρ S1).bind fun y S2 => Bm x y S2 | none => .stuck) h fun B φ S ρ d v H1 I E r f => by
   split at f
   ·rename_i ds q
    exact ⟨Ii (e := d) I r ⟨ds, q⟩, iY I E f fun φ' S' d2 v2 H2 I2 X2 E2 r2 f2 => M3 I2 (r.ext X2 I) r2 f2⟩
   ·exact f.elim
def fPop (x : Vl) (S : aO) : Res Vl := match x with
 | .cel n => (match S[n]? with
  | some (.lst ds) => (match ds[ds.length - 1]? with
   | some d => .ok (.dat d) (S.set n (.lst ds.dropLast))
   | none => .stuck)
  | _ => .stuck)
 | _ => .stuck
def setC (x : Vl) (k : Int) (d : PH.D) (S : aO) : Option aO := match x with
 | .cel n => (match S[n]? with
  | some (.lst ds) => if 0 <= k /\ k.toNat < ds.length then some (S.set n (.lst (ds.set k.toNat d))) else none
  | _ => none)
 | _ => none
theorem ES {x : Vl} {k : Int} {d : PH.D} {v u : L2.V} {Qh : Hp -> Prop} (I : GInv K B φ S H) (r : RepV K B φ S H x v) (rd' : Rep K (jZ B φ S) H d u) (h : setC x k d S = some S') (q : ∀ H', GInv K B φ S' H' -> Ext φ S H φ S' H' -> Qh H') : Ex v (.int k) u H Qh := by
 unfold setC at h;split at h
 ·rename_i n
  obtain ⟨a, rfl, h1⟩ := r;split at h
  ·rename_i ds q1
   split at h
   ·rename_i hk
    cases h;obtain ⟨vs, h2, l⟩ := I.ok n _ a q1 h1;have X1 := Ext.put (H := H) (o := .lst (vs.set k.toNat u)) (x := .lst (ds.set k.toNat d)) q1 (by simp) h1 (by simp)
    exact ⟨vs, h2, hk.1, by rw [l.len]; exact hk.2, q _ (I.put q1 (by simp) h1 (by simp) ⟨_, upd_same, X1.repL I (l.set rd' _)⟩) X1⟩
   ·cases h
  ·cases h
 ·cases h
def zI (a o i : FE) : FS := fun ρ S => (a ρ S).toS ρ fun v S1 => (o ρ S1).toS ρ fun x S2 => (i ρ S2).toS ρ fun k S3 => match v, k with
 | .dat d, .dat (.int k) => (match setC x k d S3 with
  | some S4 => .next ρ S4
  | none => .stuck)
 | _, _ => .stuck
theorem Eo (ha : PE X a (dN X.K W ma)) (ho : PE X o (dN X.K W mo)) (hi : PE X i (dN X.K W mx)) (hs : swapsWithSole [.Subscript o i tpos] a pos.line X.env = pure false := by rfl) (hw : swappedStores [.Subscript o i tpos] a X.env = pure none := by rfl)
  (h1 : (assignEach [.Subscript o i tpos] X.env).map (·.2) = [assign (.Subscript o i tpos) X.env] := by rfl)
  (hz : ∀ v, assign (.Subscript o i tpos) X.env v = (do
   let ov <- holding [v] (eval o X.env)
   let iv <- holding [v, ov] (eval i X.env)
   standAt tpos
   holding [v, ov, iv] (setItem ov iv v)
   release [v, ov, iv] []) := by intro _; rfl) : PS X (.Assign [.Subscript o i tpos] a pos) (mI X.K W (zI ma mo mx)) := jQ (ps_asg ha (pg_sub ho hi AX hz) hs hw h1) fun D σ H h => by
 obtain ⟨B, φ, S, ρ, I, E, f⟩ := h;refine dJ I E f fun φ1 S1 d1 v1 H1 I1 X1 E1 r1 f1 => dJ I1 E1 f1 fun φ2 S2 d2 v2 H2 I2 X2 E2 r2 f2 => dJ I2 E2 f2 fun φ3 S3 d3 v3 H3 I3 X3 E3 r3 f3 => ?_
 split at f3
 ·rename_i d k
  cases r3;split at f3
  ·rename_i S4 q
   exact ES I3 (r2.ext X3 I2) ((r1.ext X2 I1).ext X3 I2) q fun H' I' X' => f3 φ3 σ H' I' X' (E3.ext X' I3)
  ·exact f3.elim
 ·exact f3.elim
def Hc (x : Vl) (k : Int) (S : aO) : Option PH.D := match x with
 | .cel n => (match S[n]? with
  | some (.lst ds) => if 0 <= k then ds[k.toNat]? else none
  | _ => none)
 | _ => none
theorem Jt {x : Vl} {k : Int} {d : PH.D} {v : L2.V} {Q' : VK} (I : GInv K B φ S H) (r : RepV K B φ S H x v) (h : Hc x k S = some d) (q : ∀ u, Rep K (jZ B φ S) H d u -> Q' u H) : Ez v (.int k) H Q' := by
 unfold Hc at h;split at h
 ·rename_i n
  obtain ⟨a, rfl, h1⟩ := r;split at h
  ·rename_i ds q1
   split at h
   ·rename_i hk
    obtain ⟨vs, h2, l⟩ := I.ok n _ a q1 h1;obtain ⟨u, h3, h4⟩ := l.get h;exact ⟨vs, u, h2, hk, h3, q u h4⟩
   ·cases h
  ·cases h
 ·cases h
def kI (g : Int -> Int -> Int) (o i e : FE) : FS := fun ρ S => (o ρ S).toS ρ fun x S1 => (i ρ S1).toS ρ fun k S2 => match k with
 | .dat (.int k) => (match Hc x k S2 with
  | some (.int u) => (e ρ S2).toS ρ fun w S3 => (match w with
   | .dat (.int w) => (match setC x k (.int (g u w)) S3 with
    | some S4 => .next ρ S4
    | none => .stuck)
   | _ => .stuck)
  | _ => .stuck)
 | _ => .stuck
theorem C5 {g : Int -> Int -> Int} {r : R2} {me : FE} (hr : ∀ i j H Q, Q (.int (g i j)) H -> r (.int i) (.int j) H Q) (h : mI K W (kI g mo mx me) D σ H) : tAugS (dN K W mo) (dN K W mx) (dN K W me) Ez (cIp r) Ex D σ H := by
 obtain ⟨B, φ, S, ρ, I, E, f⟩ := h;refine dJ I E f fun φ1 S1 d1 v1 H1 I1 X1 E1 r1 f1 => dJ I1 E1 f1 fun φ2 S2 d2 v2 H2 I2 X2 E2 r2 f2 => ?_
 split at f2
 ·rename_i k
  cases r2;split at f2
  ·rename_i u q
   refine Jt I2 (r1.ext X2 I1) q fun u' ru => ?_
   cases ru;refine dJ I2 E2 f2 fun φ3 S3 d3 v3 H3 I3 X3 E3 r3 f3 => ?_
   split at f3
   ·rename_i w
    cases r3;split at f3
    ·rename_i S4 q4
     refine hr _ _ _ _ ?_
     exact ES I3 ((r1.ext X2 I1).ext X3 I2) (d := .int (g u w)) rfl q4 fun H' I' X' => f3 φ3 σ H' I' X' (E3.ext X' I3)
    ·exact f3.elim
   ·exact f3.elim
  ·exact f2.elim
 ·exact f2.elim
theorem E6 {me : FE} (ho : PE X o (dN X.K W mo)) (hi : PE X i (dN X.K W mx)) (he : PE X e (dN X.K W me)) (ha : ∀ ov iv new, augStore i ov iv new = (do holding [new, ov, iv] (setItem ov iv new); release [new, ov, iv] []; pure .next) := by intros; rfl) : PS X (.AugAssign (.Subscript o i tpos) .Add e pos) (mI X.K W (kI (fun x y => x + y) mo mx me)) :=
 jQ (Gh ho hi he Eg ha) fun D σ H h => C5 (fun _ _ _ _ q => q) h
theorem mY {me : FE} (ho : PE X o (dN X.K W mo)) (hi : PE X i (dN X.K W mx)) (he : PE X e (dN X.K W me)) (ha : ∀ ov iv new, augStore i ov iv new = (do holding [new, ov, iv] (setItem ov iv new); release [new, ov, iv] []; pure .next) := by intros; rfl) : PS X (.AugAssign (.Subscript o i tpos) .Sub e pos) (mI X.K W (kI (fun x y => x - y) mo mx me)) :=
 jQ (Gh ho hi he Jn ha) fun D σ H h => C5 (fun _ _ _ _ q => q) h
def HB (g : Int -> Int -> Int) (k : Nat) (e : FE) : FS := fun ρ S => match lk ρ k with
 | some (.dat (.int u)) => (e ρ S).toS ρ fun w S1 => (match w with
  | .dat (.int w) => .next (ρ.set k (some (.dat (.int (g u w))))) S1
  | _ => .stuck)
 | _ => .stuck
theorem J9 {g : Int -> Int -> Int} {k : Nat} {r : R2} {me : FE} (hr : ∀ i j H Q, Q (.int (g i j)) H -> r (.int i) (.int j) H Q) (h : mI K W (HB g k me) D σ H) : tAug k (dN K W me) (cIp r) D σ H := by
 obtain ⟨B, φ, S, ρ, I, E, f⟩ := h;unfold HB at f;split at f
 ·rename_i u q
  obtain ⟨v, h1, h2⟩ := E.2 k _ (Ec q);cases h2;refine ⟨_, h1, dJ I E f fun φ3 S3 d3 v3 H3 I3 X3 E3 r3 f3 => ?_⟩
  split at f3
  ·cases r3
   exact hr _ _ _ _ (f3 φ3 _ H3 I3 Ext.refl (E3.set (d := .dat (.int (g _ _))) (v := .int (g _ _)) rfl k))
  ·exact f3.elim
 ·exact f.elim
theorem Ft {k : Nat} {me : FE} {pos' : Pos} (hN : X.N.Nodup) (hi : X.N[k]? = some x) (hx : Loc X.env.scope x) (he : PE X e (dN X.K W me)) (hf : X.fn x = true \/ X.env.scope.names.lookup x = some .local := by first | exact .inl rfl | exact .inr rfl | assumption) : PS X (.AugAssign (.Name x pos') .Add e pos) (mI X.K W (HB (fun x y => x + y) k me)) :=
 jQ (ps_aug hN hi hx he Eg hf) fun D σ H h => J9 (fun _ _ _ _ q => q) h
end
abbrev FD := List Vl -> aO -> Res Vl
def spF (K : aC) (m : FD) : Sp := fun vs H Q E => ∃ B φ S ds, GInv K B φ S H /\ RepVs K B φ S H ds vs /\ Fin K (fun c x _ H => E c x H) [] (RepV K) B φ S H (m ds S) Q
section
variable {X : Cx} {W : WX} {e a b c o i : Expr} {es rest : List Expr} {pos p q p2 tpos apos cpos : Pos} {x y z : Str} {K : aC} {ma mb mc mo mx : FE} {mt mt1 mu : FT} {mas : FA} {mi mj : FI} {B : Addr -> Prop} {φ φ' : List Addr} {S S' : aO} {H H' : Hp} {σ : L2.St} {Q : VK} {m n : FS} {st : Stmt} {sts : List Stmt} {D : Ends} {t t1 : Tg} {ps : List Str} {md : FD} {j k : Nat}
theorem Fin.toE {r : Res Vl} (f : Fin K W σ (RepV K) B φ S H r Q) : Fin K (fun c x _ H => WE W σ c x H) [] (RepV K) B φ S H r Q := by
 cases r with
 | ok d S' => exact f
 | err e S' => exact f
 | stuck => exact f
def bA (md : FD) (as : FA) : FE := fun ρ S => (as ρ S).bind md
theorem aS (F : oK X.prog X.w X.K X.mg X.base j x ps (spF X.K md)) (hr : Room k X.A) (tk : Takes X W) (ha : PA X (e :: es) (FV X.K W mas)) (hjk : j <= k := by decide) (hg : Gl X x := by rfl) (hdb : (x == ("__debug__" : Str)) = false := by decide)
  (he : starEach (e :: es) X.env = (false, eval e X.env) :: starEach es X.env := by rfl) (hpl : (backTo pos (starEach es X.env)).any (·.1) = false := by rfl) : PE X (.Call (.Name x p) (e :: es) [] pos) (dN X.K W (bA md mas)) := by
 obtain ⟨fd, F, hm, hk, hb⟩ := F;refine dF (pe_callS (E := WE W) F (hr.mono hjk) hg hm hk hb (fun σ => passAt tk σ) ha hdb he hpl) fun σ H Q h => ?_
 exact cJ (k := fun ds _ S => md ds S) h fun B φ S ρ d v H1 I E r f => ⟨B, φ, S, d, I, r, f.toE⟩
def itB (n : Nat) : PH.D ⊕ Nat -> Bool
 | .inl _ => true
 | .inr m => decide (m < n)
def Vl.below (n : Nat) : Vl -> Bool
 | .dat _ => true
 | .cel m => decide (m < n)
 | .cels ms => ms.all fun m => decide (m < n)
 | .scr _ => true
 | .tc xs => xs.all (itB n)
def Cell.below (n : Nat) : Cell -> Bool
 | .dead => true
 | .lst _ => true
 | .ins _ fs => fs.all fun f => f.2.below n
 | .dct fs => fs.all fun f => f.2.below n
 | .lv xs => xs.all fun x => x.below n
 | .dki _ xs => xs.all fun x => x.below n
 | .dkt _ xs => xs.all fun x => x.below n
def trunc (n : Nat) (r : Res Vl) : Res Vl := match r with
 | .ok d S => if d.below n && ((S.take n).all fun c => c.below n) then .ok d (S.take n) else .stuck
 | .err e S => if (S.take n).all fun c => c.below n then .err e (S.take n) else .stuck
 | .stuck => .stuck
def cS : Out -> Res Vl
 | .ret d S => .ok d S
 | .next _ S => .ok (.dat .non) S
 | .err e _ S => .err e S
 | _ => .stuck
def envOf (n : Nat) (ds : List Vl) : Ev := ds.map some ++ oJ (n - ds.length) none
def run (n np : Nat) (mb : FS) : FD := fun ds S => if ds.length = np then cS (mb (envOf n ds) S) else .stuck
def tI (n np : Nat) (mb : FS) : FD := fun ds S => if ds.length = np then trunc S.length (cS (mb (envOf n ds) S)) else .stuck
theorem tT {α : Type} {n m : Nat} {l : List α} (h : m < n) : (l.take n)[m]? = l[m]? := by
 rw [dO, if_pos h]
theorem jP {n : Nat} {a : Addr} (h : jA (φ.take n) (S.take n) a) : jA φ S a := by
 obtain ⟨m, c, h1, h2, h3⟩ := h;rw [dO] at h1 h3
 by_cases hm : m < n
 ·rw [if_pos hm] at h1 h3; exact ⟨m, c, h1, h2, h3⟩
 ·rw [if_neg hm] at h1; cases h1
theorem RepIs.takeN {n : Nat} {K : aC} {Bk Bk' : Addr -> Prop} {φ : List Addr} {H : Hp} (k : Kp Bk H Bk' H) : ∀ {xs : List (PH.D ⊕ Nat)} {vs : List L2.V}, RepIs K Bk φ H xs vs -> xs.all (itB n) = true -> RepIs K Bk' (φ.take n) H xs vs
 | [], vs, r, _ => r
 | x :: xs, vs, ⟨v, ws, e, h1, h2⟩, h => by
  rw [mF, gJ] at h;refine ⟨v, ws, e, ?_, RepIs.takeN k h2 h.2⟩
  cases x with
  | inl d => exact Rep.kp k d v h1
  | inr m =>
   obtain ⟨b, q1, q2⟩ := h1;exact ⟨b, q1, by rw [tT (of_decide_eq_true h.1)]; exact q2⟩
theorem RepV.take {n : Nat} {d : Vl} {v : L2.V} (r : RepV K B φ S H d v) (h : d.below n = true) : RepV K B (φ.take n) (S.take n) H d v := by
 have k : Kp (jZ B φ S) H (jZ B (φ.take n) (S.take n)) H := ⟨fun b o h nb => ⟨h, fun q => nb (by
  rcases q with q | q
  ·exact .inl q
  ·exact .inr (jP q))⟩, fun _ _ h => h⟩
 cases d with
 | dat d => exact Rep.kp k d v r
 | cel m =>
  obtain ⟨a, e, h1⟩ := r;exact ⟨a, e, by rw [tT (of_decide_eq_true h)]; exact h1⟩
 | cels ms =>
  obtain ⟨a, as, e1, e2, e3, e4⟩ := r;refine ⟨a, as, e1, (k.old _ _ e3 e2).2, e3, ?_⟩
  rw [<- e4]
  apply jR
  intro m hm;exact tT (of_decide_eq_true (bZ.mp h m hm))
 | scr ns => exact r
 | tc xs => obtain ⟨a, vs, e1, e2, e3⟩ := r; exact ⟨a, vs, e1, SqT.kp k.tup e2, RepIs.takeN k e3 h⟩
theorem RepF.take {n : Nat} : ∀ {fs : List (Str × Vl)} {vs : List (Str × L2.V)}, RepF K B φ S H fs vs -> (fs.all fun f => f.2.below n) = true -> RepF K B (φ.take n) (S.take n) H fs vs
 | [], vs, r, _ => r
 | f :: fs, vs, ⟨v, ws, e, h1, h2⟩, h => by
  simp only [mF, gJ] at h;exact ⟨v, ws, e, h1.take h.1, RepF.take h2 h.2⟩
theorem RepVs.take {n : Nat} : ∀ {fs : List Vl} {vs : List L2.V}, RepVs K B φ S H fs vs -> (fs.all fun f => f.below n) = true -> RepVs K B (φ.take n) (S.take n) H fs vs
 | [], vs, r, _ => r
 | f :: fs, vs, ⟨v, ws, e, h1, h2⟩, h => by
  simp only [mF, gJ] at h;exact ⟨v, ws, e, h1.take h.1, RepVs.take h2 h.2⟩
theorem GInv.take {n : Nat} (I : GInv K B φ S H) (h : ((S.take n).all fun c => c.below n) = true) : GInv K B (φ.take n) (S.take n) H where
 len := by rw [AB, AB, I.len]
 ok := fun m c a h1 h2 => by
  have hc := bZ.mp h c (eA h1);rw [dO] at h1 h2
  by_cases hm : m < n
  ·rw [if_pos hm] at h1 h2
   have q := I.ok m c a h1 h2;have k : Kp (jZ B φ S) H (jZ B (φ.take n) (S.take n)) H := ⟨fun b o h nb => ⟨h, fun q => nb (by
    rcases q with q | q
    ·exact .inl q
    ·exact .inr (jP q))⟩, fun _ _ h => h⟩
   cases c with
   | dead => trivial
   | lst ds => obtain ⟨vs, e, r⟩ := q; exact ⟨vs, e, RepL.kp k ds vs r⟩
   | ins C fs => obtain ⟨dx, vs, e, r⟩ := q; exact ⟨dx, vs, e, r.take hc⟩
   | dct fs => obtain ⟨vs, e, r⟩ := q; exact ⟨vs, e, r.take hc⟩
   | lv xs => obtain ⟨vs, e, r⟩ := q; exact ⟨vs, e, r.take hc⟩
   | dki ks xs => obtain ⟨vs, e, r⟩ := q; exact ⟨vs, e, r.take hc⟩
   | dkt ks xs => obtain ⟨vs, e, r⟩ := q; exact ⟨vs, e, r.take hc⟩
  ·rw [if_neg hm] at h1; cases h1
 inj := fun i j d d' b h1 h2 h3 h4 h5 h6 => by
  rw [dO] at h1 h3 h5 h6
  by_cases hi : i < n
  ·by_cases hj : j < n
   ·rw [if_pos hi] at h1 h5
    rw [if_pos hj] at h3 h6;exact I.inj i j d d' b h1 h2 h3 h4 h5 h6
   ·rw [if_neg hj] at h3; cases h3
  ·rw [if_neg hi] at h1; cases h1
 blk := fun b h => I.blk b (jP h)
 btr := I.btr
theorem Ext.take {n : Nat} {φ0 : List Addr} {S0 : aO} {H0 : Hp} (x : Ext φ0 S0 H0 φ S H) (hn : φ0.length <= n) : Ext φ0 S0 H0 (φ.take n) (S.take n) H :=
 ⟨fun b o h nb => ⟨(x.old b o h nb).1, fun q => (x.old b o h nb).2 (jP q)⟩, fun m a h => by
  have := (aI.mp h).1;rw [tT (by omega)]
  exact x.ids m a h⟩
theorem Fin.trunc {r : Res Vl} {n : Nat} (f : Fin K W σ (RepV K) B φ S H (PH.trunc n r) Q) (I : GInv K B φ S H) (hn : n = S.length) : Fin K W σ (RepV K) B φ S H r Q := by
 have hl : φ.length <= n := by rw [hn, I.len]; exact bG _
 cases r with
 | ok d S' =>
  unfold PH.trunc at f;dsimp only at f;split at f
  ·rename_i h
   obtain ⟨h1, h2⟩ := GB.mp h;exact fun φ' v H' I' X' r' => f (φ'.take n) v H' (I'.take h2) (X'.take hl) (r'.take h1)
  ·exact f.elim
 | err e S' =>
  unfold PH.trunc at f;dsimp only at f;split at f
  ·rename_i h
   refine fun φ' c x H' I' X' r' => f (φ'.take n) c x H' (I'.take h) (X'.take hl) ⟨r'.1, ?_⟩
   rcases r'.2 with h0 | ⟨d, vs, e1, e2, e3⟩
   ·exact .inl h0
   ·refine .inr ⟨d, vs, e1, e2, RepL.kp ⟨fun b o h nb => ⟨h, fun q => nb (by
     rcases q with q | q
     ·exact .inl q
     ·exact .inr (jP q))⟩, fun _ _ h => h⟩ _ _ e3⟩
  ·exact f.elim
 | stuck => exact f
theorem IV {ds : List Vl} {vs : List L2.V} {N : List Str} (r : RepVs K B φ S H ds vs) : RepE K B φ S H (envOf N.length ds) (start N vs) := by
 have hl := r.len;have hg : ∀ {ds : List Vl} {vs : List L2.V}, RepVs K B φ S H ds vs -> ∀ (i : Nat) (d : Vl), ds[i]? = some d -> ∃ v, vs[i]? = some v /\ RepV K B φ S H d v := fun {ds} => by
  induction ds with
  | nil => intro vs r i d h; simp at h
  | cons d ds ih =>
   rintro vs ⟨v, ws, e, h1, h2⟩ i d' h
   subst e;cases i with
   | zero => simp at h; subst h; exact ⟨v, rfl, h1⟩
   | succ i =>
    obtain ⟨v', h3, h4⟩ := ih h2 i d' (by simpa using h)
    exact ⟨v', by simpa using h3, h4⟩
 unfold envOf L2.start;refine ⟨by simp [hl], fun i d h => ?_⟩
 by_cases hi : i < ds.length
 ·rw [aQ (by simpa using hi)] at h
  rw [aQ (by simp [hl, hi])]
  rw [cY] at h ⊢;cases q : ds[i]? with
  | none => rw [q] at h; cases h
  | some d' =>
   rw [q] at h;have : d' = d := by simpa using h
   subst this;obtain ⟨v, h1, h2⟩ := hg r i d' q;exact ⟨v, by rw [h1]; rfl, h2⟩
 ·rw [cP (by simpa using qR hi)] at h
  rw [DI] at h;split at h <;> cases h
theorem Cf {mb : FS} {E : XK} {ds : List Vl} {vs : List L2.V} {N : List Str} (I : GInv K B φ S H) (r : RepVs K B φ S H ds vs) (f : Fin K (fun c x _ H => E c x H) [] (RepV K) B φ S H (cS (mb (envOf N.length ds) S)) Q) : mI K (fun c x _ H => E c x H) mb { nx := fun _ H' => Q .non H', rt := Q } (start N vs) H := by
 refine ⟨B, φ, S, envOf N.length ds, I, IV r, ?_⟩
 unfold cS at f;cases q : mb (envOf N.length ds) S with
 | next ρ' S' => rw [q] at f; exact fun φ' σ' H' I' X' _ => f φ' _ H' I' X' rfl
 | ret d S' => rw [q] at f; exact f
 | brk ρ' S' => rw [q] at f; exact f.elim
 | cnt ρ' S' => rw [q] at f; exact f.elim
 | err e ρ' S' => rw [q] at f; exact fun φ' σ' c x H' I' X' _ r' => f φ' c x H' I' X' r'
 | stuck => rw [q] at f; exact f
end
section
variable {P : Program} {w : World} {K : aC} {mg : Str -> Option Value} {base : Heap}
structure Runs (md : FD) (n np : Nat) (mb : FS) : Prop where
 ok : ∀ ds S, ds.length = np -> md ds S = cS (mb (envOf n ds) S) \/ md ds S = trunc S.length (cS (mb (envOf n ds) S))
 no : ∀ ds S, ds.length ≠ np -> md ds S = .stuck
theorem Runs.plain {n np : Nat} {mb : FS} : Runs (run n np mb) n np mb := ⟨fun ds S h => .inl (by unfold run; rw [if_pos h]), fun ds S h => by unfold run; rw [if_neg h]⟩
theorem Runs.cut {n np : Nat} {mb : FS} : Runs (tI n np mb) n np mb := ⟨fun ds S h => .inr (by unfold tI; rw [if_pos h]), fun ds S h => by unfold tI; rw [if_neg h]⟩
theorem BN {md : FD} {n np : Nat} {mb : FS} (R : Runs md n np mb) : ∀ vs H Q E, spF K md vs H Q E -> vs.length = np := fun vs H Q E ⟨B, φ, S, ds, I, r, f⟩ => by
 rw [r.len]
 by_cases h : ds.length = np
 ·exact h
 ·rw [R.no ds S h] at f; exact f.elim
theorem yE {md : FD} {np : Nat} {mb : FS} {N : List Str} (R : Runs md N.length np mb) {vs : List L2.V} {H : Hp} {Q : VK} {E : XK} (h : spF K md vs H Q E) : mI K (fun c x _ H => E c x H) mb { nx := fun _ H' => Q .non H', rt := Q } (start N vs) H := by
 obtain ⟨B, φ, S, ds, I, r, f⟩ := h
 by_cases hl : ds.length = np
 ·rcases R.ok ds S hl with e | e
  ·rw [e] at f; exact Cf I r f
  ·rw [e] at f; exact Cf I r (Fin.trunc f I rfl)
 ·rw [R.no ds S hl] at f; exact f.elim
theorem okF {x : Str} {st : Stmt} {N ps : List Str} {k : Nat} {md : FD} {mb : FS} (F : oZ K x st) (g : mg x = some (.ref (He.ga K x))) (S : FnScope N ps (defScope st)) (R : Runs md N.length ps.length mb)
  (bnd : ∀ (kV doc pm : Value) (an : Option Addr) (cdv ct : Value) (us : List Value), us.length = ps.length -> bindArgs (gM x x (defArgs st) (defBody st) (defScope st) .none kV doc pm an cdv ct) ⟨us, []⟩ = pure (ps.zip us))
  (hbody : ∀ (cdv : Value) (A : Around) (outer : List Env) (s : Shared) (H : Hp) (E : XK), Room k (A.deeper (envOfC x (defScope st) s.heap.objs.size (He.ga K x) cdv)) ->
   PSs (cxOf (L2.CX P w) P w K mg base N x (defScope st) (He.ga K x) cdv A outer s H E) (defBody st) (mI K (fun c x _ H => E c x H) mb)) : oK P w K mg base (k + 1) x ps (spF K md) :=
 Gx F g S (BN R) bnd fun cdv A outer s H vs Q E hr h => ⟨_, hbody cdv A outer s H E hr, yE R h⟩
theorem okFM {C m q : Str} {st : Stmt} {N ps : List Str} {k : Nat} {md : FD} {mb : FS} (F : J1 K C m q st) (g : Meth K (He.ga K C) m (He.ma K (He.ga K C) m)) (S : FnScope N ps (defScope st)) (R : Runs md N.length ps.length mb)
  (bnd : ∀ (kV doc pm : Value) (an : Option Addr) (cdv ct : Value) (us : List Value), us.length = ps.length -> bindArgs (gM m q (defArgs st) (defBody st) (defScope st) .none kV doc pm an cdv ct) ⟨us, []⟩ = pure (ps.zip us))
  (hbody : ∀ (cdv : Value) (A : Around) (outer : List Env) (s : Shared) (H : Hp) (E : XK), Room k (A.deeper (envOfC q (defScope st) s.heap.objs.size (He.ma K (He.ga K C) m) cdv)) ->
   PSs (cxOf (L2.CX P w) P w K mg base N q (defScope st) (He.ma K (He.ga K C) m) cdv A outer s H E) (defBody st) (mI K (fun c x _ H => E c x H) mb)) : OkMX P w K mg base (k + 1) C m ps (spF K md) :=
 JS F g S (BN R) bnd fun cdv A outer s H vs Q E hr h => ⟨_, hbody cdv A outer s H E hr, yE R h⟩
end
section
variable {X : Cx} {W : WX} {e a b c o i : Expr} {es rest : List Expr} {pos p q p2 tpos apos cpos pos' : Pos} {x y z f C mn : Str} {K : aC} {ma mb mc mo mx : FE} {mt mt1 mu : FT} {mas : FA} {B : Addr -> Prop} {φ φ' : List Addr} {S S' : aO} {H H' : Hp} {σ : L2.St} {Q : VK} {m n : FS} {D : Ends} {ps : List Str} {md : FD} {j k : Nat}
def lT (S : aO) (C mn : Str) : Vl -> Bool
 | .cel n => match S[n]? with
  | some (.ins C' fs) => decide (C' = C) && fs.all fun f => decide (f.1 ≠ mn)
  | _ => false
 | .dat (.ins C' ns _) => decide (C' = C) && ns.all fun f => decide (f ≠ mn)
 | _ => false
theorem RepF.miss : ∀ {fs : List (Str × Vl)} {vs : List (Str × L2.V)}, RepF K B φ S H fs vs -> (fs.all fun f => decide (f.1 ≠ mn)) = true -> vs.lookup mn = none
 | [], vs, r, _ => by cases r; rfl
 | d :: ds, vs, ⟨v, ws, e, h1, h2⟩, h => by
  subst e;simp only [mF, gJ, decide_eq_true_eq] at h;rw [gK, show (mn == d.1) = false by simpa using Ne.symm h.1]
  exact RepF.miss h2 h.2
theorem C0 : ∀ {ns : List Str} {vs : List L2.V}, (ns.all fun f => decide (f ≠ mn)) = true -> (ns.zip vs).lookup mn = none
 | [], vs, _ => by simp
 | d :: ds, [], _ => by simp
 | d :: ds, v :: vs, h => by
  simp only [mF, gJ, decide_eq_true_eq] at h;rw [wJ, gK, show (mn == d) = false by simpa using Ne.symm h.1]
  exact C0 h.2
theorem HZ {d : Vl} {v : L2.V} (I : GInv K B φ S H) (r : RepV K B φ S H d v) (h : lT S C mn d = true) : ∃ a dx fs, v = .ref a /\ H a = some (.ins (He.ga K C) dx fs) /\ fs.lookup mn = none := by
 cases d with
 | cel n =>
  obtain ⟨a, rfl, h1⟩ := r;have h : (match S[n]? with | some (.ins C' fs) => decide (C' = C) && fs.all fun f => decide (f.1 ≠ mn) | _ => false) = true := h
  split at h
  ·rename_i C' fs q
   obtain ⟨h2, h3⟩ := He.ba h;have e : C' = C := of_decide_eq_true h2;subst e;obtain ⟨dx, vs, h4, h5⟩ := I.ok n _ a q h1;exact ⟨a, dx, vs, rfl, h4, h5.miss h3⟩
  ·cases h
 | dat d =>
  cases d with
  | ins C' ns xs =>
   obtain ⟨h2, h3⟩ := He.ba (show (decide (C' = C) && ns.all fun f => decide (f ≠ mn)) = true from h)
   have e : C' = C := of_decide_eq_true h2;subst e;obtain ⟨a, dx, vs, rfl, _, h4, _⟩ := r;exact ⟨a, dx, _, rfl, h4, C0 h3⟩
  | _ => cases h
 | cels ns => cases h
 | scr ns => cases h
 | tc _ => cases h
def zJ (C mn : Str) (md : FD) (o : FE) (as : FA) : FE := fun ρ S => (o ρ S).bind fun x S1 => if lT S1 C mn x = true then (as ρ S1).bind fun ds S2 => md (x :: ds) S2 else .stuck
theorem N8 {pl : Sem Bool} (F : OkMX X.prog X.w X.K X.mg X.base j C mn ps (spF X.K md)) (hr : Room k X.A) (tk : Takes X W) (c : Cls X.K (He.ga X.K C)) (ho : PE X o (dN X.K W mo)) (ha : PA X (e :: es) (FV X.K W mas)) (hjk : j <= k := by decide)
  (hst : starEach (e :: es) X.env = (false, eval e X.env) :: starEach es X.env := by rfl) (hpl : (backTo pos (starEach es X.env)).any (·.1) = false := by rfl)
  (ht : eval (.Call (.Attribute o mn apos) (e :: es) [] pos) X.env = eval o X.env >>= fun ov => standAt apos.atName >>= fun _ => holding [ov] (getMethod ov mn pl) >>= fun q => callWith pos q.1 q.2 (backTo pos (starEach (e :: es) X.env)) (backToKw pos (keywordEach [] X.env)) := by rfl) :
  PE X (.Call (.Attribute o mn apos) (e :: es) [] pos) (dN X.K W (zJ C mn md mo mas)) := by
 obtain ⟨⟨fd, F, hb⟩, mt⟩ := F;refine ⟨fun pins s σ H Q I h => ?_⟩
 have h' : dN X.K W mo σ H fun v H1 => ∃ a dx fs, v = .ref a /\ H1 a = some (.ins (He.ga X.K C) dx fs) /\ fs.lookup mn = none /\ FV X.K W mas σ H1 fun vs H2 => spF X.K md (.ref a :: vs) H2 Q (WE W σ) :=
  cJ (k := fun x ρ S1 => if lT S1 C mn x = true then (mas ρ S1).bind fun ds S2 => md (x :: ds) S2 else .stuck) h fun B φ S ρ d v H1 I E r f => by
   split at f
   ·rename_i hi
    obtain ⟨a, dx, fs, rfl, h1, h2⟩ := HZ I r hi;exact ⟨a, dx, fs, rfl, h1, h2, iY I E f fun φ' S' ds vs H2 I2 X2 E2 r2 f2 => ⟨B, φ', S', d :: ds, I2, ⟨_, _, rfl, r.ext X2 I, r2⟩, f2.toE⟩⟩
   ·exact f.elim
 refine DA (pl := pl) (thn (ho.run pins s σ H _ I h') fun u s1 hh => ?_) ht
 obtain ⟨x, H1, I1, rx, a, dx, fs, rfl, ea, l, q⟩ := hh;obtain rfl : u = Value.ref a := rx;refine getmeth_ok I1 ea c mt l (F6 (first := [.ref a]) (h₀ := X.base) I.ok.mod.kin mt.kp (thn (ha.run pos pins s1 σ H1 _ I1 q) fun us s2 hh => ?_) hst hpl)
 obtain ⟨vs, H2, I2, r, q2⟩ := hh;exact ⟨I2.kIn, run_fnS (us := .ref a :: us) (vs := .ref a :: vs) (E := WE W) F (hr.mono hjk) hb (passAt tk σ) I2 (.cons rfl r) q2⟩
theorem Bi {pl : Sem Bool} (F : OkMX X.prog X.w X.K X.mg X.base j C mn ps (spF X.K md)) (hr : Room k X.A) (tk : Takes X W) (c : Cls X.K (He.ga X.K C)) (ho : PE X o (dN X.K W mo)) (hjk : j <= k := by decide)
  (ht : eval (.Call (.Attribute o mn apos) [] [] pos) X.env = eval o X.env >>= fun ov => standAt apos.atName >>= fun _ => holding [ov] (getMethod ov mn pl) >>= fun q => callWith pos q.1 q.2 (backTo pos (starEach [] X.env)) (backToKw pos (keywordEach [] X.env)) := by rfl) :
  PE X (.Call (.Attribute o mn apos) [] [] pos) (dN X.K W (zJ C mn md mo aJ)) := by
 obtain ⟨⟨fd, F, hb⟩, mt⟩ := F;refine ⟨fun pins s σ H Q I h => ?_⟩
 have h' : dN X.K W mo σ H fun v H1 => ∃ a dx fs, v = .ref a /\ H1 a = some (.ins (He.ga X.K C) dx fs) /\ fs.lookup mn = none /\ spF X.K md [.ref a] H1 Q (WE W σ) :=
  cJ (k := fun x ρ S1 => if lT S1 C mn x = true then md [x] S1 else .stuck) h fun B φ S ρ d v H1 I E r f => by
   split at f
   ·rename_i hi
    obtain ⟨a, dx, fs, rfl, h1, h2⟩ := HZ I r hi;exact ⟨a, dx, fs, rfl, h1, h2, B, φ, S, [d], I, ⟨_, _, rfl, r, rfl⟩, f.toE⟩
   ·exact f.elim
 refine DA (pl := pl) (thn (ho.run pins s σ H _ I h') fun u s1 hh => ?_) ht
 obtain ⟨x, H1, I1, rx, a, dx, fs, rfl, ea, l, q⟩ := hh;obtain rfl : u = Value.ref a := rx;exact getmeth_ok I1 ea c mt l (PySem.W.callWith_K0 (first := [.ref a]) I1.kIn mt.kp (run_fnS (us := [.ref a]) (vs := [.ref a]) (E := WE W) F (hr.mono hjk) hb (passAt tk σ) I1 (.cons rfl .nil) q))
def Cd (S : aO) (C f : Str) : Vl -> Option Vl
 | .cel n => match S[n]? with
  | some (.ins C' fs) => if C' = C then fs.lookup f else none
  | _ => none
 | .dat (.ins C' ns xs) => if C' = C then ((ns.zip xs).lookup f).map Vl.dat else none
 | _ => none
theorem RepF.look {d : Vl} : ∀ {fs : List (Str × Vl)} {vs : List (Str × L2.V)}, RepF K B φ S H fs vs -> fs.lookup f = some d -> ∃ v, vs.lookup f = some v /\ RepV K B φ S H d v
 | [], vs, r, h => by cases h
 | g :: fs, vs, ⟨v, ws, e, h1, h2⟩, h => by
  subst e;obtain ⟨g1, g2⟩ := g;rw [gK] at h ⊢;cases q : f == g1 with
  | true => rw [q] at h; cases h; exact ⟨v, rfl, h1⟩
  | false => rw [q] at h; exact RepF.look h2 h
theorem yB {Bk : Addr -> Prop} {d : PH.D} : ∀ {ns : List Str} {ds : List PH.D} {vs : List L2.V}, RepL K Bk H ds vs -> (ns.zip ds).lookup f = some d -> ∃ v, (ns.zip vs).lookup f = some v /\ Rep K Bk H d v
 | [], ds, vs, r, h => by simp at h
 | n :: ns, [], vs, r, h => by simp at h
 | n :: ns, d' :: ds, vs, ⟨v, ws, e, h1, h2⟩, h => by
  subst e;rw [wJ, gK] at h ⊢;cases q : f == n with
  | true => rw [q] at h; cases h; exact ⟨v, rfl, h1⟩
  | false => rw [q] at h; exact yB h2 h
def HA (C f : Str) (o : FE) : FE := fun ρ S => (o ρ S).bind fun x S1 => match Cd S1 C f x with
 | some d => .ok d S1
 | none => .stuck
theorem IF {x d : Vl} {v : L2.V} (I : GInv K B φ S H) (r : RepV K B φ S H x v) (h : Cd S C f x = some d) : ∃ a dx fs u, v = .ref a /\ H a = some (.ins (He.ga K C) dx fs) /\ fs.lookup f = some u /\ RepV K B φ S H d u := by
 cases x with
 | cel n =>
  obtain ⟨a, rfl, h1⟩ := r
  replace h : (match S[n]? with | some (.ins C' fs) => if C' = C then fs.lookup f else none | _ => none) = some d := h
  split at h
  ·rename_i C' fs q
   split at h
   ·rename_i e
    subst e;obtain ⟨dx, vs, h4, h5⟩ := I.ok n _ a q h1;obtain ⟨u, h6, h7⟩ := h5.look h;exact ⟨a, dx, vs, u, rfl, h4, h6, h7⟩
   ·cases h
  ·cases h
 | dat d' =>
  cases d' with
  | ins C' ns xs =>
   replace h : (if C' = C then ((ns.zip xs).lookup f).map Vl.dat else none) = some d := h
   split at h
   ·rename_i e
    subst e;obtain ⟨a, dx, vs, rfl, _, h4, l⟩ := r;cases q : (ns.zip xs).lookup f with
    | none => rw [q] at h; cases h
    | some d0 =>
     rw [q] at h;cases h;obtain ⟨u, h6, h7⟩ := yB l q;exact ⟨a, dx, _, u, rfl, h4, h6, h7⟩
   ·cases h
  | _ => cases h
 | cels ns => cases h
 | scr ns => cases h
 | tc _ => cases h
theorem IQ (c : Cls X.K (He.ga X.K C)) (n : NoAttr X.K (He.ga X.K C) f) (ho : PE X o (dN X.K W mo)) (hb : attributeBase o f X.env (eval o X.env) = eval o X.env := by rfl) : PE X (.Attribute o f pos) (dN X.K W (HA C f mo)) := dF (e_fld c n ho hb) fun σ H Q h =>
 cJ (k := fun x _ S1 => match Cd S1 C f x with | some d => .ok d S1 | none => .stuck) h fun B φ S ρ d v H1 I E r f' => by
  split at f'
  ·rename_i d' q
   obtain ⟨a, dx, fs, u, rfl, h1, h2, h3⟩ := IF I r q;exact ⟨dx, fs, u, h1, h2, Fin.now f' I h3⟩
  ·exact f'.elim
def Ae (f : Str) (v : Vl) : List (Str × Vl) -> List (Str × Vl)
 | [] => [(f, v)]
 | (g, x) :: r => if g = f then (g, v) :: r else (g, x) :: Ae f v r
theorem RepF.put {d : Vl} {v : L2.V} (r : RepV K B φ S H d v) : ∀ {fs : List (Str × Vl)} {vs : List (Str × L2.V)}, RepF K B φ S H fs vs -> RepF K B φ S H (Ae f d fs) (putF f v vs)
 | [], vs, h => by cases h; exact ⟨v, [], rfl, r, rfl⟩
 | (g, x) :: fs, vs, ⟨u, ws, e, h1, h2⟩ => by
  subst e;unfold Ae putF;split
  ·exact ⟨v, ws, rfl, r, h2⟩
  ·exact ⟨u, _, rfl, h1, RepF.put r h2⟩
theorem RepF.len : ∀ {fs : List (Str × Vl)} {vs : List (Str × L2.V)}, RepF K B φ S H fs vs -> vs.length = fs.length
 | [], vs, h => by cases h; rfl
 | d :: ds, vs, ⟨v, ws, e, _, h2⟩ => by subst e; simp [RepF.len h2]
def JC (S : aO) (C f : Str) (x d : Vl) : Option aO := match x with
 | .cel n => (match S[n]? with
  | some (.ins C' fs) => if C' = C /\ fs.length < 1000 then some (S.set n (.ins C (Ae f d fs))) else none
  | _ => none)
 | _ => none
def H8 (C f : Str) (o v : FE) : FS := fun ρ S => (v ρ S).toS ρ fun d S1 => (o ρ S1).toS ρ fun x S2 => match JC S2 C f x d with
 | some S3 => .next ρ S3
 | none => .stuck
theorem KW {value : Expr} {mv : FE} (c : Cls X.K (He.ga X.K C)) (na : NoAttr X.K (He.ga X.K C) f) (ho : PE X o (dN X.K W mo)) (hv : PE X value (dN X.K W mv)) (hs : swapsWith value (some (.Attribute o f pos')) pos.line X.env = pure false := by rfl) : PS X (.Assign [.Attribute o f pos'] value pos) (mI X.K W (H8 C f mo mv)) := jQ (Lq c na ho hv hs) fun D σ H h => by
 obtain ⟨B, φ, S, ρ, I, E, f'⟩ := h;refine dJ I E f' fun φ1 S1 d1 v1 H1 I1 X1 E1 r1 f1 => dJ I1 E1 f1 fun φ2 S2 d2 v2 H2 I2 X2 E2 r2 f2 => ?_
 split at f2
 ·rename_i S3 q
  unfold JC at q;split at q
  ·rename_i n
   obtain ⟨a, rfl, h1⟩ := r2;split at q
   ·rename_i C' fs q1
    split at q
    ·rename_i hc
     obtain ⟨e, hl⟩ := hc;subst e;cases q;obtain ⟨dx, vs, h4, h5⟩ := I2.ok n _ a q1 h1;have X3 := Ext.put (H := H2) (o := .ins (He.ga X.K C') dx (putF f v1 vs)) (x := .ins C' (Ae f d1 fs)) q1 (by simp) h1 (by simp)
     have r1' := r1.ext X2 I1;refine ⟨dx, vs, h4, by rw [h5.len]; exact hl, f2 φ2 σ _ (I2.put q1 (by simp) h1 (by simp) ⟨dx, _, upd_same, (h5.put r1').ext X3 I2⟩) X3 (E2.ext X3 I2)⟩
    ·cases q
   ·cases q
  ·cases q
 ·exact f2.elim
end
section
variable {X : Cx} {W : WX} {e a b c o i : Expr} {es rest : List Expr} {pos p q p2 tpos apos cpos pos' : Pos} {x y z f mn : Str} {K : aC} {ma mb mc mo mx : FE} {mas : FA} {B : Addr -> Prop} {φ φ' : List Addr} {S S' : aO} {H H' : Hp} {σ : L2.St} {Q : VK} {m n : FS} {D : Ends} {ps : List Str} {md : FD} {j k : Nat}
theorem FN {C fA : Addr} {fd : FuncData} {sp : Sp} {CX : CXT} {E : L2.St -> XK} {pins : List (Addr × Obj)} {s : Shared} {us : List Value} {vs : List L2.V} (M : Mk X.K C fA) (F : FnOk X.prog X.w X.K X.mg X.base CX k fA fd ps sp) (hr : Room (k + 1) X.A) (hb : Binds X.K fd ps [])
  (hx : PassesAt CX X σ (E σ)) (I : Inv X pins σ H s) (r : Vals vs us)
  (h : ∀ x dx, H x = none -> H dx = none -> dx ≠ x -> sp (.ref x :: vs) (upd (upd H dx (.own x)) x (.ins C dx [])) (fun v H2 => v = .non /\ Q (.ref x) H2) (E σ)) :
  wpAny (model X.prog X.w) X.A (call (.ref C) us) (EP X pins σ Q) X.xe s := by
 have hq := h (s.heap.objs.size + 1) s.heap.objs.size (I.hok.fresh (Nat.le_succ _)) (I.hok.fresh (bG _)) (Nat.ne_of_lt (Nat.lt_succ_self _));have I2 := Inv.made (C := C) I;have r2 : Vals (V.ref (s.heap.objs.size + 1) :: vs) (Value.ref (s.heap.objs.size + 1) :: us) := .cons rfl r;have hl : (Value.ref (s.heap.objs.size + 1) :: us ++ []).length = ps.length := by
  have e := r2.length;rw [F.len _ _ _ _ hq] at e;rw [dD];exact e.symm
 have b := hb _ (Value.ref (s.heap.objs.size + 1) :: us) I2.kIn hl;rw [dD] at b;refine wpAny_call (make_map (f := fA) I.kIn M.makes M.init (beq_iff_eq.mp M.fn) (codeAny_mono (F.run _ X.stack _ _ ⟨Value.ref (s.heap.objs.size + 1) :: us, []⟩ (Value.ref (s.heap.objs.size + 1) :: us) _ _ (E σ) (hr.make C us [])
  (I2.env0.make C us []) b r2 hq) fun r s' hq' => ?_))
 cases r with
 | error e => exact hx pins _ _ e s' I2 hq'
 | ok fl =>
  cases fl with
  | ret u =>
   obtain ⟨v, H', I3, rv, ev, q3⟩ := I2.after hq';subst ev;exact ⟨rv, ⟨V.ref (s.heap.objs.size + 1), H', I3, rfl, q3⟩⟩
  | next => exact False.elim hq'
  | brk => exact False.elim hq'
  | cont => exact False.elim hq'
def BI : List (Str × Vl) -> Option (List PH.D)
 | [] => some []
 | (_, .dat d) :: r => match BI r with
  | some ds => some (d :: ds)
  | none => none
 | _ :: _ => none
theorem Cu : ∀ {fs : List (Str × Vl)} {vs : List (Str × L2.V)} {ds : List PH.D}, BI fs = some ds -> RepF K B φ S H fs vs -> ∃ ws, vs = (fs.map (·.1)).zip ws /\ RepL K (jZ B φ S) H ds ws
 | [], vs, ds, h, r => by cases h; cases r; exact ⟨[], rfl, rfl⟩
 | (g, .dat d) :: fs, vs, ds, h, ⟨v, ws, e, h1, h2⟩ => by
  unfold BI at h;cases q : BI fs with
  | none => rw [q] at h; cases h
  | some es =>
   rw [q] at h;cases h;obtain ⟨us, e2, l⟩ := Cu q h2;subst e e2;exact ⟨v :: us, rfl, v, us, rfl, h1, l⟩
 | (_, .cel _) :: fs, vs, ds, h, _ => by cases h
 | (_, .cels _) :: fs, vs, ds, h, _ => by cases h
 | (_, .scr _) :: fs, vs, ds, h, _ => by cases h
 | (_, .tc _) :: fs, vs, ds, h, _ => by cases h
def made (kp : Bool) (n : Nat) (r : Res Vl) : Res Vl := match r with
 | .ok (.dat .non) S => if kp then .ok (.cel n) S else (match S[n]? with
  | some (.ins C fs) => (match BI fs with
   | some ds => if ((S.take n).all fun c => c.below n) then .ok (.dat (.ins C (fs.map (·.1)) ds)) (S.take n) else .stuck
   | none => .stuck)
  | _ => .stuck)
 | .err e S => if ((S.take n).all fun c => c.below n) then .err e (S.take n) else .stuck
 | _ => .stuck
def Eb (kp : Bool) (C : Str) (md : FD) (as : FA) : FE := fun ρ S => (as ρ S).bind fun ds S1 => made kp S1.length (md (.cel S1.length :: ds) (S1 ++ [.ins C []]))
theorem Cw {n : Nat} {c : Cell} {a : Addr} (I : GInv K B φ S H) (hn : S[n]? = some c) (hc : c ≠ .dead) (ha : φ[n]? = some a) : ¬ jZ B (φ.take n) (S.take n) a := fun q => by
 rcases q with q | ⟨m, c', h1, h2, h3⟩
 ·exact I.blk a ⟨n, c, hn, hc, ha⟩ q
 ·rw [dO] at h1 h3
  by_cases hm : m < n
  ·rw [if_pos hm] at h1 h3
   have := I.inj n m c c' a hn hc h1 h2 ha h3;omega
  ·rw [if_neg hm] at h1; cases h1
theorem IH {kp : Bool} {C : Str} {ds : List Vl} {vs : List L2.V} (I : GInv K B φ S H) (r : RepVs K B φ S H ds vs) (f : Fin K W σ (RepV K) B φ S H (made kp S.length (md (.cel S.length :: ds) (S ++ [.ins C []]))) Q) :
  ∀ x dx, H x = none -> H dx = none -> dx ≠ x -> spF K md (.ref x :: vs) (upd (upd H dx (.own x)) x (.ins (He.ga K C) dx [])) (fun v H2 => v = .non /\ Q (.ref x) H2) (WE W σ) := fun x dx nx ndx ne => by
 have I1 := I.new (o := .own x) ndx;have X1 := Ext.new (o := .own x) I ndx;have nx1 : upd H dx (.own x) x = none := by rw [upd_ne (Ne.symm ne)]; exact nx
 have X2 := Ext.newC (o := .ins (He.ga K C) dx []) (x := .ins C []) I1 nx1;have I2 : GInv K B (φ ++ [x]) (S ++ [.ins C []]) (upd (upd H dx (.own x)) x (.ins (He.ga K C) dx [])) := I1.newC nx1 fun _ => ⟨dx, [], upd_same, rfl⟩
 have X12 := X1.trans X2;refine ⟨B, φ ++ [x], S ++ [.ins C []], .cel S.length :: ds, I2, ⟨_, _, rfl, ⟨x, rfl, by rw [<- I.len]; exact nM⟩, RepVs.ext X2 I1 (RepVs.ext X1 I r)⟩, ?_⟩
 have hφ : φ.length <= S.length := by rw [I.len]; exact bG _
 cases q : md (.cel S.length :: ds) (S ++ [.ins C []]) with
 | stuck => rw [q] at f; exact f
 | err e S' =>
  rw [q] at f;unfold made at f;dsimp only at f;split at f
  ·rename_i h
   intro φ' c y H' I' X' r';refine f (φ'.take S.length) c y H' (I'.take h) ((X12.trans X').take hφ) ⟨r'.1, ?_⟩
   rcases r'.2 with h0 | ⟨d, us, e1, e2, e3⟩
   ·exact .inl h0
   ·refine .inr ⟨d, us, e1, e2, RepL.kp ⟨fun b o h nb => ⟨h, fun q => nb (by
     rcases q with q | q
     ·exact .inl q
     ·exact .inr (jP q))⟩, fun _ _ h => h⟩ _ _ e3⟩
  ·exact f.elim
 | ok d S' =>
  rw [q] at f;intro φ' v H' I' X' r';unfold made at f;split at f
  ·rename_i S0 e
   cases e;cases r';refine ⟨rfl, ?_⟩
   have hx' : φ'[S.length]? = some x := X'.ids _ _ (by rw [<- I.len]; exact nM)
   split at f
   ·exact f φ' _ H' I' (X12.trans X') ⟨x, rfl, hx'⟩
   ·split at f
    ·rename_i C' fs q1
     split at f
     ·rename_i ds' q2
      split at f
      ·rename_i h
       obtain ⟨dx', vs', h4, h5⟩ := I'.ok _ _ _ q1 hx';obtain ⟨ws, e2, l⟩ := Cu q2 h5;subst e2;refine f (φ'.take S.length) _ H' (I'.take h) ((X12.trans X').take hφ) ⟨x, dx', ws, rfl, Cw I' q1 (by simp) hx', h4, RepL.kp ⟨fun b o h nb => ⟨h, fun q => nb (by
        rcases q with q | q
        ·exact .inl q
        ·exact .inr (jP q))⟩, fun _ _ h => h⟩ _ _ l⟩
      ·exact f.elim
     ·exact f.elim
    ·exact f.elim
  ·rename_i e; cases e
  ·exact f.elim
theorem IM {kp : Bool} {C : Str} (T : ClF X.K X.mg C) (F : OkMX X.prog X.w X.K X.mg X.base j C "__init__" ps (spF X.K md)) (hr : Room k X.A) (tk : Takes X W) (ha : PA X (e :: es) (FV X.K W mas)) (hjk : j + 1 <= k := by decide) (hg : Gl X C := by rfl) (hdb : (C == ("__debug__" : Str)) = false := by decide)
  (he : starEach (e :: es) X.env = (false, eval e X.env) :: starEach es X.env := by rfl) (hpl : (backTo pos (starEach es X.env)).any (·.1) = false := by rfl) : PE X (.Call (.Name C p) (e :: es) [] pos) (dN X.K W (Eb kp C md mas)) := by
 obtain ⟨⟨fd, F, hb⟩, mt⟩ := F;refine ⟨fun pins s σ H Q I h => ?_⟩
 refine wpAny_Call_Name_kw (ld_glob I hg T.glo ?_ hdb)
 have h' : FV X.K W mas σ H fun vs H1 => ∀ x dx, H1 x = none -> H1 dx = none -> dx ≠ x -> spF X.K md (.ref x :: vs) (upd (upd H1 dx (.own x)) x (.ins (He.ga X.K C) dx [])) (fun v H2 => v = .non /\ Q (.ref x) H2) (WE W σ) :=
  cJ (k := fun ds _ S1 => made kp S1.length (md (.cel S1.length :: ds) (S1 ++ [.ins C []]))) h fun B φ S ρ d v H1 I E r f => IH I r f
 refine F6 (h₀ := X.base) I.ok.mod.kin T.mak.kp (thn (ha.run pos pins s σ H _ I h') fun us s1 ⟨vs, H1, I1, r, q⟩ => ⟨I1.kIn, ?_⟩) he hpl
 exact FN (E := WE W) T.mak F (hr.mono hjk) hb (passAt tk σ) I1 r q
def M5 (cls : Str) : FS := fun ρ S => .err ⟨cls, [], []⟩ ρ S
end
def Lo (C : Addr) (f : Str) : Sp := fun vs H Q _ => ∃ a y, vs = [.ref a, y] /\ H a = some (exo a C none) /\ ∀ dx, H dx = none -> dx ≠ a -> Q .non (upd (upd H dx (exd dx [(f, y)])) a (exo a C (some dx)))
def Ln (C : Addr) (f g : Str) : Sp := fun vs H Q _ => ∃ a y z, vs = [.ref a, y, z] /\ H a = some (exo a C none) /\ ∀ dx, H dx = none -> dx ≠ a -> Q .non (upd (upd (upd H dx (exd dx [(f, y)])) a (exo a C (some dx))) dx (exd dx [(g, z), (f, y)]))
structure XcA (P : Program) (w : World) (K : aC) (mg : Str -> Option Value) (base : Heap) (k : Nat) (x : Str) (ps : List Str) (sp : Sp) : Prop where
 cls : OexC K (He.ga K x)
 ini : iE K (.ref (He.ga K x)) "__init__" = some (some (.ref (He.ma K (He.ga K x) "__init__")))
 ty : sR K (.ref (He.ma K (He.ga K x) "__init__")) = some (.type "function")
 fn : ∃ fd, FnOk P w K mg base CX0 k (He.ma K (He.ga K x) "__init__") fd ps sp /\ Binds K fd ps []
 glo : mg x = some (.ref (He.ga K x))
section
variable {X : Cx} {W : WX} {e : Expr} {es : List Expr} {pos p pos' : Pos} {x f g : Str} {K : aC} {mas : FA} {B : Addr -> Prop} {φ φ' : List Addr} {S S' : aO} {H H' : Hp} {σ : L2.St} {ps : List Str} {j k : Nat}
def eV (cls : Str) (ns : List Str) (as : FA) : FS := fun ρ S => (as ρ S).toS ρ fun xs S1 => match tP xs with
 | some ds => if ds.length = ns.length then .err ⟨cls, ns, ds.reverse⟩ ρ S1 else .stuck
 | none => .stuck
theorem Au (F : XcA X.prog X.w X.K X.mg X.base j x ps (Lo (He.ga X.K x) f)) (hr : Room k X.A) (tk : Takes X W) (ha : PA X (e :: es) (FV X.K W mas)) (hjk : j + 1 <= k := by decide) (hc : X.calm = true := by rfl) (hg : Gl X x := by rfl) (hdb : (x == ("__debug__" : Str)) = false := by decide)
  (he : starEach (e :: es) X.env = (false, eval e X.env) :: starEach es X.env := by rfl) (hpl : (backTo pos (starEach es X.env)).any (·.1) = false := by rfl) : PS X (.Raise (some (.Call (.Name x p) (e :: es) [] pos)) none pos') (mI X.K W (eV x [f] mas)) := by
 obtain ⟨fd, F1, hb⟩ := F.fn;refine jQ (ps_raise hc tk (pmk_oex F.cls F.ini F.ty F1 (hr.mono hjk) hb .nil (fun _ _ _ _ _ _ _ h => h.elim) hg F.glo ha hdb he hpl)) fun D σ H h => ?_
 obtain ⟨B, φ, S, ρ, I, E, f'⟩ := h;refine dJ I E f' fun φ1 S1 ds vs H1 I1 X1 E1 r f1 => ?_
 split at f1
 ·rename_i xs q
  have l := uY q r;split at f1
  ·rename_i hl
   match xs, hl with
   | [d], _ =>
    obtain ⟨v, ws, rfl, h1, h2⟩ := l;cases h2;refine ⟨by simp, fun a na => ⟨a, v, rfl, upd_same, fun dx ndx ne => ⟨rfl, dx, [(f, v)], upd_same, ?_, ?_, ?_⟩⟩⟩
    ·rw [upd_ne ne, upd_same]
    ·rw [upd_ne ne] at ndx; exact ndx
    ·have n1 : H1 dx = none := by rw [upd_ne ne] at ndx; exact ndx
     have eH : (upd (del (upd (upd (upd H1 a (exo a (He.ga X.K x) none)) dx (exd dx [(f, v)])) a (exo a (He.ga X.K x) (some dx))) a) dx (.xd [(f, v)])) = upd H1 dx (.xd [(f, v)]) := by
      funext b
      unfold upd del
      by_cases hb : b = dx
      ·rw [if_pos hb, if_pos hb]
      ·rw [if_neg hb, if_neg hb]
       by_cases hba : b = a
       ·rw [if_pos hba, hba]; exact na.symm
       ·rw [if_neg hba]; simp only [if_neg hba, if_neg hb]
     rw [eH];have X2 := Ext.new (o := .xd [(f, v)]) I1 n1;exact f1 φ1 σ _ _ _ (I1.new n1) X2 (E1.ext X2 I1) ⟨rfl, .inr ⟨dx, [v], rfl, upd_same, v, [], rfl, Rep.kp (X2.kp I1) _ _ h1, rfl⟩⟩
  ·exact f1.elim
 ·exact f1.elim
theorem vU (F : XcA X.prog X.w X.K X.mg X.base j x ps (Ln (He.ga X.K x) f g)) (hr : Room k X.A) (tk : Takes X W) (ha : PA X (e :: es) (FV X.K W mas)) (hjk : j + 1 <= k := by decide) (hc : X.calm = true := by rfl) (hg : Gl X x := by rfl) (hdb : (x == ("__debug__" : Str)) = false := by decide)
  (he : starEach (e :: es) X.env = (false, eval e X.env) :: starEach es X.env := by rfl) (hpl : (backTo pos (starEach es X.env)).any (·.1) = false := by rfl) : PS X (.Raise (some (.Call (.Name x p) (e :: es) [] pos)) none pos') (mI X.K W (eV x [g, f] mas)) := by
 obtain ⟨fd, F1, hb⟩ := F.fn;refine jQ (ps_raise hc tk (pmk_oex F.cls F.ini F.ty F1 (hr.mono hjk) hb .nil (fun _ _ _ _ _ _ _ h => h.elim) hg F.glo ha hdb he hpl)) fun D σ H h => ?_
 obtain ⟨B, φ, S, ρ, I, E, f'⟩ := h;refine dJ I E f' fun φ1 S1 ds vs H1 I1 X1 E1 r f1 => ?_
 split at f1
 ·rename_i xs q
  have l := uY q r;split at f1
  ·rename_i hl
   match xs, hl with
   | [d, d2], _ =>
    obtain ⟨v, ws, rfl, h1, u, ws', rfl, h2, h3⟩ := l;cases h3;refine ⟨by simp, fun a na => ⟨a, v, u, rfl, upd_same, fun dx ndx ne => ⟨rfl, dx, [(g, u), (f, v)], ?_, upd_same, ?_, ?_⟩⟩⟩
    ·rw [upd_ne (Ne.symm ne), upd_same]
    ·rw [upd_ne ne] at ndx; exact ndx
    ·have n1 : H1 dx = none := by rw [upd_ne ne] at ndx; exact ndx
     have eH : (upd (del (upd (upd (upd (upd H1 a (exo a (He.ga X.K x) none)) dx (exd dx [(f, v)])) a (exo a (He.ga X.K x) (some dx))) dx (exd dx [(g, u), (f, v)])) a) dx (.xd [(g, u), (f, v)])) = upd H1 dx (.xd [(g, u), (f, v)]) := by
      funext b
      unfold upd del
      by_cases hb : b = dx
      ·rw [if_pos hb, if_pos hb]
      ·rw [if_neg hb, if_neg hb]
       by_cases hba : b = a
       ·rw [if_pos hba, hba]; exact na.symm
       ·rw [if_neg hba]; simp only [if_neg hba, if_neg hb]
     rw [eH];have X2 := Ext.new (o := .xd [(g, u), (f, v)]) I1 n1;exact f1 φ1 σ _ _ _ (I1.new n1) X2 (E1.ext X2 I1) ⟨rfl, .inr ⟨dx, [u, v], rfl, upd_same, u, [v], rfl, Rep.kp (X2.kp I1) _ _ h2, v, [], rfl, Rep.kp (X2.kp I1) _ _ h1, rfl⟩⟩
  ·exact f1.elim
 ·exact f1.elim
end
def XMs (K : aC) (cs : List Str) : Prop := ∀ c ∈ cs, ∀ d ∈ cs, PySem.W.exmOne K (.ref (He.ga K c)) (.ref (He.ga K d)) = some (decide (c = d))
theorem Le {K : aC} {cs : List Str} (h : xmB K cs = true) : XMs K cs := fun c hc d hd => of_decide_eq_true (bZ.mp (bZ.mp h c hc) d hd)
section
variable {X : Cx} {W : WX} {e a b c o i : Expr} {es rest : List Expr} {pos p q p2 tpos apos cpos pos' np : Pos} {x y z f mn : Str} {K : aC} {ma mb mc mo mx : FE} {mas : FA} {B : Addr -> Prop} {φ φ' : List Addr} {S S' : aO} {H H' : Hp} {σ : L2.St} {Q : VK} {m n : FS} {D : Ends} {cs : List Str}
def handle (cs : List Str) : List (Str × FS) -> Er -> Ev -> aO -> Out
 | [], e, ρ, S => .err e ρ S
 | (c, m) :: r, e, ρ, S => if e.cls = c then (match m ρ S with
   | .err _ _ _ => .stuck
   | o => o) else handle cs r e ρ S
inductive XIt where
 | c (v : L2.V) (d : PH.D) | f (n : Str)
def itR (a : Addr) (cls : Value) (d : Option Addr) (C : Addr) (i : Nat) : List XIt -> TA
 | [] => tNil
 | .c v _ :: r => tCons (tC v) (itR a cls d C i r)
 | .f n :: r => tCons (tXf a cls d C n (AM i)) (itR a cls d C i r)
def Jm (e : Er) : List XIt -> Option (List PH.D)
 | [] => some []
 | .c _ d :: r => match Jm e r with
  | some ds => some (d :: ds)
  | none => none
 | .f n :: r => match (e.ns.zip e.xs).lookup n, Jm e r with
  | some d, some ds => some (d :: ds)
  | _, _ => none
def HW : List XIt -> Prop
 | [] => True
 | .c v d :: r => (∀ (K : aC) (Bk : Addr -> Prop) (H : Hp), Rep K Bk H d v) /\ HW r
 | .f _ :: r => HW r
theorem MR {e : Er} {cl : Value} {x : Option Addr} {C : Str} {k : Nat} {a : Addr} {its : List XIt} {ds : List PH.D} {Q : List L2.V -> Hp -> Prop} (ok : HW its) (rx : NK K B φ S H e cl x) (hC : e.cls = C) (hσ : sl σ k = some (.ref a)) (h : Jm e its = some ds)
  (q : ∀ vs, RepL K (jZ B φ S) H ds vs -> Q vs H) : itR a cl x (He.ga K C) k its σ H Q := by
 induction its generalizing ds Q with
 | nil => cases h; exact q [] rfl
 | cons it r ih =>
  cases it with
  | c v d =>
   unfold Jm at h;cases q1 : Jm e r with
   | none => rw [q1] at h; cases h
   | some es =>
    rw [q1] at h;cases h;exact ih ok.2 q1 fun vs l => q (v :: vs) ⟨v, vs, rfl, ok.1 _ _ _, l⟩
  | f n =>
   unfold Jm at h;cases q0 : (e.ns.zip e.xs).lookup n with
   | none => rw [q0] at h; cases h
   | some d =>
    cases q1 : Jm e r with
    | none => rw [q0, q1] at h; cases h
    | some es =>
     rw [q0, q1] at h;cases h;obtain ⟨ec, rest⟩ := rx;subst hC;rcases rest with ⟨e1, _⟩ | ⟨dd, us, e1, e2, l⟩
     ·rw [e1] at q0; simp at q0
     ·obtain ⟨v, h2, h3⟩ := yB l q0
      show (match sl σ k with | some v => _ | none => False)
      rw [hσ];exact ⟨rfl, ec, dd, _, v, e1, e2, h2, ih ok q1 fun vs l => q (v :: vs) ⟨v, vs, rfl, h3, l⟩⟩
def Am (cs : List Str) (m : FS) (c : Str) (k : Nat) (its : List XIt) : FS := fun ρ S => match m ρ S with
 | .err e ρ' S' => if (e.cls ∈ cs /\ c ∈ cs) /\ k < ρ'.length then (if e.cls = c then (match Jm e its with
   | some ds => if ds.length <= sizeLine then .ret (.dat (.tup ds)) S' else .stuck
   | none => .stuck) else .err e ρ' S') else .stuck
 | o => o
theorem Ky : ∀ {σ : L2.St} {i : Nat} {v : L2.V}, σ[i]? = some (some v) -> sl σ i = some v
 | [], _, _, h => by simp at h
 | x :: _, 0, v, h => by simp at h; exact h
 | _ :: r, n + 1, v, h => Ky (σ := r) (i := n) (by simpa using h)
theorem GW {c : Str} {its : List XIt} {k : Nat} (M : XMs K cs) (ok : HW its) (h : mI K W (Am cs m c k its) D σ H) : mI K (wAs K (.ref (He.ga K c)) k (fun a cls d => tRet (tTup (itR a cls d (He.ga K c) k its))) W D) m D σ H := by
 obtain ⟨B, φ, S, ρ, I, E, f⟩ := h;refine ⟨B, φ, S, ρ, I, E, ?_⟩
 unfold Am at f;cases q : m ρ S with
 | err e ρ' S' =>
  rw [q] at f;dsimp only at f;split at f
  ·rename_i hh
   intro φ' σ' c' x H' I' X' E' r;have q1 := M e.cls hh.1.1 c hh.1.2;have hl : k < σ'.length := by rw [<- E'.1]; exact hh.2
   refine ⟨decide (e.cls = c), by rw [r.1]; exact q1, fun h a na => ?_, fun h => ?_⟩
   ·have ec := of_decide_eq_true h
    rw [if_pos ec] at f;split at f
    ·rename_i ds qd
     split at f
     ·rename_i hs
      refine MR ok r ec (Ky (by rw [bD, if_pos rfl, if_pos hl])) qd fun vs l => ⟨by rw [l.len]; exact hs, fun p hp => ?_⟩
      have X2 := Ext.new (o := .tup vs) I' hp;exact f φ' _ _ (I'.new hp) (X'.trans X2) ⟨p, vs, rfl, .inl (.inl upd_same), X2.repL I' l⟩
     ·exact f.elim
    ·exact f.elim
   ·rw [if_neg (of_decide_eq_false h)] at f
    exact f φ' σ' c' x H' I' X' E' r
  ·exact f.elim
 | next ρ S' => rw [q] at f; exact f
 | ret d S' => rw [q] at f; exact f
 | brk ρ S' => rw [q] at f; exact f
 | cnt ρ S' => rw [q] at f; exact f
 | stuck => rw [q] at f; exact f
theorem Lg {a : Addr} {cls : Value} {d : Option Addr} {C : Addr} {k : Nat} : PA X [] (itR a cls d C k []) := pa_nil
theorem xa_c {a : Addr} {cls : Value} {d : Option Addr} {C : Addr} {k : Nat} {v : L2.V} {dd : PH.D} {its : List XIt} (h : PE X e (tC v)) (r : PA X es (itR a cls d C k its)) (hs : starEach (e :: es) X.env = (false, eval e X.env) :: starEach es X.env := by rfl) : PA X (e :: es) (itR a cls d C k (.c v dd :: its)) := pa_cons h r hs
theorem xa_f {a : Addr} {oe : Obj} {cls : Value} {d : Option Addr} {C : Addr} {k : Nat} {pn : List (Addr × Obj)} {nm : Str} {its : List XIt} (T : XfC X.K C) (hno : iE X.K (.ref C) nm = some none) (hz : Zc cls d oe) (hf : ∃ vs, oe.data = .fields vs) (he : PE (X.suite a ((a, oe) :: pn)) e (AM k)) (r : PA (X.suite a ((a, oe) :: pn)) es (itR a cls d C k its))
  (hb : attributeBase e nm X.env (eval e X.env) = eval e X.env := by rfl) (hs : starEach (.Attribute e nm pos :: es) X.env = (false, eval (.Attribute e nm pos) X.env) :: starEach es X.env := by rfl) : PA (X.suite a ((a, oe) :: pn)) (.Attribute e nm pos :: es) (itR a cls d C k (.f nm :: its)) := pa_cons (pe_xf T hno hz hf he hb) r hs
theorem KU {body : List Stmt} {b₀ : Stmt} {suite : List Stmt} {nm : Str} {k : Nat} {its : List XIt} (M : XMs X.K cs) (ok : HW its) (hs : X.stack = X.env :: X.outer) (hf : X.env.frame = some X.env.locals) (hN : X.N.Nodup) (hi : X.N[k]? = some nm) (hln : X.env.kindOf nm = some .local) (g : X.mg x = some (.ref (He.ga X.K x))) (tk : Takes X W)
  (hb : ∀ (W : WX) (pn : List (Addr × Obj)) (xe : Value -> Shared -> Prop), Takes (X.tr pn xe) W -> PassesOwn (model X.prog X.w) X.A X.env xe -> PSs (X.tr pn xe) body (mI X.K W m))
  (hsu : ∀ (a : Addr) (oe : Obj) (cls : Value) (d : Option Addr) (pn : List (Addr × Obj)), Zc cls d oe -> (∃ vs, oe.data = .fields vs) -> PSs (X.suite a ((a, oe) :: pn)) (b₀ :: suite) (tRet (tTup (itR a cls d (He.ga X.K x) k its)))) (hg : Gl X x := by rfl) (hd : (x == ("__debug__" : Str)) = false := by decide) :
  PS X (.Try body [.ExceptHandler (some (.Name x np)) (some nm) (b₀ :: suite) pos'] [] [] pos) (mI X.K W (Am cs m x k its)) :=
 jQ (ps_try_as (tb := fun W => mI X.K W m) hs hf hN hi hln ⟨hg, hd, .inl g⟩ tk hb hsu) fun D σ H h => GW M ok h
end
structure Lim (K : aC) : Prop where
 pos : ∀ z m lo hi, limits.lookup z = some (m, lo, hi) -> iR K (He.ga K "LIMITS") z = some (some (.ref (CL K z))) /\ ∀ H, SqT K H (CL K z) [.int (m : Nat), .int lo, .int hi]
 neg : ∀ z, limits.lookup z = none -> iR K (He.ga K "LIMITS") z = some none
section
variable {X : Cx} {W : WX} {e a b c o i : Expr} {es rest : List Expr} {pos p q p2 tpos apos cpos pos' np : Pos} {x y z f mn C : Str} {K : aC} {ma mb mc mo mx : FE} {mas : FA} {B : Addr -> Prop} {φ φ' : List Addr} {S S' : aO} {H H' : Hp} {σ : L2.St} {Q : VK} {m n : FS} {D : Ends} {ps : List Str} {md : FD} {j k : Nat}
def fC (neg : Bool) (x : Vl) (S : aO) : Res Vl := match x with
 | .dat (.str z) => .ok (.dat (.bl (if neg then (limits.lookup z).isNone else (limits.lookup z).isSome))) S
 | _ => .stuck
def vY (x : Vl) (S : aO) : Res Vl := match x with
 | .dat (.str z) => (match limits.lookup z with
  | some (m, lo, hi) => .ok (.dat (.tup [.int (m : Nat), .int lo, .int hi])) S
  | none => .stuck)
 | _ => .stuck
theorem Gf (L : Lim K) {x : L2.V} {d : Vl} (I : GInv K B φ S H) (r : RepV K B φ S H d x) (f : Fin K W σ (RepV K) B φ S H (fC true d S) Q) : Lc K (He.ga K "LIMITS") true x (.ref (He.ga K "LIMITS")) H Q := by
 unfold fC at f;split at f
 ·rename_i z
  cases r;cases q : limits.lookup z with
  | none =>
   refine ⟨rfl, none, L.neg z q, ?_⟩
   rw [q] at f;exact Fin.now f I rfl
  | some t =>
   obtain ⟨m, lo, hi⟩ := t;refine ⟨rfl, _, (L.pos z m lo hi q).1, ?_⟩
   rw [q] at f;exact Fin.now f I rfl
 ·exact f.elim
theorem Fs {py : Pos} (L : Lim X.K) (D : ∃ es n, KDict X.K X.w (He.ga X.K "LIMITS") es n) (g : X.mg "LIMITS" = some (.ref (He.ga X.K "LIMITS"))) (ha : PE X a (dN X.K W ma)) (hg : Gl X "LIMITS" := by rfl) (hm : behindInMarks .NotIn (.Name "LIMITS" py) = false := by rfl) : PT X (.Compare a [.NotIn] [.Name "LIMITS" py] pos) (vJ X.K W (mB (m1 (fC true) ma))) :=
 A6 (Kx (BV D) ha (pe_glob (v := .ref (He.ga X.K "LIMITS")) hg g rfl) hm) fun σ H Q h => cJ (k := fun x _ S => fC true x S) (GZ h) fun B φ S ρ d v H1 I E r f => Gf L I r f
theorem f_lim {py : Pos} (L : Lim X.K) (D : ∃ es n, KDict X.K X.w (He.ga X.K "LIMITS") es n) (g : X.mg "LIMITS" = some (.ref (He.ga X.K "LIMITS"))) (ha : PE X a (dN X.K W ma)) (hg : Gl X "LIMITS" := by rfl) (hs : PlainIx a := by intro _ _; rfl) : PE X (.Subscript (.Name "LIMITS" py) a pos) (dN X.K W (m1 vY ma)) :=
 dF (pe_ix (MN D) (pe_glob (v := .ref (He.ga X.K "LIMITS")) hg g rfl) ha hs) fun σ H Q h => cJ (k := fun x _ S => vY x S) h fun B φ S ρ d v H1 I E r f => by
  unfold vY at f;split at f
  ·rename_i z
   cases r;split at f
   ·rename_i m lo hi q
    obtain ⟨h1, h2⟩ := L.pos z m lo hi q;exact ⟨rfl, _, .ref (CL X.K z), h1, rfl, Fin.now f I ⟨_, _, rfl, h2 H1, _, _, rfl, rfl, _, _, rfl, rfl, _, _, rfl, rfl, rfl⟩⟩
   ·exact f.elim
  ·exact f.elim
def lenR (r : Res Vl) : Res Vl := match r with
 | .ok (.dat (.int n)) S => if 0 <= n /\ n < 2 ^ 62 then .ok (.dat (.int n)) S else .stuck
 | _ => .stuck
def Ic (r : Res Vl) : Res Vl := match r with
 | .ok (.dat (.bl n)) S => .ok (.dat (.bl n)) S
 | _ => .stuck
theorem Bj {n : Int} {x : Str} (h : ∃ t, X.mg x = some (.int n t)) (hg : Gl X x := by rfl) (hd : (x == ("__debug__" : Str)) = false := by decide) : PE X (.Name x pos) (dN X.K W (mC (.int n))) := IJ (NF h hg hd) fun _ _ => rfl
theorem f_dct : PE X (.Dict [] [] pos) (dN X.K W (mC .dct)) := dF pe_dnewK fun σ H Q h => by
 obtain ⟨B, φ, S, ρ, I, E, f⟩ := h;exact fun p hp => f φ _ _ (I.new hp) (Ext.new I hp) ⟨p, rfl, I.nblk hp, upd_same⟩
end
section
variable {P : Program} {w : World} {K : aC} {mg : Str -> Option Value} {base : Heap}
def kZ : FD := fun _ _ => .stuck
theorem jF {x : Str} {st : Stmt} {N ps : List Str} {k : Nat} (F : oZ K x st) (g : mg x = some (.ref (He.ga K x))) (S : FnScope N ps (defScope st))
  (bnd : ∀ (kV doc pm : Value) (an : Option Addr) (cdv ct : Value) (us : List Value), us.length = ps.length -> bindArgs (gM x x (defArgs st) (defBody st) (defScope st) .none kV doc pm an cdv ct) ⟨us, []⟩ = pure (ps.zip us)) : oK P w K mg base (k + 1) x ps (spF K kZ) :=
 Gx F g S (fun vs H Q E ⟨_, _, _, _, _, _, f⟩ => f.elim) bnd fun cdv A outer s H vs Q E hr ⟨_, _, _, _, _, _, f⟩ => f.elim
end
theorem FC {K : aC} {a : Addr} {vs : List V} (h : DK K a vs = true) (H : Hp) : SqT K H a vs := by
 unfold DK at h;cases q : K.lookup a with
 | none => rw [q] at h; cases h
 | some o =>
  obtain ⟨oc, od, dt, osl⟩ := o;rw [q] at h;cases oc with
  | type c =>
   cases dt with
   | seq its n =>
    obtain ⟨h1, h2⟩ := He.ba (show (decide (c = "tuple") && (decide (its.size <= sizeLine) && He.relAll vs its.toList)) = true from h)
    obtain ⟨h3, h4⟩ := He.ba h2;exact .inr ⟨_, its, n, q, congrArg Value.type (of_decide_eq_true h1), rfl, of_decide_eq_true h3, He.relAll_ok h4⟩
   | _ => cases h
  | _ => cases dt <;> cases h
theorem G4 {fa : List He.Fa} {fn : List He.DefD} {ts : List He.Tab} {w : World} {K : aC} (c : He.SaysT fa fn ts w K) (i : Nat) {t : He.Tab} (h : ts[i]? = some t := by rfl) : He.dicW K (t.1 K) = some (He.keysIn w.params t.2) := by
 have e : ts.map (fun t => He.dicW K (t.1 K)) = ts.map fun t => some (He.keysIn w.params t.2) := congrArg (fun z : He.AlT => z.2) c
 have e2 : (ts.map fun t => He.dicW K (t.1 K))[i]? = (ts.map fun t => some (He.keysIn w.params t.2))[i]? := by rw [e]
 rw [cY, cY, h] at e2;exact Option.some.inj e2
theorem Ao {P : Params} {z : Str} : ∀ {l : List DictEntry} {ks : List Str}, l.map He.keyOf = He.keysIn P ks -> z ∉ ks -> (l.find? (·.key.isStr z) = none) /\ l.any (·.refKey) = false
 | [], _, _, _ => ⟨rfl, rfl⟩
 | e :: r, [], h, _ => by cases h
 | e :: r, k :: ks, h, hz => by
  have h1 : He.keyOf e :: r.map He.keyOf = some (k, PyData.keyHash P k) :: He.keysIn P ks := h
  injection h1 with h2 h3
  obtain ⟨i1, i2⟩ := Ao h3 (fun m => hz (aK _ m))
  unfold He.keyOf at h2;split at h2
  ·rename_i x t q
   obtain ⟨h5, h6⟩ := Prod.mk.inj (Option.some.inj h2);have nz : e.key.isStr z = false := by
    rw [q]
    show decide (x = z) = false
    exact decide_eq_false fun e => hz (by rw [<- e, h5]; exact aL ..)
   constructor
   ·rw [List.find?_cons, nz]; exact i1
   ·rw [DB, i2, Bool.or_false]
    show e.refKey = false
    unfold DictEntry.refKey;rw [q]
  ·cases h2
theorem Fc {K : aC} {P : Params} {a : Addr} {ks : List Str} {z : Str} (h : He.dicW K a = some (He.keysIn P ks)) (hz : z ∉ ks) : iR K a z = some none := by
 unfold He.dicW at h;cases q : K.lookup a with
 | none => rw [q] at h; cases h
 | some o =>
  obtain ⟨oc, od, dt, osl⟩ := o;rw [q] at h;cases oc with
  | type c =>
   cases od with
   | none =>
    cases dt with
    | dict es n =>
     have h1 : (match decide (c = "dict") && (osl.isEmpty && !(a == sysModules)) with
      | true => some (es.toList.map He.keyOf)
      | false => none) = some (He.keysIn P ks) := h
     cases y : decide (c = "dict") && (osl.isEmpty && !(a == sysModules)) with
     | false => rw [y] at h1; cases h1
     | true =>
      rw [y] at h1;obtain ⟨i1, i2⟩ := Ao (Option.some.inj h1) hz;unfold iR;rw [q]
      show (match es.toList.find? (·.key.isStr z) with | some e => some (some e.val) | none => if es.toList.any (·.refKey) then none else some none) = some none
      rw [i1, i2];rfl
    | _ => cases h
   | some b => cases dt <;> cases h
  | _ => cases od <;> cases dt <;> cases h
theorem wR {κ β : Type} [BEq κ] [LawfulBEq κ] {z : κ} {v : β} : ∀ {l : List (κ × β)}, l.lookup z = some v -> (z, v) ∈ l
 | [], h => by cases h
 | (k, u) :: r, h => by
  rw [gK] at h;cases e : z == k with
  | true =>
   rw [e] at h;have e2 : z = k := eq_of_beq e;have e3 : u = v := Option.some.inj h;rw [e2, e3];exact aL ..
  | false =>
   rw [e] at h;exact aK _ (wR h)
theorem lookup_none {κ β : Type} [BEq κ] [LawfulBEq κ] {z : κ} : ∀ {l : List (κ × β)}, l.lookup z = none -> z ∉ l.map (·.1)
 | [], _ => by simp
 | (k, u) :: r, h => by
  rw [gK] at h;cases e : z == k with
  | true => rw [e] at h; cases h
  | false =>
   rw [e] at h;have ne : z ≠ k := by simpa using e
   intro m;rcases bN.mp m with m | m
   ·exact ne m
   ·exact lookup_none h m
theorem MB {K : aC} {P : Params} (h : limB K = true) (d : He.dicW K (He.ga K "LIMITS") = some (He.keysIn P (limits.map (·.1)))) : Lim K where
 pos := fun z m lo hi e => by
  obtain ⟨h1, h2⟩ := He.ba (bZ.mp h (z, m, lo, hi) (wR e));exact ⟨He.eqO_ok h1, FC h2⟩
 neg := fun z e => Fc d (lookup_none e)
theorem HH {P : Program} {w : World} {K : aC} {mg : Str -> Option Value} {x : Str} {st : Stmt} {N ps : List Str} {k : Nat} {md : FD} {mb : FS} (F : oZ K x st) (S : FnScope N ps (defScope st)) (R : Runs md N.length ps.length mb)
  (bnd : ∀ (kV doc pm : Value) (an : Option Addr) (cdv ct : Value) (us : List Value), us.length = ps.length -> bindArgs (gM x x (defArgs st) (defBody st) (defScope st) .none kV doc pm an cdv ct) ⟨us, []⟩ = pure (ps.zip us))
  (hbody : ∀ (base : Heap) (cdv : Value) (A : Around) (outer : List Env) (s : Shared) (H : Hp) (E : XK), Room k (A.deeper (envOfC x (defScope st) s.heap.objs.size (He.ga K x) cdv)) ->
   PSs (cxOf (L2.CX P w) P w K mg base N x (defScope st) (He.ga K x) cdv A outer s H E) (defBody st) (mI K (fun c x _ H => E c x H) mb)) :
  ∃ fd, (∀ (s : Shared) (us : List Value), us.length = ps.length -> BindsTo s fd ⟨us, []⟩ (ps.zip us)) /\ ∀ base, FnOk P w K mg base (L2.CX P w) (k + 1) (He.ga K x) fd ps (spF K md) := by
 obtain ⟨fd, F⟩ := F;refine ⟨fd, fun s us hl => F.bindsA bnd s us hl, fun base => ?_⟩
 obtain ⟨oc, od, dV, kV, doc, pm, an, cdv, ct, osl, e, lk, hc⟩ := F.ex;subst e;exact fn_of lk hc.1 S (BN R) fun A outer s H vs Q E hr hsp => ⟨_, hbody base cdv A outer s H E hr, yE R hsp⟩
theorem law_start {K : aC} {md : FD} {n : Nat} (h : ∀ ns : List Int, ns.length <= n -> ∃ S, md [.scr ns] [] = .ok (.dat (.bl true)) S) (H : Hp) (a : Addr) (ns : List Int) (hl : ns.length <= n) (hO : Only H) (hS : SqL K H a (ns.map V.int)) : spF K md [.ref a] H (fun v _ => v = .bl true) fun _ _ _ => False := by
 obtain ⟨S, e⟩ := h ns hl;refine ⟨fun _ => False, [], [], [.scr ns], ⟨rfl, fun n c a h => by simp at h, fun n m c c' a h => by simp at h, fun a ⟨n, c, h, _⟩ => by simp at h, fun a h => h.elim⟩, ⟨_, _, rfl, ⟨a, rfl, ?_⟩, rfl⟩, ?_⟩
 ·rcases hS with (h | ⟨o, h⟩) | h
  ·rcases hO a with q | ⟨o, xs, q⟩
   ·rw [h] at q; cases q
   ·rw [h] at q; cases q
  ·exact .inl ⟨o, h⟩
  ·exact .inr (.inr h)
 ·rw [e]
  exact fun φ' v H' _ _ r => r
theorem JT {K : aC} {C : Addr} (q : Lx K C = true) : ∃ nm q N bs bm sn sub ab col dd k0 k1 k2 k3 k5, K.lookup C = some (excClassObj nm q C N bs bm true sn sub ab col dd k0 k1 k2 k3 k5 "ValueError.__new__") /\ PySem.HandSPX.refsVE bm = true := by
 unfold Lx at q;split at q
 ·rename_i dd cd sl ho
  split at q
  ·rename_i C' bm k0 k1 k2 k3 n k5 hm hs
   simp only [gJ, beq_iff_eq, Bool.not_eq_true'] at q;obtain ⟨⟨⟨⟨rfl, rfl⟩, hdel⟩, hdi⟩, hbm⟩ := q;obtain ⟨nm, bs, mro, ns, qn, hd, sn, sub, ab, col, del⟩ := cd;dsimp only at hm hdel hdi;subst hm hdel hdi;have hsl : sl = #[k0, k1, k2, k3, some (.builtin "ValueError.__new__"), k5] := by
    obtain ⟨l⟩ := sl;simp only at hs;rw [hs]
   subst hsl;exact ⟨nm, qn, ns, bs, bm, sn, sub, ab, col, dd, k0, k1, k2, k3, k5, ho, hbm⟩
  ·cases q
 ·cases q
structure XaF (K : aC) (mg : Str -> Option Value) (x : Str) (fs : List Str) : Prop where
 cls : OexC K (He.ga K x)
 ini : iE K (.ref (He.ga K x)) "__init__" = some (some (.ref (He.ma K (He.ga K x) "__init__")))
 ty : sR K (.ref (He.ma K (He.ga K x) "__init__")) = some (.type "function")
 glo : mg x = some (.ref (He.ga K x))
 rd : XfC K (He.ga K x)
 no : ∀ f ∈ fs, iE K (.ref (He.ga K x)) f = some none
theorem GH {K : aC} {mg : Str -> Option Value} {x : Str} {fs : List Str} (h : xaB K x fs = true) (g : mg x = some (.ref (He.ga K x))) : XaF K mg x fs := by
 obtain ⟨h1, h⟩ := He.ba h;obtain ⟨h2, h⟩ := He.ba h;obtain ⟨h3, h⟩ := He.ba h;obtain ⟨h4, h⟩ := He.ba h;obtain ⟨h5, h⟩ := He.ba h;obtain ⟨h6, h⟩ := He.ba h;obtain ⟨h7, h⟩ := He.ba h;obtain ⟨h8, h9⟩ := He.ba h;exact ⟨⟨JT h1, of_decide_eq_true h2, of_decide_eq_true h3, of_decide_eq_true h4, h5⟩, of_decide_eq_true h6, of_decide_eq_true h7, g, xfB_ok h8, fun f hf => of_decide_eq_true (bZ.mp h9 f hf)⟩
section
variable {P : Program} {w : World} {K : aC} {mg : Str -> Option Value} {base : Heap}
theorem GU {C : Addr} {f a b : Str} : ∀ vs H Q E, Lo C f vs H Q E -> vs.length = [a, b].length := fun vs H Q E ⟨_, _, e, _⟩ => by rw [e]; rfl
theorem GT {C : Addr} {f g a b c : Str} : ∀ vs H Q E, Ln C f g vs H Q E -> vs.length = [a, b, c].length := fun vs H Q E ⟨_, _, _, e, _⟩ => by rw [e]; rfl
theorem Gy {x m q : Str} {fs : List Str} {st : Stmt} {N ps : List Str} {k : Nat} {sp : Sp} (T : XaF K mg x fs) (F : J1 K x "__init__" q st) (S : FnScope N ps (defScope st)) (len : ∀ vs H Q E, sp vs H Q E -> vs.length = ps.length)
  (bnd : ∀ (kV doc pm : Value) (an : Option Addr) (cdv ct : Value) (us : List Value), us.length = ps.length -> bindArgs (gM "__init__" q (defArgs st) (defBody st) (defScope st) .none kV doc pm an cdv ct) ⟨us, []⟩ = pure (ps.zip us))
  (hbody : ∀ (cdv : Value) (A : Around) (outer : List Env) (s : Shared) (H : Hp) (vs : List V) (Q : VK) (E : XK), Room k (A.deeper (envOfC q (defScope st) s.heap.objs.size (He.ma K (He.ga K x) "__init__") cdv)) -> sp vs H Q E ->
   ∃ t, PSs (cxOf CX0 P w K mg base N q (defScope st) (He.ma K (He.ga K x) "__init__") cdv A outer s H E).nox (defBody st) t /\ t { nx := fun _ H' => Q .non H', rt := Q } (start N vs) H) : XcA P w K mg base (k + 1) x ps sp := by
 obtain ⟨fd, F⟩ := F;refine ⟨T.cls, T.ini, T.ty, ⟨fd, FunD.ok F S len fun cdv A outer s H vs Q E hr hsp => ?_, F.bindsN bnd⟩, T.glo⟩
 obtain ⟨t, h, q⟩ := hbody cdv A outer s H vs Q E hr hsp;exact ⟨t, h.nox, q⟩
end
section
variable {X : Cx} {W : WX} {e a b c o i : Expr} {es rest : List Expr} {pos p q p2 tpos apos cpos pos' np : Pos} {x y z f mn C : Str} {K : aC} {ma mb mc mo mx : FE} {mas : FA} {B : Addr -> Prop} {φ φ' : List Addr} {S S' : aO} {H H' : Hp} {σ : L2.St} {Q : VK} {m n : FS} {D : Ends} {ps : List Str} {md : FD} {j k : Nat}
def L0 (n : Nat) : List PH.D := (dG n).map fun (k : Nat) => PH.D.int (((n : Nat) : Int) - 1 - (k : Int))
def M4 (a : FE) : FI := fun ρ S => (a ρ S).bind fun x S1 => match x with
 | .dat (.int j) => if -(2 ^ 62) <= j /\ j < 2 ^ 62 then .ok (L0 j.toNat) S1 else .stuck
 | _ => .stuck
end
theorem rd_X1 {K : aC} {mg : Str -> Option Value} {x f : Str} {fs : List Str} {a : Addr} {y : V} {H : Hp} {Q : VK} {D : Ends} (T : XaF K mg x fs) (hf : f ∈ fs) (ha : H a = some (exo a (He.ga K x) none)) (hD : ∀ σ H, D.nx σ H = Q .non H) (h : ∀ dx, H dx = none -> dx ≠ a -> Q .non (upd (upd H dx (exd dx [(f, y)])) a (exo a (He.ga K x) (some dx)))) :
  tOst K f (AM 0) (AM 1) D [some (.ref a), some y] H := ⟨a, He.ga K x, rfl, T.cls, T.no f hf, .inl ⟨ha, fun dx n ne => by rw [hD]; exact h dx n ne⟩⟩
theorem rd_X2 {K : aC} {mg : Str -> Option Value} {x f g : Str} {fs : List Str} {a : Addr} {y z : V} {H : Hp} {Q : VK} {D : Ends} (T : XaF K mg x fs) (hf : f ∈ fs) (hg : g ∈ fs) (ha : H a = some (exo a (He.ga K x) none)) (hD : ∀ σ H, D.nx σ H = Q .non H) (h : ∀ dx, H dx = none -> dx ≠ a -> Q .non (upd (upd (upd H dx (exd dx [(f, y)])) a (exo a (He.ga K x) (some dx))) dx (exd dx [(g, z), (f, y)]))) :
  tSeq (tOst K f (AM 0) (AM 1)) (tOst K g (AM 0) (AM 2)) D [some (.ref a), some y, some z] H :=
 ⟨a, He.ga K x, rfl, T.cls, T.no f hf, .inl ⟨ha, fun dx n ne => ⟨a, He.ga K x, rfl, T.cls, T.no g hg, .inr ⟨dx, [(f, y)], upd_same, by rw [upd_ne ne, upd_same], by simp, by rw [hD]; exact h dx n ne⟩⟩⟩⟩
theorem Ar {k : Nat} {A : Around} (r : Room k A) : A.units + 65 < cLine := by have := r.un; omega
section
variable {α β : Type} {a b c o i e : FE} {r : FA} {t u : FT} {m n : FS} {ρ : Ev} {S : aO} {x y z : Vl} {f g : Vl -> Vl -> aO -> Res Vl} {h : Vl -> aO -> Res Vl} {md : FD}
theorem As {d : α} {k : α -> aO -> Res β} : (Res.ok d S).bind k = k d S := rfl
theorem Dz {x : Er} {k : α -> aO -> Res β} : (Res.err x S : Res α).bind k = .err x S := rfl
theorem zN {d : α} {k : α -> aO -> Out} : (Res.ok d S).toS ρ k = k d S := rfl
theorem Fg {x : Er} {k : α -> aO -> Out} : (Res.err x S : Res α).toS ρ k = .err x ρ S := rfl
theorem LP {k : Nat} : aD k ρ S = (match lk ρ k with | some d => .ok d S | none => .stuck) := rfl
theorem g_c {d : D} : mC d ρ S = .ok (.dat d) S := rfl
def kOp1 (f : Vl -> Vl -> aO -> Res Vl) (b : FE) (ρ : Ev) (x : Vl) (S : aO) : Res Vl := (b ρ S).bind (f x)
theorem g_op : bC f a b ρ S = (a ρ S).bind (kOp1 f b ρ) := rfl
theorem g_op1 : kOp1 f b ρ x S = (b ρ S).bind (f x) := rfl
theorem g_1 : m1 h a ρ S = (a ρ S).bind h := rfl
theorem g_B : mB a ρ S = (a ρ S).bind unB := rfl
theorem g_unB {k : Bool} : unB (.dat (.bl k)) S = .ok k S := rfl
theorem MY : fD a ρ S = (a ρ S).bind yD := rfl
def MM (u : FT) (ρ : Ev) (c : Bool) (S : aO) : Res Bool := if c = true then u ρ S else .ok false S
def kOr (u : FT) (ρ : Ev) (c : Bool) (S : aO) : Res Bool := if c = true then .ok true S else u ρ S
def kNot (c : Bool) (S : aO) : Res Bool := .ok (!c) S
theorem g_and : vP t u ρ S = (t ρ S).bind (MM u ρ) := rfl
theorem g_or : uC t u ρ S = (t ρ S).bind (kOr u ρ) := rfl
theorem g_not : mM t ρ S = (t ρ S).bind kNot := rfl
theorem Hl : MM u ρ true S = u ρ S := rfl
theorem Hm : MM u ρ false S = .ok false S := rfl
theorem Jy : kOr u ρ true S = .ok true S := rfl
theorem Jz : kOr u ρ false S = u ρ S := rfl
theorem Mq {c : Bool} : kNot c S = .ok (!c) S := rfl
def HS (b : FE) (ρ : Ev) (x : Vl) (S : aO) : Res Vl := match x with
 | .dat (.bl c) => if c = true then b ρ S else .ok (.dat (.bl false)) S
 | _ => .stuck
def MI (b : FE) (ρ : Ev) (x : Vl) (S : aO) : Res Vl := match x with
 | .dat (.bl c) => if c = true then .ok (.dat (.bl true)) S else b ρ S
 | _ => .stuck
theorem N3 : qJ a b ρ S = (a ρ S).bind (HS b ρ) := rfl
theorem g_orV : M6 a b ρ S = (a ρ S).bind (MI b ρ) := rfl
theorem Fl : HS b ρ (.dat (.bl true)) S = b ρ S := rfl
theorem Fm : HS b ρ (.dat (.bl false)) S = .ok (.dat (.bl false)) S := rfl
theorem Hj : MI b ρ (.dat (.bl true)) S = .ok (.dat (.bl true)) S := rfl
theorem Hk : MI b ρ (.dat (.bl false)) S = b ρ S := rfl
def kNV (k : Bool) (S : aO) : Res Vl := .ok (.dat (.bl (!k))) S
def LH (x : Vl) (S : aO) : Res Vl := (yD x S).bind kNV
theorem Mh : H9 a ρ S = (a ρ S).bind LH := rfl
theorem K5 : LH x S = (yD x S).bind kNV := rfl
theorem g_kNV {k : Bool} : kNV k S = .ok (.dat (.bl (!k))) S := rfl
def Ee (b : FE) (ρ : Ev) (x : Vl) (k : Bool) (S : aO) : Res Vl := if k = true then .ok x S else b ρ S
def kOrT (b : FE) (ρ : Ev) (x : Vl) (S : aO) : Res Vl := (yD x S).bind (Ee b ρ x)
theorem g_orT : M7 a b ρ S = (a ρ S).bind (kOrT b ρ) := rfl
theorem Mu : kOrT b ρ x S = (yD x S).bind (Ee b ρ x) := rfl
theorem Ho : Ee b ρ x true S = .ok x S := rfl
theorem Hq : Ee b ρ x false S = b ρ S := rfl
theorem Hg {k : Bool} : yD (.dat (.bl k)) S = .ok k S := rfl
def Jg (g : Vl -> Vl -> aO -> Res Vl) (c : FE) (ρ : Ev) (y z : Vl) (S : aO) : Res Vl := match z with
 | .dat (.bl k) => if k = true then (c ρ S).bind (g y) else .ok (.dat (.bl false)) S
 | _ => .stuck
def MK (f g : Vl -> Vl -> aO -> Res Vl) (c : FE) (ρ : Ev) (x y : Vl) (S : aO) : Res Vl := (f x y S).bind (Jg g c ρ y)
def kCh1 (f g : Vl -> Vl -> aO -> Res Vl) (b c : FE) (ρ : Ev) (x : Vl) (S : aO) : Res Vl := (b ρ S).bind (MK f g c ρ x)
theorem KD : pR f g a b c ρ S = (a ρ S).bind (kCh1 f g b c ρ) := rfl
theorem g_ch1 : kCh1 f g b c ρ x S = (b ρ S).bind (MK f g c ρ x) := rfl
theorem g_ch2 : MK f g c ρ x y S = (f x y S).bind (Jg g c ρ y) := rfl
theorem KE : Jg g c ρ y (.dat (.bl true)) S = (c ρ S).bind (g y) := rfl
theorem KF : Jg g c ρ y (.dat (.bl false)) S = .ok (.dat (.bl false)) S := rfl
def kIf (a b : FE) (ρ : Ev) (c : Bool) (S : aO) : Res Vl := if c = true then a ρ S else b ρ S
theorem g_if : mIf t a b ρ S = (t ρ S).bind (kIf a b ρ) := rfl
theorem K0 : kIf a b ρ true S = a ρ S := rfl
theorem K1 : kIf a b ρ false S = b ρ S := rfl
theorem LQ : aJ ρ S = .ok [] S := rfl
def Dl (x : Vl) (xs : List Vl) (S : aO) : Res (List Vl) := .ok (x :: xs) S
def HP (r : FA) (ρ : Ev) (x : Vl) (S : aO) : Res (List Vl) := (r ρ S).bind (Dl x)
theorem I6 : aB a r ρ S = (a ρ S).bind (HP r ρ) := rfl
theorem Em : HP r ρ x S = (r ρ S).bind (Dl x) := rfl
theorem El {xs : List Vl} : Dl x xs S = .ok (x :: xs) S := rfl
def BZ (cl : Bool) (xs : List Vl) (S : aO) : Res Vl := match tP xs with
 | some ds => if ds.length <= sizeLine then newL cl ds S else .stuck
 | none => .stuck
def kTup (xs : List Vl) (S : aO) : Res Vl := match tP xs with
 | some ds => if ds.length <= sizeLine then .ok (.dat (.tup ds)) S else .stuck
 | none => .stuck
theorem g_lst {cl : Bool} : cM cl r ρ S = (r ρ S).bind (BZ cl) := rfl
theorem g_tup : bW r ρ S = (r ρ S).bind kTup := rfl
theorem E5 : tP [] = some [] := rfl
theorem Ca {d : D} {xs : List Vl} : tP (.dat d :: xs) = (match tP xs with | some ds => some (d :: ds) | none => none) := rfl
theorem kTup0 : kTup [] S = .ok (.dat (.tup [])) S := rfl
theorem kTup1 {d : D} : kTup [.dat d] S = .ok (.dat (.tup [d])) S := rfl
theorem kTup2 {d e : D} : kTup [.dat d, .dat e] S = .ok (.dat (.tup [d, e])) S := rfl
theorem kTup3 {d e f : D} : kTup [.dat d, .dat e, .dat f] S = .ok (.dat (.tup [d, e, f])) S := rfl
theorem kTup4 {d e f g : D} : kTup [.dat d, .dat e, .dat f, .dat g] S = .ok (.dat (.tup [d, e, f, g])) S := rfl
theorem kLst0 {cl : Bool} : BZ cl [] S = newL cl [] S := rfl
theorem kLst1 {cl : Bool} {d : D} : BZ cl [.dat d] S = newL cl [d] S := rfl
theorem kLst2 {cl : Bool} {d e : D} : BZ cl [.dat d, .dat e] S = newL cl [d, e] S := rfl
theorem kLst3 {cl : Bool} {d e f : D} : BZ cl [.dat d, .dat e, .dat f] S = newL cl [d, e, f] S := rfl
theorem Mj {ds : List D} : newL false ds S = .ok (.dat (.lst ds)) S := rfl
theorem Mi {ds : List D} : newL true ds S = .ok (.cel S.length) (S ++ [.lst ds]) := rfl
theorem IC : bA md r ρ S = (r ρ S).bind md := rfl
def MD (cl : Bool) (x : Vl) (lo : Option Int) (hi : Option Int) (S : aO) : Res Vl := LW cl x lo hi S
def ME (cl : Bool) (h : FO) (ρ : Ev) (x : Vl) (lo : Option Int) (S : aO) : Res Vl := (h ρ S).bind (MD cl x lo)
def kSl0 (cl : Bool) (l h : FO) (ρ : Ev) (x : Vl) (S : aO) : Res Vl := (l ρ S).bind (ME cl h ρ x)
theorem g_sl {cl : Bool} {l h : FO} : Iz cl a l h ρ S = (a ρ S).bind (kSl0 cl l h ρ) := rfl
theorem g_sl0 {cl : Bool} {l h : FO} : kSl0 cl l h ρ x S = (l ρ S).bind (ME cl h ρ x) := rfl
theorem g_sl1 {cl : Bool} {h : FO} {lo : Option Int} : ME cl h ρ x lo S = (h ρ S).bind (MD cl x lo) := rfl
theorem g_sl2 {cl : Bool} {lo hi : Option Int} : MD cl x lo hi S = LW cl x lo hi S := rfl
theorem g_noP : AJ ρ S = .ok none S := rfl
def LG (x : Vl) (S : aO) : Res (Option Int) := match x with
 | .dat (.int i) => .ok (some i) S
 | _ => .stuck
theorem Mg : sW a ρ S = (a ρ S).bind LG := rfl
theorem K4 {i : Int} : LG (.dat (.int i)) S = .ok (some i) S := rfl
def Jf (x : Vl) (S : aO) : Res Vl := match x with
 | .cel n => (match S[n]? with
  | some (.lst ds) => .ok (.dat (.lst ds)) (S.set n .dead)
  | _ => .stuck)
 | _ => .stuck
theorem g_frz : vO a ρ S = (a ρ S).bind Jf := rfl
theorem pW {n : Nat} {ds : List D} (h : S[n]? = some (.lst ds)) : Jf (.cel n) S = .ok (.dat (.lst ds)) (S.set n .dead) := by simp only [Jf, h]
def ML (b : FE) (ρ : Ev) (x : Vl) (S : aO) : Res Vl := match kU S x with
 | some _ => (b ρ S).bind (Bm x)
 | none => .stuck
theorem g_app : sU a b ρ S = (a ρ S).bind (ML b ρ) := rfl
theorem lA {n : Nat} {ds : List D} (h : S[n]? = some (.lst ds)) : ML b ρ (.cel n) S = (b ρ S).bind (Bm (.cel n)) := by simp only [ML, kU, h]
theorem lZ {n : Nat} {ds : List D} {d : D} (h : S[n]? = some (.lst ds)) (hl : ds.length < sizeLine) : Bm (.cel n) (.dat d) S = .ok (.dat .non) (S.set n (.lst (ds ++ [d]))) := by simp only [Bm, h, hl, if_true]
def Out.seq (o : Out) (n : FS) : Out := match o with
 | .next ρ S => n ρ S
 | o => o
theorem Hh : aT m n ρ S = (m ρ S).seq n := rfl
theorem Dw : (Out.next ρ S).seq n = n ρ S := rfl
theorem Fh {d : Vl} : (Out.ret d S).seq n = .ret d S := rfl
theorem Fi {x : Er} : (Out.err x ρ S).seq n = .err x ρ S := rfl
theorem Fk : (Out.brk ρ S).seq n = .brk ρ S := rfl
theorem Fj : (Out.cnt ρ S).seq n = .cnt ρ S := rfl
theorem Ma : bP ρ S = .next ρ S := rfl
def MF (d : Vl) (S : aO) : Out := .ret d S
theorem g_ret : cC a ρ S = (a ρ S).toS ρ MF := rfl
theorem Mr {d : Vl} : MF d S = .ret d S := rfl
def LL (ρ : Ev) (d : Vl) (S : aO) : Out := .next ρ S
theorem N2 : kY a ρ S = (a ρ S).toS ρ (LL ρ) := rfl
theorem K8 {d : Vl} : LL ρ d S = .next ρ S := rfl
def MJ (m n : FS) (ρ : Ev) (c : Bool) (S : aO) : Out := if c = true then m ρ S else n ρ S
theorem g_ifS : cN t m n ρ S = (t ρ S).toS ρ (MJ m n ρ) := rfl
theorem Hs : MJ m n ρ true S = m ρ S := rfl
theorem Ht : MJ m n ρ false S = n ρ S := rfl
def Jh (t : Tg) (ρ : Ev) (d : Vl) (S : aO) : Out := match lP t d ρ with
 | some ρ' => .next ρ' S
 | none => .stuck
theorem g_asg {t : Tg} : bS a t ρ S = (a ρ S).toS ρ (Jh t ρ) := rfl
theorem Mx {k : Nat} {d : Vl} : Jh (.nm k) ρ d S = .next (ρ.set k (some d)) S := rfl
theorem KA {i j : Nat} {d e : D} : Jh (.tp [i, j]) ρ (.dat (.tup [d, e])) S = .next ((ρ.set i (some (.dat d))).set j (some (.dat e))) S := rfl
theorem K9 {i j k : Nat} {d e f : D} : Jh (.tp [i, j, k]) ρ (.dat (.tup [d, e, f])) S = .next (((ρ.set i (some (.dat d))).set j (some (.dat e))).set k (some (.dat f))) S := rfl
def kFor (t : Tg) (m : FS) (ρ : Ev) (ds : List D) (S : aO) : Out := loop t m ds ρ S
theorem g_for {mi : FI} {t : Tg} : kW mi t m ρ S = (mi ρ S).toS ρ (kFor t m ρ) := rfl
theorem Mw {t : Tg} {ds : List D} : kFor t m ρ ds S = loop t m ds ρ S := rfl
def uD (cl : Bool) (t : Tg) (u : FT) (e : FE) (ρ : Ev) (vs : List Nat) (ds : List D) (S : aO) : Res Vl := if ds.length <= sizeLine then (match kX t u e (wipeE ρ vs) ds S with
 | .ok es S2 => newL cl es S2
 | _ => .stuck) else .stuck
theorem g_lc {cl : Bool} {mi : FI} {t : Tg} {vs : List Nat} : xV cl mi t u e vs ρ S = (mi ρ S).bind (uD cl t u e ρ vs) := rfl
theorem Md : jY a ρ S = (a ρ S).bind itemsOf := rfl
theorem Hx {ds : List D} : itemsOf (.dat (.lst ds)) S = .ok ds S := rfl
theorem Hw {ds : List D} : itemsOf (.dat (.tup ds)) S = .ok ds S := rfl
def zL (x : Vl) (S : aO) : Res (List D) := match x with
 | .dat (.int j) => if -(2 ^ 62) <= j /\ j < 2 ^ 62 then .ok (gN 0 j.toNat) S else .stuck
 | _ => .stuck
theorem Me : kH a ρ S = (a ρ S).bind zL := rfl
theorem gG {j : Int} (h1 : -(2 ^ 62) <= j) (h2 : j < 2 ^ 62) : zL (.dat (.int j)) S = .ok (gN 0 j.toNat) S := by unfold zL; exact if_pos ⟨h1, h2⟩
def kRev1 (x : Vl) (S : aO) : Res (List D) := match x with
 | .dat (.int j) => if -(2 ^ 62) <= j /\ j < 2 ^ 62 then .ok (L0 j.toNat) S else .stuck
 | _ => .stuck
theorem Ju : M4 a ρ S = (a ρ S).bind kRev1 := rfl
def LK (x : Vl) (S : aO) : Res (List D) := match x with
 | .dat (.lst ds) => .ok (bL 0 ds) S
 | _ => .stuck
theorem N1 : qI a ρ S = (a ρ S).bind LK := rfl
theorem K7 {ds : List D} : LK (.dat (.lst ds)) S = .ok (bL 0 ds) S := rfl
def Out.wipe (o : Out) (is : List Nat) : Out := match o with
 | .next ρ S => .next (wipeE ρ is) S
 | .cnt ρ S => .cnt (wipeE ρ is) S
 | .brk ρ S => .brk (wipeE ρ is) S
 | o => o
theorem MV {is : List Nat} : eL is m ρ S = (m ρ S).wipe is := by unfold eL Out.wipe; cases m ρ S <;> rfl
theorem CU {is : List Nat} : (Out.next ρ S).wipe is = .next (wipeE ρ is) S := rfl
theorem Dq {is : List Nat} {d : Vl} : (Out.ret d S).wipe is = .ret d S := rfl
theorem Ds {is : List Nat} {x : Er} : (Out.err x ρ S).wipe is = .err x ρ S := rfl
theorem N4 {cl : Bool} {i j : Int} : cZ cl (.dat (.int i)) (.dat (.int j)) S = .ok (.dat (.int (i + j))) S := rfl
theorem MZ {i j : Int} : rP (.dat (.int i)) (.dat (.int j)) S = .ok (.dat (.int (i - j))) S := rfl
theorem mX {i j : Int} (h : 0 < j) : vX (.dat (.int i)) (.dat (.int j)) S = .ok (.dat (.int (i % j))) S := if_pos h
theorem Dx {i j : Int} (h : IntMulOk i j) : E9 (.dat (.int i)) (.dat (.int j)) S = .ok (.dat (.int (i * j))) S := if_pos h
theorem xX {i j : Int} (h : CDiv i j) : qK (.dat (.int i)) (.dat (.int j)) S = .ok (.dat (.int (i / j))) S := if_pos h
theorem g_ltI {i j : Int} : DF (.dat (.int i)) (.dat (.int j)) S = .ok (.dat (.bl (decide (i < j)))) S := rfl
theorem g_leI {i j : Int} : IT (.dat (.int i)) (.dat (.int j)) S = .ok (.dat (.bl (decide (i <= j)))) S := rfl
theorem g_gtI {i j : Int} : DG (.dat (.int i)) (.dat (.int j)) S = .ok (.dat (.bl (decide (j < i)))) S := rfl
theorem g_geI {i j : Int} : fGe (.dat (.int i)) (.dat (.int j)) S = .ok (.dat (.bl (decide (j <= i)))) S := rfl
theorem g_eqI {i j : Int} : gR (.dat (.int i)) (.dat (.int j)) S = .ok (.dat (.bl (decide (i = j)))) S := rfl
theorem g_neI {i j : Int} : vW (.dat (.int i)) (.dat (.int j)) S = .ok (.dat (.bl (!decide (i = j)))) S := rfl
theorem g_eqS {i j : Str} : gR (.dat (.str i)) (.dat (.str j)) S = .ok (.dat (.bl (decide (i = j)))) S := rfl
theorem g_neS {i j : Str} : vW (.dat (.str i)) (.dat (.str j)) S = .ok (.dat (.bl (!decide (i = j)))) S := rfl
theorem g_eqB {i j : Bool} : gR (.dat (.bl i)) (.dat (.bl j)) S = .ok (.dat (.bl (i == j))) S := by cases i <;> cases j <;> rfl
theorem g_neB {i j : Bool} : vW (.dat (.bl i)) (.dat (.bl j)) S = .ok (.dat (.bl (!(i == j)))) S := by cases i <;> cases j <;> rfl
theorem g_neg {i : Int} : oG (.dat (.int i)) S = .ok (.dat (.int (-i))) S := rfl
theorem My {i : Int} : xJ (.dat (.int i)) S = .ok (.dat (.int i)) S := rfl
theorem Mz {k : Bool} : xJ (.dat (.bl k)) S = .ok (.dat (.int (if k then 1 else 0))) S := rfl
theorem Mo {xs : List D} : eP (.dat (.tup xs)) S = .ok (.dat (.int xs.length)) S := rfl
theorem Mp {xs : List D} : eP (.dat (.lst xs)) S = .ok (.dat (.int xs.length)) S := rfl
theorem Dy {n : Nat} {xs : List D} (h : S[n]? = some (.lst xs)) : eP (.cel n) S = .ok (.dat (.int xs.length)) S := by simp only [eP, kU, h]
theorem CV {xs : List D} {k : Int} {d : D} (h : atI xs k = some d) : cL (.dat (.tup xs)) (.dat (.int k)) S = .ok (.dat d) S := by simp only [cL, h]
theorem iX {xs : List D} {k : Int} {d : D} (h : atI xs k = some d) : cL (.dat (.lst xs)) (.dat (.int k)) S = .ok (.dat d) S := by simp only [cL, kU, h]
theorem Ek {n : Nat} {xs : List D} {k : Int} {d : D} (h : S[n]? = some (.lst xs)) (h2 : atI xs k = some d) : cL (.cel n) (.dat (.int k)) S = .ok (.dat d) S := by simp only [cL, kU, h, h2]
theorem ID {cl : Bool} {xs ys : List D} (h : xs.length + ys.length <= sizeLine) : cZ cl (.dat (.tup xs)) (.dat (.tup ys)) S = .ok (.dat (.tup (xs ++ ys))) S := if_pos h
theorem jO {cl : Bool} {xs ys : List D} (h : xs.length + ys.length <= sizeLine) : cZ cl (.dat (.lst xs)) (.dat (.lst ys)) S = newL cl (xs ++ ys) S := by simp only [cZ, kU, h, if_true]
theorem CZ {neg : Bool} : IU neg x (.dat .non) S = .ok (.dat (.bl (if neg then !(isNon x) else isNon x))) S := rfl
theorem dM {α : Type} {xs : List α} {k : Int} {n : Nat} (h : k = (n : Int)) : atI xs k = xs[n]? := by
 subst h;unfold atI ixN
 by_cases hl : n < xs.length
 ·rw [if_pos (by omega), if_pos (by omega)]; simp
 ·rw [if_pos (by omega), if_neg (by omega)]
  simp [qR hl]
theorem LO : lS ρ S = .ok true S := rfl
theorem MW {xs : List D} : yD (.dat (.lst xs)) S = .ok (!xs.isEmpty) S := rfl
theorem MX {i : Int} : yD (.dat (.int i)) S = .ok (i != 0) S := rfl
theorem CW {xs : List D} : isNon (.dat (.tup xs)) = false := rfl
theorem CY : isNon (.dat .non) = true := rfl
theorem g_slT {cl : Bool} {xs : List D} {lo hi : Option Int} : LW cl (.dat (.tup xs)) lo hi S = .ok (.dat (.tup (cutD xs lo hi))) S := rfl
theorem g_slL {cl : Bool} {xs : List D} {lo hi : Option Int} : LW cl (.dat (.lst xs)) lo hi S = newL cl (cutD xs lo hi) S := rfl
theorem g_slS {cl : Bool} {ns : List Int} {lo hi : Option Int} : LW cl (.scr ns) lo hi S = newL cl (cutD (ns.map D.int) lo hi) S := rfl
theorem Jx {cl : Bool} {xs : List D} : rQ cl (.dat (.lst xs)) S = newL cl xs S := rfl
theorem Jw {cl : Bool} {xs : List D} : rQ cl (.dat (.tup xs)) S = newL cl xs S := rfl
theorem Hf {xs : List D} : fTuple (.dat (.lst xs)) S = .ok (.dat (.tup xs)) S := rfl
end
section
variable {a b o : FE} {r : FA} {m n : FS} {ρ : Ev} {S : aO} {x y : Vl} {md : FD} {C f : Str} {ns : List Str}
theorem Jv : M5 C ρ S = .err ⟨C, [], []⟩ ρ S := rfl
def BY (C : Str) (ns : List Str) (ρ : Ev) (xs : List Vl) (S : aO) : Out := match tP xs with
 | some ds => if ds.length = ns.length then .err ⟨C, ns, ds.reverse⟩ ρ S else .stuck
 | none => .stuck
theorem Hi : eV C ns r ρ S = (r ρ S).toS ρ (BY C ns ρ) := rfl
theorem Fo {f : Str} {d : D} : BY C [f] ρ [.dat d] S = .err ⟨C, [f], [d]⟩ ρ S := rfl
theorem Fn {f g : Str} {d e : D} : BY C [f, g] ρ [.dat d, .dat e] S = .err ⟨C, [f, g], [e, d]⟩ ρ S := rfl
def BX (C f : Str) (ρ : Ev) (d x : Vl) (S : aO) : Out := match JC S C f x d with
 | some S3 => .next ρ S3
 | none => .stuck
def LF (C f : Str) (o : FE) (ρ : Ev) (d : Vl) (S : aO) : Out := (o ρ S).toS ρ (BX C f ρ d)
theorem Mb : H8 C f o a ρ S = (a ρ S).toS ρ (LF C f o ρ) := rfl
theorem K2 {d : Vl} : LF C f o ρ d S = (o ρ S).toS ρ (BX C f ρ d) := rfl
theorem Hn {n : Nat} {d : Vl} {fs : List (Str × Vl)} (h : S[n]? = some (.ins C fs)) (hl : fs.length < 1000) : BX C f ρ d (.cel n) S = .next ρ (S.set n (.ins C (Ae f d fs))) := by simp only [BX, JC, h, true_and, hl, if_true]
def Ef (kp : Bool) (C : Str) (md : FD) (ds : List Vl) (S : aO) : Res Vl := made kp S.length (md (.cel S.length :: ds) (S ++ [.ins C []]))
theorem Mn {kp : Bool} : Eb kp C md r ρ S = (r ρ S).bind (Ef kp C md) := rfl
def Dk (md : FD) (x : Vl) (ds : List Vl) (S : aO) : Res Vl := md (x :: ds) S
def LJ (C f : Str) (md : FD) (r : FA) (ρ : Ev) (x : Vl) (S : aO) : Res Vl := if lT S C f x = true then (r ρ S).bind (Dk md x) else .stuck
theorem Mm : zJ C f md o r ρ S = (o ρ S).bind (LJ C f md r ρ) := rfl
theorem pV (h : lT S C f x = true) : LJ C f md r ρ x S = (r ρ S).bind (Dk md x) := if_pos h
theorem Hr {ds : List Vl} : Dk md x ds S = md (x :: ds) S := rfl
def HM (C f : Str) (x : Vl) (S : aO) : Res Vl := match Cd S C f x with
 | some d => .ok d S
 | none => .stuck
theorem g_fld : HA C f o ρ S = (o ρ S).bind (HM C f) := rfl
theorem K6 {ns : List Str} {xs : List D} : HM C f (.dat (.ins C ns xs)) S = (match (ns.zip xs).lookup f with | some d => .ok (.dat d) S | none => .stuck) := by
 simp only [HM, Cd, if_true];cases (ns.zip xs).lookup f <;> rfl
def Out.tryA (o : Out) (cs : List Str) (c : Str) (k : Nat) (its : List XIt) : Out := match o with
 | .err e ρ' S' => if (e.cls ∈ cs /\ c ∈ cs) /\ k < ρ'.length then (if e.cls = c then (match Jm e its with
   | some ds => if ds.length <= sizeLine then .ret (.dat (.tup ds)) S' else .stuck
   | none => .stuck) else .err e ρ' S') else .stuck
 | o => o
theorem Du {cs : List Str} {c : Str} {k : Nat} {its : List XIt} : Am cs m c k its ρ S = (m ρ S).tryA cs c k its := by unfold Am Out.tryA; cases m ρ S <;> rfl
theorem wU {cs : List Str} {c : Str} {k : Nat} {its : List XIt} : (Out.next ρ S).tryA cs c k its = .next ρ S := rfl
theorem Dt {cs : List Str} {c : Str} {k : Nat} {its : List XIt} {d : Vl} : (Out.ret d S).tryA cs c k its = .ret d S := rfl
end
theorem dU : ((0 : Nat) : Int) = 0 := rfl
theorem uF : ((1 : Nat) : Int) = 1 := rfl
theorem KO : ((2 : Nat) : Int) = 2 := rfl
theorem KN : ((3 : Nat) : Int) = 3 := rfl
theorem KM : ((4 : Nat) : Int) = 4 := rfl
theorem KL : ((5 : Nat) : Int) = 5 := rfl
theorem KJ : ((6 : Nat) : Int) = 6 := rfl
theorem KI : ((7 : Nat) : Int) = 7 := rfl
theorem KH : ((8 : Nat) : Int) = 8 := rfl
theorem KG : ((9 : Nat) : Int) = 9 := rfl
theorem IB : ((10 : Nat) : Int) = 10 := rfl
theorem I9 : ((11 : Nat) : Int) = 11 := rfl
theorem I8 : ((12 : Nat) : Int) = 12 := rfl
theorem I7 : ((13 : Nat) : Int) = 13 := rfl
theorem str_inj {a b : String} (h : Str.ofString a = Str.ofString b) : a = b := by
 rw [Str.ofString_eq_toList, Str.ofString_eq_toList] at h
 injection h with h
 have h2 := congrArg Array.toList h;simp only at h2;have : ∀ {l m : List Char}, l.map Char.toNat = m.map Char.toNat -> l = m := fun {l} => by
  induction l with
  | nil => intro m h; cases m <;> simp at h ⊢
  | cons c l ih =>
   intro m h;cases m with
   | nil => simp at h
   | cons d m =>
    simp only [aN, List.cons.injEq] at h;rw [ih h.2];have : c = d := by
     have := congrArg Char.ofNat h.1
     simpa using this
    rw [this]
 exact String.toList_inj.mp (this h2)
theorem Ll {a b : String} : (Str.ofString a = Str.ofString b) = (a = b) := propext ⟨str_inj, fun h => by rw [h]⟩
theorem walk_x {l : PySem.W.OpenLaw} {n k : Nat} {q : Program} {loose : List Str} {XP : (Str -> Option Value) -> Heap -> Prop} {YP : World -> Heap -> Prop} {d : DefRec} {x : Str} (e1 : l.most = some n) (e2 : n <= sizeLine) (e3 : d.params.defaults = []) (e4 : Room k callerA)
  (e5 : ∀ (w : World) (mg : Str -> Option Value) (fa : Addr) (h : Heap), YP w h -> h.Ns mainGlobals mg -> mg d.name = some (.ref fa) -> ∃ (K : aC) (fd : FuncData) (sp : Sp), K.In h /\ (∀ (s : Shared) (u : Value), BindsTo s fd ⟨[u], []⟩ [(x, u)]) /\
   (∀ (H : Hp) (a : Addr) (ns : List Int), ns.length <= n -> Only H -> SqL K H a (ns.map V.int) -> sp [.ref a] H (fun v _ => v = .bl true) fun _ _ _ => False) /\ ∀ base : Heap, K.In base -> base.Ns mainGlobals mg -> FnOk l.prog w K mg base (L2.CX l.prog w) k fa fd [x] sp) :
  PySem.W.WalkO q loose XP YP l.row.toRowW d [] (fun f vs => PySem.call f vs) :=
 Att.attach_call e1 e3 fun w s0 s1 mg mb fa o pm cd doc a vs ns G Y _ _ _ m1 m2 m3 m4 m5 => by
  obtain ⟨K, fd, sp, KX, hb, hs, hF⟩ := e5 w mg fa _ Y G.T.g m1;refine law_call KX G.T.g G.T.b G.T.builtins G.T.nolimit m5 m2 m3 (lN m4 e2) e4 hF hb (fun H h1 h2 => hs H a ns m4 h1 h2) fun H e s' z => ?_
  obtain ⟨_, _, _, _, _, _, _, _, _, _, _, _, h⟩ := z;exact h
section
variable {X : Cx} {W : WX} {C : Str} {md : FD} {o i a b : Expr} {mo mi ma mb : FE} {pos p : Pos} {j k : Nat} {ps : List Str} {K : aC}
def fGetO (C : Str) (md : FD) (x y : Vl) (S : aO) : Res Vl := if lT S C "" x = true then md [x, y] S else .stuck
def fInO (C : Str) (md : FD) (y x : Vl) (S : aO) : Res Vl := if lT S C "" x = true then Ic (md [x, y] S) else .stuck
def HI (x : Vl) (S : aO) : Res (List PH.D) := match x with
 | .dat (.lst ds) => .ok ds.reverse S
 | _ => .stuck
def mRevL (a : FE) : FI := fun ρ S => (a ρ S).bind HI
def fMin2 (x y : Vl) (S : aO) : Res Vl := match x, y with
 | .dat (.int i), .dat (.int j) => .ok (.dat (.int (if j < i then j else i))) S
 | _, _ => .stuck
theorem Mf {ρ : Ev} {S : aO} : mRevL ma ρ S = (ma ρ S).bind HI := rfl
theorem K3 {S : aO} {ds : List PH.D} : HI (.dat (.lst ds)) S = .ok ds.reverse S := rfl
theorem Ml {S : aO} {x y : Int} : fMin2 (.dat (.int x)) (.dat (.int y)) S = .ok (.dat (.int (if y < x then y else x))) S := rfl
theorem N0 {S : aO} {x y : Vl} (h : lT S C "" x = true) : fGetO C md x y S = md [x, y] S := if_pos h
theorem g_inO {S : aO} {x y : Vl} (h : lT S C "" x = true) : fInO C md y x S = Ic (md [x, y] S) := if_pos h
theorem KR {S : aO} {b : Bool} : Ic (.ok (.dat (.bl b)) S) = .ok (.dat (.bl b)) S := rfl
def An (k : Nat) : FS := fun ρ S => match lk ρ k with
 | some (.cel n) => (match S[n]? with
  | some (.lst ds) => .next (ρ.set k (some (.dat (.lst ds)))) (S.set n .dead)
  | _ => .stuck)
 | _ => .stuck
theorem Gb {σ : L2.St} {k : Nat} {v : Option L2.V} (h : σ[k]? = some v) : σ.set k v = σ := by
 apply lE
 intro i;rw [bD]
 by_cases e : k = i
 ·subst e; rw [if_pos rfl, if_pos (aI.mp h).1, h]
 ·rw [if_neg e]
theorem KS {sts : List Stmt} {m : FS} (k : Nat) (h : PSs X sts (mI X.K W m)) : PSs X sts (mI X.K W (aT (An k) m)) := xZ h fun D σ H h => by
 obtain ⟨B, φ, S, ρ, I, E, f⟩ := h;unfold aT An at f;cases q : lk ρ k with
 | none => rw [q] at f; exact f.elim
 | some d =>
  rw [q] at f;cases d with
  | cel n =>
   dsimp only at f;cases q2 : S[n]? with
   | none => rw [q2] at f; exact f.elim
   | some c =>
    rw [q2] at f;cases c with
    | lst ds =>
     dsimp only at f;obtain ⟨v, h1, a, rfl, h3⟩ := E.2 k _ (Ec q);obtain ⟨vs, h4, l⟩ := I.ok n _ a q2 h3;have X0 := Ext.kill (φ := φ) (S := S) (H := H) (n := n);have nb : ¬ jZ B φ (S.set n .dead) a := I.killed q2 (by simp) h3
     have E1 := (E.ext X0 I).set (d := .dat (.lst ds)) (v := .ref a) ⟨a, vs, rfl, nb, h4, X0.repL I l⟩ k;rw [Gb h1] at E1;exact ⟨B, φ, S.set n .dead, _, I.kill, E1, FinS.ext f X0⟩
    | _ => exact f.elim
  | _ => exact f.elim
theorem Hy {k n : Nat} {ρ : Ev} {S : aO} {ds : List PH.D} (h : lk ρ k = some (.cel n)) (h2 : S[n]? = some (.lst ds)) : An k ρ S = .next (ρ.set k (some (.dat (.lst ds)))) (S.set n .dead) := by simp only [An, h, h2]
end
open AutoSeq1 (wpAny_loadPart')
section
variable {X : Cx} {W : WX} {a : Expr} {ma : FE} {pos p : Pos}
def M8 (a : FE) : FI := fun ρ S => (a ρ S).bind fun x S1 => match x with
 | .dat (.tup ds) => .ok (bL 0 ds) S1
 | _ => .stuck
def HN (x : Vl) (S : aO) : Res (List PH.D) := match x with
 | .dat (.tup ds) => .ok (bL 0 ds) S
 | _ => .stuck
theorem KC {ρ : Ev} {S : aO} : M8 ma ρ S = (ma ρ S).bind HN := rfl
theorem Hu {S : aO} {ds : List PH.D} : HN (.dat (.tup ds)) S = .ok (bL 0 ds) S := rfl
end
section
variable {X : Cx} {W : WX} {e a b c o : Expr} {es rest : List Expr} {pos p q p2 tpos apos cpos : Pos} {x y z C f : Str} {K : aC} {ma mb mc mo me : FE} {mt mu : FT} {mas : FA} {mi mj : FI} {B : Addr -> Prop} {φ φ' : List Addr} {S S' : aO} {H H' : Hp} {σ : L2.St} {Q : VK} {m n : FS} {st : Stmt} {sts : List Stmt} {D : Ends} {t t1 : Tg}
def mLcC (mi : FI) (t : Tg) (vs : List Nat) : FE := fun ρ S => (mi ρ S).bind fun ds S1 => if ds.length <= sizeLine /\ (∀ d ∈ ds, (lP t (.dat d) (wipeE ρ vs)).isSome = true) then .ok (.cels (tQ S1.length ds.length)) (S1 ++ oJ ds.length (.lst [])) else .stuck
def kLcC (t : Tg) (ρ : Ev) (vs : List Nat) (ds : List PH.D) (S : aO) : Res Vl := if ds.length <= sizeLine /\ (∀ d ∈ ds, (lP t (.dat d) (wipeE ρ vs)).isSome = true) then .ok (.cels (tQ S.length ds.length)) (S ++ oJ ds.length (.lst [])) else .stuck
theorem g_lcC {ρ : Ev} {S : aO} {vs : List Nat} : mLcC mi t vs ρ S = (mi ρ S).bind (kLcC t ρ vs) := rfl
theorem Mv {ρ : Ev} {S : aO} {vs : List Nat} {k : Nat} {ds : List PH.D} (h : ds.length <= sizeLine) : kLcC (.nm k) ρ vs ds S = .ok (.cels (tQ S.length ds.length)) (S ++ oJ ds.length (.lst [])) := if_pos ⟨h, fun _ _ => rfl⟩
def MA (md : FD) (dd : PH.D) (as : FA) : FE := fun ρ S => (as ρ S).bind fun ds S1 => md (ds ++ [.dat dd]) S1
def HR (md : FD) (dd : PH.D) (ds : List Vl) (S : aO) : Res Vl := md (ds ++ [.dat dd]) S
theorem KQ {md : FD} {dd : PH.D} {ρ : Ev} {S : aO} : MA md dd mas ρ S = (mas ρ S).bind (HR md dd) := rfl
theorem Hv {md : FD} {dd : PH.D} {ds : List Vl} {S : aO} : HR md dd ds S = md (ds ++ [.dat dd]) S := rfl
def M9 (n : Nat) (md : FD) (as : FA) (a : FE) : FE := fun ρ S => (as ρ S).bind fun ds S1 => if ds.length = n then (a ρ S1).bind fun d S2 => md (ds ++ [d]) S2 else .stuck
def Ba (md : FD) (ds : List Vl) (d : Vl) (S : aO) : Res Vl := md (ds ++ [d]) S
def HQ (n : Nat) (md : FD) (a : FE) (ρ : Ev) (ds : List Vl) (S : aO) : Res Vl := if ds.length = n then (a ρ S).bind (Ba md ds) else .stuck
theorem KP {md : FD} {n : Nat} {ρ : Ev} {S : aO} : M9 n md mas ma ρ S = (mas ρ S).bind (HQ n md ma ρ) := rfl
theorem Fp {md : FD} {ρ : Ev} {S : aO} {x y z : Vl} : HQ 3 md ma ρ [x, y, z] S = (ma ρ S).bind (Ba md [x, y, z]) := rfl
theorem Fq {md : FD} {ds : List Vl} {d : Vl} {S : aO} : Ba md ds d S = md (ds ++ [d]) S := rfl
end
def EV0 := aE @As (aE @Dz (aE @zN (aE @Fg (aE @LP (aE @g_c (aE @g_op (aE @g_op1 (aE @g_1 (aE @g_B (aE @g_unB (aE @MY (aE @g_and (aE @g_or (aE @g_not (aE @Hl (aE @Hm (aE @Jy (aE @Jz (aE @Mq (aE @N3 (aE @g_orV (aE @Fl (aE @Fm (aE @Hj (aE @Hk (aE @Mh (aE @K5 (aE @g_kNV (aE @g_orT (aE @Mu (aE @Ho (aE @Hq (aE @Hg (aE @KD (aE @g_ch1 (aE @g_ch2 (aE @KE (aE @KF (aE @g_if (aE @K0 (aE @K1 (aE @LQ (aE @I6 (aE @Em (aE @El (aE @g_lst (aE @g_tup (aE @E5 (aE @Ca (aE @kTup0 (aE @kTup1 (aE @kTup2 (aE @kTup3 (aE @kTup4 (aE @kLst0 (aE @kLst1 (aE @kLst2 (aE @kLst3 (@Mj)))))))))))))))))))))))))))))))))))))))))))))))))))))))))))
def EV1 := aE @Mi (aE @IC (aE @g_sl (aE @g_sl0 (aE @g_sl1 (aE @g_sl2 (aE @g_noP (aE @Mg (aE @K4 (aE @g_frz (aE @g_app (aE @Hh (aE @Dw (aE @Fh (aE @Fi (aE @Fk (aE @Fj (aE @Ma (aE @g_ret (aE @Mr (aE @N2 (aE @K8 (aE @g_ifS (aE @Hs (aE @Ht (aE @g_asg (aE @Mx (aE @KA (aE @K9 (aE @g_for (aE @Mw (aE @g_lc (aE @Md (aE @Hx (aE @Hw (aE @Me (aE @Ju (aE @N1 (aE @K7 (aE @MV (aE @CU (aE @Dq (aE @Ds (aE @N4 (aE @MZ (aE @g_ltI (aE @g_leI (aE @g_gtI (aE @g_geI (aE @g_eqI (aE @g_neI (aE @g_eqS (aE @g_neS (aE @g_eqB (aE @g_neB (aE @g_neg (aE @My (aE @Mz (aE @Mo (@Mp)))))))))))))))))))))))))))))))))))))))))))))))))))))))))))
def EV2 := aE @CZ (aE @LO (aE @MW (aE @MX (aE @CW (aE @CY (aE @g_slT (aE @g_slL (aE @g_slS (aE @Jx (aE @Jw (aE @Hf (aE @Jv (aE @Hi (aE @Fo (aE @Fn (aE @Mb (aE @K2 (aE @Mn (aE @Mm (aE @Hr (aE @g_fld (aE @K6 (aE @Du (aE @wU (aE @Dt (aE @dU (aE @uF (aE @KO (aE @KN (aE @KM (aE @KL (aE @KJ (aE @KI (aE @KH (aE @KG (aE @IB (aE @I9 (aE @I8 (aE @I7 (aE @Mf (aE @K3 (aE @Ml (aE @N0 (aE @g_inO (aE @KR (aE @Hy (aE @KC (aE @Hu (aE @g_lcC (aE @Mv (aE @KQ (aE @Hv (aE @KP (aE @Fp (aE @Fq (@Ll))))))))))))))))))))))))))))))))))))))))))))))))))))))))
end PH
local macro_rules
 | `(tactic| simp! [$xs,*] $[$l:location]?) => `(tactic| simp (config := { implicitDefEqProofs := false }) only [$xs,*, PH.EV0, PH.EV1, PH.EV2, aP, aR, Bool.not_true, Bool.not_false, eq_self, if_true, if_false, Bool.true_or, Bool.false_or, Bool.or_true, Bool.or_false, hE, DC, Bool.and_false, Bool.false_and, jB, aM, bM, beq_self_eq_true, wK, PH.lk, PH.isTy, PH.fIsi, PH.fIsi2, PH.kindOf, PH.wipeE, decide_true, decide_false, Int.reduceEq, Int.reduceLT, Int.reduceLE, Int.reduceSub, Int.reduceAdd, Int.reduceNeg, Int.reduceToNat, Int.reduceNe, Nat.reduceAdd, Nat.reduceLT, Nat.reduceLeDiff, String.reduceEq, String.reduceBEq] $[$l:location]?)
namespace PH
open PySem PySem.Spec PyProof.Rows L2
section
variable {X : Cx} {W : WX} {e a b c o i : Expr} {es rest : List Expr} {pos pos' p q p2 tpos apos cpos : Pos} {x y z C f : Str} {K : aC} {ma mb mc mo me mi mv : FE} {mt mu : FT} {mas : FA} {B : Addr -> Prop} {φ φ' : List Addr} {S S' : aO} {H H' : Hp} {σ : L2.St} {Q : VK} {m n : FS} {st : Stmt} {sts : List Stmt} {D : Ends} {t t1 : Tg}
def Bl (x y z : Vl) (S : aO) : Res Vl := match x, y, z with
 | .cel n, .dat (.int k), .dat d => (match S[n]? with
  | some (.lst ds) => if ds.length < sizeLine /\ 0 <= k /\ k < 2 ^ 63 then .ok (.dat .non) (S.set n (.lst (ds.take k.toNat ++ [d] ++ ds.drop k.toNat))) else .stuck
  | _ => .stuck)
 | _, _, _ => .stuck
def Jc (a i b : FE) : FE := fun ρ S => (a ρ S).bind fun x S1 => match kU S1 x with
 | some _ => (i ρ S1).bind fun y S2 => (b ρ S2).bind fun z S3 => Bl x y z S3
 | none => .stuck
theorem LU (ha : PE X a (dN X.K W ma)) (hi : PE X i (dN X.K W mi)) (hb : PE X b (dN X.K W mb)) (hs : starEach [i, b] X.env = (false, eval i X.env) :: starEach [b] X.env := by rfl) (hs2 : starEach [b] X.env = (false, eval b X.env) :: starEach [] X.env := by rfl) (hbase : attributeBase a "insert" X.env (eval a X.env) = eval a X.env := by rfl) (hline : (apos.endLine == cpos.line) = true := by rfl)
  (hfew : ((backTo cpos (starEach [i, b] X.env)).all (fun x => !x.1) && (backToKw cpos (keywordEach [] X.env)).all (fun x => x.1.isSome)
   && decide ([i, b].length + ([] : List Keyword).length + (if ([] : List Keyword).isEmpty then 0 else 1) < 30)) = true := by rfl)
  (hpl : (backTo cpos (starEach [b] X.env)).any (·.1) = false := by rfl) : PE X (.Call (.Attribute a "insert" apos) [i, b] [] cpos) (dN X.K W (Jc ma mi mb)) :=
 dF (pe_bm PySem.F.plainAttrs_list PySem.F.slot_list_insert PySem.F.type_list_insert mt_insert ha (pa_cons hi (pa_cons hb pa_nil hs2) hs) hbase hfew hline hs hpl) fun σ H Q h =>
  cJ (k := fun x ρ S1 => match kU S1 x with | some _ => (mi ρ S1).bind fun y S2 => (mb ρ S2).bind fun z S3 => Bl x y z S3 | none => .stuck) h fun B φ S ρ d v H1 I E r f => by
   split at f
   ·rename_i ds q
    refine ⟨Ii (e := d) I r ⟨ds, q⟩, iY (k := fun y S2 => (mb ρ S2).bind fun z S3 => Bl d y z S3) I E f fun φ' S' d2 v2 H2 I2 X2 E2 r2 f2 => iY (k := fun z S3 => Bl d d2 z S3) I2 E2 f2 fun φ3 S3 d3 v3 H3 I3 X3 E3 r3 f3 => ?_⟩
    have r' := (r.ext X2 I).ext X3 I2;have r2' := r2.ext X3 I2;unfold Bl at f3;split at f3
    ·rename_i n k d
     obtain ⟨a, rfl, h1⟩ := r';obtain rfl : v2 = .int k := r2';split at f3
     ·rename_i ds q
      obtain ⟨vs, h2, l⟩ := I3.ok n _ a q h1;split at f3
      ·rename_i hc
       exact ⟨a, vs, k, v3, rfl, rfl, h2, by rw [l.len]; exact hc.1, hc.2.1, hc.2.2, Co (v := .non) (v' := .non) (d' := .dat .non) (vs := vs) I3 q h1 (((l.take _).snoc r3).append (l.drop _)) rfl f3⟩
      ·exact f3.elim
     ·exact f3.elim
    ·exact f3.elim
   ·exact f.elim
end
def HK (b : FE) (ρ : Ev) (x y : Vl) (S : aO) : Res Vl := (b ρ S).bind (Bl x y)
def HL (i b : FE) (ρ : Ev) (x : Vl) (S : aO) : Res Vl := match kU S x with
 | some _ => (i ρ S).bind (HK b ρ x)
 | none => .stuck
theorem LR {a i b : FE} {ρ : Ev} {S : aO} : Jc a i b ρ S = (a ρ S).bind (HL i b ρ) := rfl
theorem Ej {i b : FE} {ρ : Ev} {S : aO} {n : Nat} {ds : List D} (h : S[n]? = some (.lst ds)) : HL i b ρ (.cel n) S = (i ρ S).bind (HK b ρ (.cel n)) := by
 unfold HL kU;simp only [h]
theorem Ei {b : FE} {ρ : Ev} {S : aO} {x y : Vl} : HK b ρ x y S = (b ρ S).bind (Bl x y) := rfl
theorem Hz {S : aO} {n k : Nat} {ds : List D} {d : D} (h : S[n]? = some (.lst ds)) (hl : ds.length < sizeLine) (hk : k <= 1000000) : Bl (.cel n) (.dat (.int (k : Int))) (.dat d) S = .ok (.dat .non) (S.set n (.lst (ds.take k ++ [d] ++ ds.drop k))) := by
 unfold Bl;simp only [h];rw [if_pos ⟨hl, by omega, by omega⟩, cG]
def isNone {α : Type} : Option α -> Bool
 | none => true
 | some _ => false
def AN {α β : Type} (f : α -> Option β) : List α -> Option (List β)
 | [] => some []
 | x :: xs => match f x, AN f xs with
  | some y, some ys => some (y :: ys)
  | _, _ => none
def vwJ (c : Nat -> Option PH.D) : PH.D ⊕ Nat -> Option PH.D
 | .inl d => some d
 | .inr n => c n
def Ku (c : Nat -> Option PH.D) : Vl -> Option PH.D
 | .dat d => some d
 | .cel n => c n
 | .tc xs => match AN (vwJ c) xs with
  | some ds => some (.tup ds)
  | none => none
 | _ => none
def J2 (S : aO) : Nat -> Nat -> Option PH.D
 | 0, _ => none
 | k + 1, n => match S[n]? with
  | some (.lst es) => some (.lst es)
  | some (.lv xs) => (match AN (Ku (J2 S k)) xs with
   | some ds => some (.lst ds)
   | none => none)
  | _ => none
mutual
def CD : PH.D -> Bool
 | .non => true
 | .bl _ => true
 | .int _ => true
 | .str _ => true
 | .tup ds => BU ds
 | _ => false
def BU : List PH.D -> Bool
 | [] => true
 | d :: ds => CD d && BU ds
end
def deadS (S : aO) : aO := S.map fun _ => Cell.dead
def zC (S S2 : aO) : aO := S ++ oJ (S2.length - S.length) Cell.dead
section
variable {K : aC} {B : Addr -> Prop} {φ φ' : List Addr} {S S' S2 : aO} {H H' : Hp}
mutual
theorem CC {Bk Bk' : Addr -> Prop} : ∀ (d : PH.D) (v : L2.V), CD d = true -> Rep K Bk H d v -> Rep K Bk' H d v
 | .non, v, _, h => h
 | .bl b, v, _, h => h
 | .int i, v, _, h => h
 | .str x, v, _, h => h
 | .tup ds, v, hs, ⟨a, vs, e, h, r⟩ => ⟨a, vs, e, h, Ab ds vs (by unfold CD at hs; exact hs) r⟩
 | .lst ds, v, hs, h => by cases hs
 | .ins C ns ds, v, hs, h => by cases hs
 | .dct, v, hs, h => by cases hs
 | .opq k, v, hs, h => by cases hs
theorem Ab {Bk Bk' : Addr -> Prop} : ∀ (ds : List PH.D) (vs : List L2.V), BU ds = true -> RepL K Bk H ds vs -> RepL K Bk' H ds vs
 | [], vs, _, h => h
 | d :: ds, vs, hs, ⟨v, ws, e, h1, h2⟩ => by
  unfold BU at hs;obtain ⟨a1, a2⟩ := GB.mp hs;exact ⟨v, ws, e, CC d v a1 h1, Ab ds ws a2 h2⟩
end
theorem wD {n : Nat} {c : Cell} (h : (deadS S)[n]? = some c) : c = .dead := by
 unfold deadS at h;rw [cY] at h;cases q : S[n]? with
 | none => rw [q] at h; cases h
 | some d => rw [q] at h; cases h; rfl
theorem rS {a : Addr} : ¬ jA φ (deadS S) a := fun ⟨n, c, h1, h2, _⟩ => h2 (wD h1)
theorem GInv.deadS (I : GInv K B φ S H) : GInv K B φ (deadS S) H where
 len := by unfold PH.deadS; rw [bE]; exact I.len
 ok := fun n c a h1 h2 => by obtain rfl := wD h1; trivial
 inj := fun n m c c' a h1 h2 => absurd (wD h1) h2
 blk := fun a h => absurd h rS
 btr := I.btr
theorem Ext.deadS : Ext φ S H φ (deadS S) H := ⟨fun b o h nb => ⟨h, rS⟩, fun _ _ h => h⟩
theorem EC {φ₂ : List Addr} {S₂ : aO} {H₂ : Hp} (ex : Ext φ S H φ₂ S₂ H₂) (I : GInv K B φ S H) {c : Cell} {a : Addr} (ha : c ≠ .dead -> ∀ o, H a = some o -> H₂ a = some o) (q : AA K B φ S H c a) : AA K B φ₂ S₂ H₂ c a := by
 cases c with
 | dead => trivial
 | lst ds => obtain ⟨vs, e, r⟩ := q; exact ⟨vs, ha (by simp) _ e, ex.repL I r⟩
 | ins C fs => obtain ⟨dx, vs, e, r⟩ := q; exact ⟨dx, vs, ha (by simp) _ e, r.ext ex I⟩
 | dct fs => obtain ⟨vs, e, r⟩ := q; exact ⟨vs, ha (by simp) _ e, r.ext ex I⟩
 | lv xs => obtain ⟨vs, e, r⟩ := q; exact ⟨vs, ha (by simp) _ e, r.ext ex I⟩
 | dki ks xs => obtain ⟨vs, e, r⟩ := q; exact ⟨vs, ha (by simp) _ e, r.ext ex I⟩
 | dkt ks xs => obtain ⟨vs, e, r⟩ := q; exact ⟨vs, ha (by simp) _ e, r.ext ex I⟩
def Kq (K : aC) (B : Addr -> Prop) (φ : List Addr) (S : aO) (H : Hp) (c : Nat -> Option PH.D) : Prop :=
 ∀ (n : Nat) (a : Addr) (d : PH.D), φ[n]? = some a -> c n = some d -> Rep K (jZ B φ (PH.deadS S)) H d (.ref a)
theorem EM {c : Nat -> Option PH.D} (I : GInv K B φ S H) (hc : Kq K B φ S H c) : ∀ (xs : List (PH.D ⊕ Nat)) (ds : List PH.D) (vs : List L2.V), AN (vwJ c) xs = some ds -> RepIs K (jZ B φ S) φ H xs vs -> RepL K (jZ B φ (PH.deadS S)) H ds vs
 | [], ds, vs, h, r => by
  cases h;exact r
 | x :: xs, ds, vs, h, ⟨v, ws, e, r1, r2⟩ => by
  unfold AN at h;split at h
  ·rename_i y ys q1 q2
   cases h;refine ⟨v, ws, e, ?_, EM I hc xs ys ws q2 r2⟩
   cases x with
   | inl d => cases q1; exact Rep.kp (Ext.deadS.kp I) _ _ r1
   | inr n =>
    obtain ⟨a, e1, e2⟩ := r1;rw [e1];exact hc n a y e2 q1
  ·cases h
theorem Li {c : Nat -> Option PH.D} (I : GInv K B φ S H) (hc : Kq K B φ S H c) {x : Vl} {d : PH.D} {v : L2.V} (h : Ku c x = some d) (r : RepV K B φ S H x v) : Rep K (jZ B φ (PH.deadS S)) H d v := by
 cases x with
 | dat d' => cases h; exact Rep.kp (Ext.deadS.kp I) _ _ r
 | cel n =>
  obtain ⟨a, e1, e2⟩ := r;rw [e1];exact hc n a d e2 h
 | tc xs =>
  obtain ⟨a, vs, e, h1, r1⟩ := r;dsimp only [Ku] at h;split at h
  ·rename_i ds q
   cases h;exact ⟨a, vs, e, h1, EM I hc xs ds vs q r1⟩
  ·cases h
 | cels ns => cases h
 | scr ns => cases h
theorem BK {c : Nat -> Option PH.D} (I : GInv K B φ S H) (hc : Kq K B φ S H c) : ∀ (xs : List Vl) (ds : List PH.D) (vs : List L2.V), AN (Ku c) xs = some ds -> RepVs K B φ S H xs vs -> RepL K (jZ B φ (PH.deadS S)) H ds vs
 | [], ds, vs, h, r => by
  cases h;exact r
 | x :: xs, ds, vs, h, ⟨v, ws, e, r1, r2⟩ => by
  unfold AN at h;split at h
  ·rename_i y ys q1 q2
   cases h;exact ⟨v, ws, e, Li I hc q1 r1, BK I hc xs ys ws q2 r2⟩
  ·cases h
theorem GJ (I : GInv K B φ S H) : ∀ k : Nat, Kq K B φ S H (J2 S k)
 | 0 => fun n a d ha h => by cases h
 | k + 1 => fun n a d ha h => by
  have nb : ∀ c, S[n]? = some c -> c ≠ .dead -> ¬ jZ B φ (PH.deadS S) a := fun c hn hc q => by
   rcases q with q | q
   ·exact I.blk a ⟨n, c, hn, hc, ha⟩ q
   ·exact rS q
  unfold J2 at h;split at h
  ·rename_i es q
   cases h;obtain ⟨vs, e, r⟩ := I.ok n _ a q ha;exact ⟨a, vs, rfl, nb _ q (by simp), e, RepL.kp (Ext.deadS.kp I) _ _ r⟩
  ·rename_i xs q
   split at h
   ·rename_i ds q2
    cases h;obtain ⟨vs, e, r⟩ := I.ok n _ a q ha;exact ⟨a, vs, rfl, nb _ q (by simp), e, BK I (GJ I k) xs ds vs q2 r⟩
   ·cases h
  ·cases h
theorem JP (hl : S.length <= S2.length) {n : Nat} {c : Cell} (h : (zC S S2)[n]? = some c) (hc : c ≠ .dead) : S[n]? = some c := by
 unfold zC at h
 by_cases hn : n < S.length
 ·rw [aQ hn] at h
  exact h
 ·rw [cP (by omega), DI] at h
  split at h
  ·cases h; exact absurd rfl hc
  ·cases h
theorem Js {φ φ' : List Addr} (h : ∀ (n : Nat) (a : Addr), φ[n]? = some a -> φ'[n]? = some a) : φ.length <= φ'.length := by
 by_cases hz : φ.length = 0
 ·omega
 ·have := h (φ.length - 1) (φ[φ.length - 1]'(by omega)) (cA _)
  have := (aI.mp this).1;omega
theorem Ig (I : GInv K B φ S H) (I' : GInv K B φ' S2 H') (X' : Ext φ (PH.deadS S) H φ' S2 H') : GInv K B φ' (zC S S2) H' /\ Ext φ S H φ' (zC S S2) H' := by
 have hl : S.length <= S2.length := by
  have := Js X'.ids;rw [<- I.len, <- I'.len];exact this
 have back : ∀ {n : Nat} {c : Cell} {a : Addr}, (zC S S2)[n]? = some c -> c ≠ .dead -> φ'[n]? = some a -> S[n]? = some c /\ φ[n]? = some a := fun {n c a} h hc ha => by
  have h1 := JP hl h hc;refine ⟨h1, ?_⟩
  have hn : n < φ.length := by rw [I.len]; exact (aI.mp h1).1
  have h2 : φ[n]? = some (φ[n]) := cA hn;have h3 := X'.ids _ _ h2;rw [ha] at h3;rw [h2, h3]
 have al : ∀ {a : Addr}, jA φ' (zC S S2) a -> jA φ S a := fun ⟨n, c, h1, h2, h3⟩ => ⟨n, c, (back h1 h2 h3).1, h2, (back h1 h2 h3).2⟩
 have X : Ext φ S H φ' (zC S S2) H' := ⟨fun b o h nb => ⟨(X'.old b o h rS).1, fun q => nb (al q)⟩, X'.ids⟩
 refine ⟨⟨?_, fun n c a h1 h2 => ?_, fun n m c c' a h1 h2 h3 h4 h5 h6 => ?_, fun a h => I.blk a (al h), I'.btr⟩, X⟩
 ·unfold zC
  rw [bO, List.length_replicate, I'.len];omega
 ·by_cases hc : c = .dead
  ·subst hc; trivial
  ·obtain ⟨e1, e2⟩ := back h1 hc h2
   exact EC X I (fun _ o h => (X'.old a o h rS).1) (I.ok n c a e1 e2)
 ·obtain ⟨e1, e2⟩ := back h1 h2 h5
  obtain ⟨e3, e4⟩ := back h3 h4 h6;exact I.inj n m c c' a e1 h2 e3 h4 e2 e4
theorem Ew {φ : List Addr} {S : aO} : ∀ {ds : List PH.D} {vs : List L2.V}, RepL K (jZ B φ S) H ds vs -> RepVs K B φ S H (ds.map Vl.dat) vs
 | [], vs, h => h
 | d :: ds, vs, ⟨v, ws, e, h1, h2⟩ => ⟨v, ws, e, h1, Ew h2⟩
end
def rdR (S1 : aO) (r : Res Vl) : Res Vl := match r with
 | .ok (.dat d) S2 => if CD d = true then .ok (.dat d) (zC S1 S2) else .stuck
 | _ => .stuck
def MH (md : FD) (ds : List Vl) (S1 : aO) : Res Vl := match AN (Ku (J2 S1 4)) ds with
 | some es => rdR S1 (md (es.map Vl.dat) (deadS S1))
 | none => .stuck
def mRd (md : FD) (as : FA) : FE := fun ρ S => (as ρ S).bind (MH md)
section
variable {X : Cx} {W : WX} {e : Expr} {es : List Expr} {pos p : Pos} {x : Str} {mas : FA} {ps : List Str} {md : FD} {j k : Nat}
theorem IR (F : oK X.prog X.w X.K X.mg X.base j x ps (spF X.K md)) (hr : Room k X.A) (tk : Takes X W) (ha : PA X (e :: es) (FV X.K W mas)) (hjk : j <= k := by decide) (hg : Gl X x := by rfl) (hdb : (x == ("__debug__" : Str)) = false := by decide)
  (he : starEach (e :: es) X.env = (false, eval e X.env) :: starEach es X.env := by rfl) (hpl : (backTo pos (starEach es X.env)).any (·.1) = false := by rfl) : PE X (.Call (.Name x p) (e :: es) [] pos) (dN X.K W (mRd md mas)) := by
 obtain ⟨fd, F, hm, hk, hb⟩ := F;refine dF (pe_callS (E := WE W) F (hr.mono hjk) hg hm hk hb (fun σ => passAt tk σ) ha hdb he hpl) fun σ H Q h => ?_
 refine cJ (k := fun ds _ S => MH md ds S) h fun B φ S ρ d v H1 I E r f => ?_
 unfold MH at f;split at f
 case h_2 => exact f.elim
 rename_i es' qd;refine ⟨B, φ, deadS S, _, I.deadS, Ew (BK I (GJ I 4) d es' v qd r), ?_⟩
 unfold rdR at f;split at f
 case h_2 => exact f.elim
 rename_i y S2 qm;rw [qm];split at f
 case isFalse => exact f.elim
 rename_i hc;intro φ' u H' I' X' r';obtain ⟨bk, be⟩ := Ig I I' X';exact f φ' u H' bk be (CC y u hc r')
end
section
variable {S : aO} {ρ : Ev} {mas : FA} {md : FD}
theorem g_rd : mRd md mas ρ S = (mas ρ S).bind (MH md) := rfl
theorem Gw : zC S (deadS S) = S := by
 unfold zC deadS;rw [bE, Nat.sub_self];simp
theorem MG {ds : List Vl} {es : List PH.D} {d : PH.D} (h1 : AN (Ku (J2 S 4)) ds = some es) (h2 : md (es.map Vl.dat) (deadS S) = .ok (.dat d) (deadS S)) (h3 : CD d = true) : MH md ds S = .ok (.dat d) S := by
 unfold MH;rw [h1];dsimp only;rw [h2];unfold rdR;dsimp only;rw [if_pos h3, Gw]
end
section
variable {K : aC} {H : Hp}
def intsOf : List PH.D -> Option (List Int)
 | [] => some []
 | .int w :: r => (intsOf r).map (w :: ·)
 | _ :: _ => none
end
section
variable {K : aC} {H : Hp}
def fLtT (x y : Vl) (S : aO) : Res Vl := match x, y with
 | .dat (.tup ds), .dat (.tup es) => (match intsOf ds, intsOf es with
  | some ns, some ms => .ok (.dat (.bl (HT.lexLt ns ms))) S
  | _, _ => .stuck)
 | _, _ => .stuck
end
def itA (x : Str) (i : Nat) (K : aC) : Addr := match K.lookup (He.ga K x) with
 | some ⟨_, _, .seq its _, _⟩ => (match its[i]? with
  | some (.ref a) => a
  | _ => 0)
 | _ => 0
abbrev FGn := Ev -> aO -> Res (List PH.D)
abbrev FDG := List Vl -> aO -> Res (List PH.D)
end PH
namespace L2
open PySem PySem.Spec PyProof.Rows GenW
abbrev EndP := End -> Shared -> Prop
def GTurn (M : Model) (A : Around) (F : EndP) (c : Code) (t : Sem PySem.Fin) (fs : List Frame) (s : Shared) : Prop :=
 ∀ Γ p, Γ.code = c -> Γ.Woken A -> ∃ e s', Runs M Γ p t fs s e s' /\ F e s'
def KB (it : Addr) (s s' : Shared) : Prop := s'.os = s.os /\ s'.gens = s.gens /\ ∀ b o, b ≠ it -> s.heap.get? b = some o -> s'.heap.get? b = some o
def FR (M : Model) (A : Around) (it a : Addr) (its : Array Value) : Nat -> Shared -> EndP
 | 0, s => fun e s' => e = .ret (.ok (.ret .none)) /\ KB it s s'
 | r + 1, s => fun e s' => match e with
  | .ret _ => False
  | .susp v g l k c p fs => (End.susp v g l k c p fs).quiet = true /\ its[its.size - (r + 1)]? = some v /\ KB it s s' /\ s'.heap.get? it = some (GNX.itObj a (its.size - r)) /\
    ∀ s'' : Shared, s''.heap.get? it = some (GNX.itObj a (its.size - r)) -> s''.heap.IsList a its -> GTurn M A (FR M A it a its r s'') c (k (.send .none)) fs s''
abbrev TQ := Addr -> List V -> Hp -> Prop
end L2
namespace L2
open PySem PySem.Spec PyProof.Rows
abbrev Cls3 := Value × Option Nat × (Addr -> Value -> Option Addr -> TS)
end L2
namespace PH
open PySem PySem.Spec PyProof.Rows L2
inductive XJ where
 | c (v : L2.V) (d : PH.D) | f (n : Str) | v (i : Nat) | fl (n : Str) (i : Nat)
section
variable {X : Cx} {W : WX} {e : Expr} {es : List Expr} {pos : Pos} {K : aC} {B : Addr -> Prop} {φ φ' : List Addr} {S S' : aO} {H H' : Hp} {σ : L2.St} {m : FS} {D : Ends} {cs : List Str} {x : Str}
inductive HJ where
 | m (f : FS) | j (k : Nat) (its : List XJ)
end
end PH
namespace PH
open PySem PySem.Spec PyProof PyProof.Rows L2
theorem JY {n : Nat} {fa : List He.Fa} {fn : List He.DefD} {ts : List He.Tab} {ex : aC -> Bool} {g : Addr -> Option Obj} {s : Shared} (h : ∀ a, g a = s.heap.get? a) : Lz n fa fn ts ex g = (LN n fa fn ts ex).obs s := by
 have e : g = s.heap.get? := funext h;rw [e] <;> rfl
section
variable {X : Cx} {W : WX}
theorem fI {i j pos} : PE X (.Constant (.int i) j pos) (dN X.K W (mC (.int i))) := IJ pe_int fun _ _ => rfl
theorem fS {x j pos} : PE X (.Constant (.str x) j pos) (dN X.K W (mC (.str x))) := IJ pe_str fun _ _ => rfl
theorem fB {b j pos} : PE X (.Constant (.bool b) j pos) (dN X.K W (mC (.bl b))) := IJ pe_bl fun _ _ => rfl
theorem fN {j pos} : PE X (.Constant .none j pos) (dN X.K W (mC .non)) := IJ pe_non fun _ _ => rfl
end
section
variable {P : Program} {w : World} {K : aC} {mg : Str -> Option Value} {base : Heap}
theorem iI {x : Str} {st : Stmt} {N ps : List Str} {k : Nat} {md : FD} {mb : FS} (F : oZ K x st) (g : mg x = some (.ref (He.ga K x))) (S : FnScope N ps (defScope st)) (R : Runs md N.length ps.length mb)
  (bnd : ∀ (kV doc pm : Value) (an : Option Addr) (cdv ct : Value) (us : List Value), us.length = ps.length -> bindArgs (gM x x (defArgs st) (defBody st) (defScope st) .none kV doc pm an cdv ct) ⟨us, []⟩ = pure (ps.zip us))
  (hbody : ∀ (cdv : Value) (A : Around) (outer : List Env) (s : Shared) (H : Hp) (E : XK), Room k (A.deeper (envOfC x (defScope st) s.heap.objs.size (He.ga K x) cdv)) ->
   Takes (cxOf (L2.CX P w) P w K mg base N x (defScope st) (He.ga K x) cdv A outer s H E) (fun c x _ H => E c x H) -> N.Nodup ->
   PSs (cxOf (L2.CX P w) P w K mg base N x (defScope st) (He.ga K x) cdv A outer s H E) (defBody st) (mI K (fun c x _ H => E c x H) mb)) : oK P w K mg base (k + 1) x ps (spF K md) :=
 okF F g S R bnd fun cdv A outer s H E hr => hbody cdv A outer s H E hr (takes_of (X := cxOf (L2.CX P w) P w K mg base N x (defScope st) (He.ga K x) cdv A outer s H E) (E := E) rfl rfl rfl rfl) S.nd
theorem Ea {C m q : Str} {st : Stmt} {N ps : List Str} {k : Nat} {md : FD} {mb : FS} (F : J1 K C m q st) (g : Meth K (He.ga K C) m (He.ma K (He.ga K C) m)) (S : FnScope N ps (defScope st)) (R : Runs md N.length ps.length mb)
  (bnd : ∀ (kV doc pm : Value) (an : Option Addr) (cdv ct : Value) (us : List Value), us.length = ps.length -> bindArgs (gM m q (defArgs st) (defBody st) (defScope st) .none kV doc pm an cdv ct) ⟨us, []⟩ = pure (ps.zip us))
  (hbody : ∀ (cdv : Value) (A : Around) (outer : List Env) (s : Shared) (H : Hp) (E : XK), Room k (A.deeper (envOfC q (defScope st) s.heap.objs.size (He.ma K (He.ga K C) m) cdv)) ->
   Takes (cxOf (L2.CX P w) P w K mg base N q (defScope st) (He.ma K (He.ga K C) m) cdv A outer s H E) (fun c x _ H => E c x H) -> N.Nodup ->
   PSs (cxOf (L2.CX P w) P w K mg base N q (defScope st) (He.ma K (He.ga K C) m) cdv A outer s H E) (defBody st) (mI K (fun c x _ H => E c x H) mb)) : OkMX P w K mg base (k + 1) C m ps (spF K md) :=
 okFM F g S R bnd fun cdv A outer s H E hr => hbody cdv A outer s H E hr (takes_of (X := cxOf (L2.CX P w) P w K mg base N q (defScope st) (He.ma K (He.ga K C) m) cdv A outer s H E) (E := E) rfl rfl rfl rfl) S.nd
end
end PH
namespace PySem.SeqAt
open AutoSeq1 (wpAny_loadPart')
open MeetsSeq
theorem rK (b : Int) (u : Tok) (l : Addr) (c : Value) (es : Array DictEntry) (ep : Nat) (dd : Option Addr) (sl : Array (Option Value)) :
  Meets (Builtin.«int.__eq__» ⟨[.int b u, .ref l], []⟩) (fun _ R s => s.heap.get? l = some { cls := c, dict := dd, data := .dict es ep, slots := sl } /\ R (.ok (.ret .notImplemented)) s) :=
 .of_wp fun prog w A R s h => by obtain ⟨hp, g, d, tk, os⟩ := s; obtain ⟨hl, h⟩ := h; wp_walk using wpAny_loadPart' hl, wpAny_load hl; exact ⟨_, rfl, h⟩
theorem rR (b : Int) (u : Tok) (l : Addr) (es : Array DictEntry) (ep : Nat) (dd : Option Addr) (sl : Array (Option Value)) :
  Meets (Builtin.«dict.__eq__» ⟨[.ref l, .int b u], []⟩) (fun _ R s => s.heap.get? l = some { cls := .type "dict", dict := dd, data := .dict es ep, slots := sl } /\ R (.ok (.ret .notImplemented)) s) :=
 .of_wp fun prog w A R s h => by obtain ⟨hp, g, d, tk, os⟩ := s; obtain ⟨hl, h⟩ := h; have f1 := F.sub_int_dict; wp_walk using wpAny_loadPart' hl, wpAny_load hl; exact ⟨_, rfl, h⟩
end PySem.SeqAt
namespace PySem.SeqAt
section
variable {A : Around} {s : Shared}
theorem EqAt.int_dict {l : Addr} {o : Obj} {es : Array DictEntry} {ep : Nat} (b : Int) (u : Tok) (hl : s.heap.get? l = some o) (hc : o.cls = .type "dict") (hd : o.data = .dict es ep) (hu : A.units < cLine) : EqAt A s (.int b u) (.ref l) false := fun prog w E Q h => by
 obtain ⟨cls, dd, data, sl⟩ := o;simp only at hc hd;subst hc hd;have ti : s.TypeIs (.ref l) "dict" := ⟨_, hl, rfl⟩;unfold eqBool;refine wpAny_holding ?_
 refine wpAny_ite_split (fun hab => absurd (eq_of_beq hab) nofun) (fun _ => ?_)
 refine wpAny_bind ?_
 exact rc_eq_decline_or (k := false) (typeIs_int s b u) ti (by decide) F.sub_dict_int F.slot_int_eq F.slot_dict_eq_refl
  (fun _ hq => call_meets F.slot_int_eq (typeIs_int s b u) F.entry_int_eq (F.args_int_eq_2 _ _) (rK b u l (.type "dict") es ep dd sl) ⟨hl, hq⟩)
  (fun _ hq => call_meets F.slot_dict_eq_refl ti F.entry_dict_eq (F.args_dict_eq_2 _ _) (rR b u l es ep dd sl) ⟨hl, hq⟩)
  (fun _ hq => wpAny_of_eq (rfl : isSame (.int b u) (.ref l) = pure false) hq) (.inr hu) (wpAny_truthy_bool h)
end
end PySem.SeqAt
namespace L2
open PySem PySem.Spec PyProof PyProof.Rows
section
variable {X : Cx}
def rDx (K : aC) (neg : Bool) : R2 := fun x y H Q => ∃ (a dc b : Addr) (v : V) (d : PyData) (ts : List V), x = .ref a /\ SqT K H a [.ref dc, v] /\ H dc = some (.dK []) /\ Dp K H v d /\ SeqAt.shaped d = true /\ y = .ref b /\ SqL K H b ts /\
 (∀ t ∈ ts, ∃ (ad : Addr) (i : Int) (w : V) (e : PyData), t = .ref ad /\ SqT K H ad [.int i, w] /\ Dp K H w e /\ SeqAt.shaped e = true) /\ Q (.bl neg) H
theorem IW {pins : List (Addr × Obj)} {s : Shared} {σ : L2.St} {H : Hp} (hu : X.A.units + 70 < cLine) (I : Inv X pins σ H s) {a dc : Addr} {v : V} {d : PyData} {ts : List V} {its : List Value} (h1 : SqT X.K H a [.ref dc, v]) (h2 : H dc = some (.dK [])) (h3 : Dp X.K H v d) (h4 : SeqAt.shaped d = true) (rv : Vals ts its)
  (ht : ∀ t ∈ ts, ∃ (ad : Addr) (i : Int) (w : V) (e : PyData), t = .ref ad /\ SqT X.K H ad [.int i, w] /\ Dp X.K H w e /\ SeqAt.shaped e = true) : ∀ y, y ∈ its.toArray -> SeqAt.EqAt X.A.in1 s y (.ref a) false := fun y hy => by
 have hy' : y ∈ its := by simpa using hy
 obtain ⟨j, hj, ej⟩ := List.getElem_of_mem hy';have hl : its.length = ts.length := rv.length.symm;have hjt : j < ts.length := by omega
 obtain ⟨ad, i, w, e, et, t1, t2, t3⟩ := ht _ (eO hjt);obtain ⟨u, hu1, hu2⟩ := rv.get (i := j) (cA hjt);rw [cA hj] at hu1;cases hu1;rw [et] at hu2;have ey : its[j] = .ref ad := hu2;rw [ej] at ey;subst ey;obtain ⟨ps, rp, ⟨op, ep1, ep2, np, ep3⟩, _⟩ := I.tuple t1;obtain ⟨qs, rq, ⟨oq, eq1, eq2, nq, eq3⟩, _⟩ := I.tuple h1;cases rp with
 | cons p1 pr =>
  cases pr with
  | cons p2 pr =>
   cases pr;cases rq with
   | cons q1 qr =>
    cases qr with
    | cons q2 qr =>
     cases qr;rename_i pu pw qu qw;obtain ⟨tk, rfl⟩ := (show ∃ t, pu = Value.int i t from p1)
     obtain rfl : qu = Value.ref dc := q1;obtain ⟨as1, R1⟩ := Dp.reads I e w pw t2 p2;obtain ⟨as2, R2⟩ := Dp.reads I d v qw h3 q2;obtain ⟨_, _, vs, _, hD⟩ := dk_of I.hok h2;obtain ⟨od, es, ep, g1, g2, g3, _⟩ := hD;have hne : ad ≠ a := fun z => by
      rw [z, eq1] at ep1;cases ep1;rw [eq3] at ep3;have := Data.seq.inj ep3;have h := congrArg (fun x : Array Value => x[0]?) this.1
      simp at h
     refine SeqAt.EqAt.of_refs hne ?_
     have key := SeqAt.RcAt.tuples (A := X.A.in1) (e := fun j => if j = 0 then false else PyData.eqv e d) ⟨op, ep1, ep2, np, ep3⟩ ⟨oq, eq1, eq2, nq, eq3⟩ (by show X.A.units + 1 < cLine; omega) (fun j k1 k2 => by
      have hj2 : j < 2 := by simpa using k1
      rcases (by omega : j = 0 \/ j = 1) with rfl | rfl
      ·exact SeqAt.EqAt.int_dict i tk g1 g2.1 g3 (by show X.A.units + 1 + 1 < cLine; omega)
      ·have m := SeqAt.depth_of_shaped h4
       have m2 : min e.depth d.depth <= d.depth := Nat.min_le_right _ _;exact SeqAt.eqAt_reads e d _ _ _ _ _ _ R1 R2 (SeqAt.canLay_of_shaped t3) (SeqAt.canLay_of_shaped h4) (by show X.A.units + 1 + 1 + min e.depth d.depth < cLine; omega))
     exact key
theorem Da (hu : X.A.units + 70 < cLine) : OpR X (compareOp .NotIn) (rDx X.K true) := by
 intro pins s σ H x y v u Q I rx ry h;obtain ⟨a, dc, b, w, d, ts, ex, h1, h2, h3, h4, ey, h5, h6, q⟩ := h;subst ex ey;obtain rfl : v = Value.ref a := rx;obtain rfl : u = Value.ref b := ry;obtain ⟨its, rv, pl, _⟩ := I.list h5;refine SeqAt.notIn_listAt (fun _ => false) pl.isList (IW hu I h1 h2 h3 h4 rv h6) ?_
 have e : (its.toArray.any fun _ => false) = false := by simp
 rw [e];exact ⟨.bl true, H, I, rfl, q⟩
theorem DZ {op : CmpOp} {r r' : R2} (h : OpR X (compareOp op) r) (h' : OpR X (compareOp op) r') : OpR X (compareOp op) (fun x y H Q => r x y H Q \/ r' x y H Q) := by
 intro pins s σ H x y v u Q I rx ry q;rcases q with q | q
 ·exact h pins s σ H x y v u Q I rx ry q
 ·exact h' pins s σ H x y v u Q I rx ry q
end
end L2
namespace PH
open PySem PySem.Spec PyProof PyProof.Rows L2
theorem MT {k : Nat} {A : Around} (h : Room k A) : A.units + 70 < cLine := by have := h.un; omega
def EW (K : aC) : R2 := fun x y H Q => rNotInD K x y H Q \/ rDx K true x y H Q
theorem zD {X : Cx} {k : Nat} (h : Room k X.A) : OpR X (compareOp .NotIn) (EW X.K) := DZ (op_notInD (Ar h)) (Da (MT h))
def itD : PH.D -> Bool
 | .tup [.int _, w] => (match w.py with
  | some p => SeqAt.shaped p
  | none => false)
 | _ => false
def vZ (neg : Bool) (x y : Vl) (S : aO) : Res Vl := match x, y with
 | .dat (.tup [.dct, w]), .dat (.lst ds) => (match w.py with
  | some p => if SeqAt.shaped p && ds.all itD then .ok (.dat (.bl neg)) S else .stuck
  | none => .stuck)
 | x, y => wA neg x y S
section
variable {K : aC} {B : Addr -> Prop} {φ : List Addr} {S : aO} {H : Hp}
theorem HX : ∀ {ds : List PH.D} {ts : List L2.V}, (ds.all itD) = true -> RepL K B H ds ts -> ∀ t ∈ ts, ∃ (ad : Addr) (i : Int) (w : L2.V) (e : PyData), t = .ref ad /\ SqT K H ad [.int i, w] /\ Dp K H w e /\ SeqAt.shaped e = true
 | [], ts, _, r, t, ht => by cases r; cases ht
 | d :: ds, ts, h, ⟨v, ws, e, r1, r2⟩, t, ht => by
  subst e;rw [mF, gJ] at h;rcases bN.mp ht with rfl | ht
  ·have h1 := h.1
   unfold itD at h1;split at h1
   ·rename_i i w
    split at h1
    ·rename_i p hp
     obtain ⟨ad, vs, rfl, q1, v1, ws1, rfl, q2, v2, ws2, rfl, q3, q4⟩ := r1;cases q4;cases q2;exact ⟨ad, i, v2, p, rfl, q1, Rep.dp _ _ _ hp q3, h1⟩
    ·cases h1
   ·cases h1
  ·exact HX h.2 r2 t ht
theorem Jr {neg : Bool} {r : R2} (hr : eX K r (wA neg)) : eX K (fun x y H Q => r x y H Q \/ rDx K neg x y H Q) (vZ neg) := fun {W σ B φ S H x y d e Q} I r1 r2 f => by
 unfold vZ at f;split at f
 ·rename_i w ds
  split at f
  ·rename_i p hp
   split at f
   ·rename_i hc
    obtain ⟨c1, c2⟩ := He.ba hc;obtain ⟨a, vs, rfl, q1, v1, ws1, rfl, q2, v2, ws2, rfl, q3, q4⟩ := r1;cases q4;obtain ⟨dc, rfl, _, q5⟩ := q2;obtain ⟨b, ts, rfl, _, q6, q7⟩ := r2;exact .inr ⟨a, dc, b, v2, p, ts, rfl, q1, q5, Rep.dp _ _ _ hp q3, c1, rfl, SqL.of q6, HX c2 q7, Fin.now f I rfl⟩
   ·exact f.elim
  ·exact f.elim
 ·exact .inl (hr I r1 r2 f)
theorem CF : eX K (EW K) (vZ true) := Jr JE
end
end PH
namespace PH
open PySem PySem.Spec PyProof.Rows L2
def mR : FS :=
 (cC (qJ (m1 (fIsi "int") (aD 0)) (H9 (m1 (fIsi "bool") (aD 0)))))
def fZ : FD := run 1 1 mR
def uP : FS :=
 (cC (qJ (bA fZ (aB (aD 0) aJ)) (pR IT IT (mC (.int 0)) (aD 0) (mC (.int 1)))))
def uA : FD := run 1 1 uP
def kO : FE :=
 (qJ (bA fZ (aB (aD 4) aJ)) (pR IT IT (aD 2) (aD 4) (aD 3)))
def iQ : FS :=
 (aT (cN (uC (mM (fD (m1 (fIsi "tuple") (aD 0)))) (mB (bC gR (m1 eP (aD 0)) (mC (.int 0))))) (cC (mC (.bl false))) bP)
 (aT (cN (uC (mM (fD (m1 (fIsi "str") (bC cL (aD 0) (mC (.int 0)))))) (mB (m1 (fC true) (bC cL (aD 0) (mC (.int 0)))))) (cC (mC (.bl false))) bP)
 (aT (bS (m1 vY (bC cL (aD 0) (mC (.int 0)))) (.tp [1, 2, 3]))
 (aT (cN (mB (bC vW (m1 eP (aD 0)) (bC (cZ false) (aD 1) (mC (.int 1))))) (cC (mC (.bl false))) bP)
 (cC (m1 AL (xV false (jY (Iz false (aD 0) (sW (mC (.int 1))) AJ)) (.nm 4) lS kO [4])))))))
def iJ : FD := run 5 1 iQ
def nV : FS :=
 (aT (bS (bC cL (aD 0) (mC (.int 0))) (.nm 1))
 (aT (cN (uC (mB (bC gR (aD 1) (mC (.str "keep")))) (mB (bC gR (aD 1) (mC (.str "again"))))) (cC (cM false (aB (bC cL (aD 0) (mC (.int 1))) aJ))) bP)
 (aT (cN (mB (bC gR (aD 1) (mC (.str "either")))) (cC (cM false (aB (bC cL (aD 0) (mC (.int 1))) (aB (bC cL (aD 0) (mC (.int 2))) aJ)))) bP)
 (aT (cN (mB (bC gR (aD 1) (mC (.str "call")))) (cC (bC cL (aD 0) (mC (.int 3)))) bP)
 (cC (cM false aJ))))))
def fU : FD := run 2 1 nV
def gS : FS :=
 (aT (bS (bC cL (aD 0) (mC (.int 0))) (.nm 2))
 (aT (cN (uC (mB (bC gR (aD 2) (mC (.str "keep")))) (mB (bC gR (aD 2) (mC (.str "again"))))) (cC (bW (aB (aD 2) (aB (bC cL (aD 1) (mC (.int 0))) aJ)))) bP)
 (aT (cN (mB (bC gR (aD 2) (mC (.str "either")))) (cC (bW (aB (aD 2) (aB (bC cL (aD 1) (mC (.int 0))) (aB (bC cL (aD 1) (mC (.int 1))) aJ))))) bP)
 (aT (cN (mB (bC gR (aD 2) (mC (.str "call")))) (cC (bW (aB (aD 2) (aB (bC cL (aD 0) (mC (.int 1))) (aB (bC cL (aD 0) (mC (.int 2))) (aB (aD 1) aJ)))))) bP)
 (cC (aD 0))))))
def eZ : FD := run 3 2 gS
def gI (f_copied_block : FD) : FS :=
 (cC (bA eZ (aB (aD 0) (aB (xV false (jY (bA fU (aB (aD 0) aJ))) (.nm 1) lS (bA (f_copied_block) (aB (aD 1) aJ)) [1]) aJ))))
def kP (f_copied_statement : FD) : FS :=
 (cC (xV false (jY (aD 0)) (.nm 1) lS (bA (f_copied_statement) (aB (aD 1) aJ)) [1]))
def jN : Nat -> FD × FD
 | 0 => (kZ, kZ)
 | n + 1 => let r := jN n
  (run 2 1 (gI r.2), run 2 1 (kP r.1))
def gA (n : Nat) : FD := (jN n).1
def dY (n : Nat) : FD := (jN n).2
def lK : FS :=
 (aT (cN (fD (bA iJ (aB (aD 0) aJ))) (cC (mC (.bl true))) bP)
 (aT (cN (uC (mM (fD (m1 (fIsi "tuple") (aD 0)))) (uC (mB (bC DF (m1 eP (aD 0)) (mC (.int 2)))) (mM (fD (m1 (fIsi "str") (bC cL (aD 0) (mC (.int 0)))))))) (cC (mC (.bl false))) bP)
 (aT (bS (bC cL (aD 0) (mC (.int 0))) (.nm 3))
 (aT (cN (mB (bC gR (aD 3) (mC (.str "end")))) (cC (qJ (bC gR (m1 eP (aD 0)) (mC (.int 2))) (bA uA (aB (bC cL (aD 0) (mC (.int 1))) aJ)))) bP)
 (aT (cN (mB (bC gR (aD 1) (mC (.int 3)))) (cC (mC (.bl false))) bP)
 (aT (cN (uC (mB (bC gR (aD 3) (mC (.str "keep")))) (mB (bC gR (aD 3) (mC (.str "again"))))) (cC (qJ (bC gR (m1 eP (aD 0)) (mC (.int 2))) (m1 (fIsi "list") (bC cL (aD 0) (mC (.int 1)))))) bP)
 (aT (cN (mB (bC gR (aD 3) (mC (.str "either")))) (cC (qJ (bC gR (m1 eP (aD 0)) (mC (.int 3))) (qJ (m1 (fIsi "list") (bC cL (aD 0) (mC (.int 1)))) (m1 (fIsi "list") (bC cL (aD 0) (mC (.int 2))))))) bP)
 (aT (cN (uC (mB (bC vW (aD 3) (mC (.str "call")))) (mB (bC vW (m1 eP (aD 0)) (mC (.int 4))))) (cC (mC (.bl false))) bP)
 (aT (cN (uC (mM (fD (bA fZ (aB (bC cL (aD 0) (mC (.int 1))) aJ)))) (mM (mB (pR IT DF (mC (.int 0)) (bC cL (aD 0) (mC (.int 1))) (aD 2))))) (cC (mC (.bl false))) bP)
 (aT (cN (uC (mM (fD (m1 (fIsi "bool") (bC cL (aD 0) (mC (.int 2)))))) (uC (mM (fD (m1 (fIsi "list") (bC cL (aD 0) (mC (.int 3)))))) (mB (bC vW (m1 eP (bC cL (aD 0) (mC (.int 3)))) (mC (.int 2)))))) (cC (mC (.bl false))) bP)
 (cC (qJ (m1 (fIsi "list") (bC cL (bC cL (aD 0) (mC (.int 3))) (mC (.int 0)))) (m1 (fIsi "list") (bC cL (bC cL (aD 0) (mC (.int 3))) (mC (.int 1))))))))))))))))
def iU : FD := run 4 3 lK
def eR (f_first_fault : FD) : FS :=
 (eL [8, 9, 10] (aT (bS (bA (f_first_fault) (aB (aD 9) (aB (bC (cZ false) (aD 1) (mC (.int 1))) (aB (aD 2) (aB (bC (cZ false) (aD 7) (bW (aB (aD 8) aJ))) (aB (aD 4) aJ)))))) (.tp [10, 4]))
 (cN (mB (bC (IU true) (aD 10) (mC .non))) (cC (bW (aB (aD 10) (aB (aD 4) aJ)))) bP)))
def jC (f_first_fault : FD) : FS :=
 (eL [5, 6, 7, 8, 9, 10] (aT (bS (bC (cZ false) (aD 3) (bW (aB (aD 5) aJ))) (.nm 7))
 (aT (cN (uC (mB (bC gR (aD 5) (mC (.int 8)))) (uC (mB (bC gR (aD 4) (mC (.int 12)))) (mM (fD (bA iU (aB (aD 6) (aB (aD 1) (aB (aD 2) aJ)))))))) (cC (bW (aB (aD 7) (aB (aD 4) aJ)))) bP)
 (aT (HB (fun x y => x + y) 4 (mC (.int 1)))
 (kW (qI (bA fU (aB (aD 6) aJ))) (.tp [8, 9]) (eR (f_first_fault)))))))
def lL (f_first_fault : FD) : FS :=
 (aT (kW (qI (aD 0)) (.tp [5, 6]) (jC (f_first_fault)))
 (cC (bW (aB (mC .non) (aB (aD 4) aJ)))))
def dA : Nat -> FD
 | 0 => kZ
 | n + 1 => run 11 5 (lL (dA n))
def dP : FS :=
 (eL [2, 3, 4, 5] (aT (cN (mM (fD (m1 (fIsi "list") (aD 3)))) (eV "NoBook" ["path", "procedure"] (aB (aD 2) (aB (bW aJ) aJ))) bP)
 (aT (bS (bA (dA 10) (aB (aD 3) (aB (mC (.int 0)) (aB (m1 eP (aD 1)) (aB (bW aJ) (aB (mC (.int 0)) aJ)))))) (.tp [4, 5]))
 (cN (mB (bC (IU true) (aD 4) (mC .non))) (eV "NoBook" ["path", "procedure"] (aB (aD 2) (aB (aD 4) aJ))) bP))))
def nX : FS :=
 (aT (cN (uC (mM (fD (m1 (fIsi "list") (aD 1)))) (mM (mB (pR IT IT (mC (.int 1)) (m1 eP (aD 1)) (mC (.int 3)))))) (eV "NoBook" ["path", "procedure"] (aB (m1 oG (mC (.int 1))) (aB (bW aJ) aJ))) bP)
 (aT (kW (qI (aD 1)) (.tp [2, 3]) dP)
 (H8 "Book" "own" (aD 0) (xV false (jY (aD 1)) (.nm 3) lS (bA (dY 20) (aB (aD 3) aJ)) [3]))))
def hY : FD := run 6 2 nX
def lM : FS :=
 (cC (xV false (jY (HA "Book" "own" (aD 0))) (.nm 1) lS (bA (dY 20) (aB (aD 1) aJ)) [1]))
def iW : FD := run 2 1 lM
def uR : FS :=
 (cC (bC (cZ true) (cM false (aB (mC (.int 0)) aJ)) (M7 (xV false (jY (Iz false (aD 0) AJ (sW (mC (.int 63))))) (.nm 1) lS (m1 xJ (aD 1)) [1]) (cM false (aB (mC (.int 0)) aJ)))))
def uB : FD := run 2 1 uR
def uU : FS :=
 (aT (kI (fun x y => x + y) (aD 0) (mC (.int 0)) (mC (.int 1)))
 (aT (bS (bC (cZ false) (mC (.int 1)) (bC vX (m1 xJ (bC cL (aD 0) (mC (.int 0)))) (bC rP (m1 eP (aD 0)) (mC (.int 1))))) (.nm 2))
 (aT (bS (m1 xJ (bC cL (aD 0) (aD 2))) (.nm 3))
 (aT (cN (mB (bC fGe (aD 3) (bC KY (mC (.int 10)) (mC (.int 18))))) (aT (zI (bC qK (aD 3) (aD 1)) (aD 0) (aD 2))
 (cC (bC vX (aD 3) (aD 1)))) bP)
 (aT (bS (bC vX (bC E9 (m1 xJ (bC (cZ false) (bC (cZ false) (aD 3) (bC E9 (mC (.int 7919)) (bC cL (aD 0) (mC (.int 0))))) (mC (.int 1)))) (mC (.int 48271))) (mC (.int 2147483647))) (.nm 4))
 (aT (bS (bC vX (bC E9 (aD 4) (bC (cZ false) (bC qK (aD 4) (mC (.int 1009))) (mC (.int 69621)))) (mC (.int 2147483647))) (.nm 4))
 (aT (bS (bC vX (bC E9 (aD 4) (bC (cZ false) (bC qK (aD 4) (mC (.int 2003))) (mC (.int 40692)))) (mC (.int 2147483399))) (.nm 4))
 (cC (bC vX (bC qK (aD 4) (mC (.int 11))) (aD 1))))))))))
def bU : FD := run 5 2 uU
def qC : FS :=
 (aT (cN (mB (bC gR (bC cL (aD 0) (mC (.int 0))) (mC (.str "call")))) (cC (m1 (rQ false) (bC cL (aD 0) (mC (.int 3))))) bP)
 (cC (xV false (jY (Iz false (aD 0) (sW (mC (.int 1))) AJ)) (.nm 1) (fD (m1 (fIsi "list") (aD 1))) (aD 1) [1])))
def jM : FD := run 2 1 qC
def oX : FS :=
 (aT (cN (mB (bC gR (bC cL (aD 0) (mC (.int 0))) (mC (.str "call")))) (cC (bC (cZ false) (Iz false (aD 0) AJ (sW (mC (.int 3)))) (bW (aB (aD 1) aJ)))) bP)
 (aT (cN (mB (bC gR (m1 eP (aD 1)) (mC (.int 0)))) (cC (aD 0)) bP)
 (cC (bC (cZ false) (bW (aB (bC cL (aD 0) (mC (.int 0))) aJ)) (m1 fTuple (aD 1))))))
def lR : FD := run 2 2 oX
def tM (f_L_copy : FD) : FE :=
 (bA lR (aB (aD 1) (aB (xV false (jY (bA jM (aB (aD 1) aJ))) (.nm 2) lS (bA (f_L_copy) (aB (aD 2) aJ)) [2]) aJ)))
def uV (f_L_copy : FD) : FS :=
 (cC (xV false (jY (aD 0)) (.nm 1) lS (tM (f_L_copy)) [1]))
def oS : Nat -> FD
 | 0 => kZ
 | n + 1 => run 3 1 (uV (oS n))
def qA : FS :=
 (cC (xV false (jY (aD 0)) (.nm 1) lS (bA (oS 10) (aB (aD 1) aJ)) [1]))
def pO : FD := run 2 1 qA
def pX (f_L_same : FD) : FE :=
 (bA (f_L_same) (aB (bC cL (aD 0) (aD 2)) (aB (bC cL (aD 1) (aD 2)) aJ)))
def uQ (f_L_same : FD) : FS :=
 (aT (cN (fD (m1 (fIsi2 "list" "tuple") (aD 0))) (aT (cN (uC (mB (bC vW (m1 (fIsi "list") (aD 0)) (m1 (fIsi "list") (aD 1)))) (mB (bC vW (m1 (fIsi "tuple") (aD 0)) (m1 (fIsi "tuple") (aD 1))))) (cC (mC (.bl false))) bP)
 (cC (qJ (bC gR (m1 eP (aD 0)) (m1 eP (aD 1))) (m1 AL (xV false (kH (m1 eP (aD 0))) (.nm 2) lS (pX (f_L_same)) [2]))))) bP)
 (aT (cN (uC (fD (m1 (fIsi2 "list" "tuple") (aD 1))) (mB (bC vW (m1 (fIsi "bool") (aD 0)) (m1 (fIsi "bool") (aD 1))))) (cC (mC (.bl false))) bP)
 (cC (qJ (bC gR (m1 (fIsi "int") (aD 0)) (m1 (fIsi "int") (aD 1))) (bC gR (aD 0) (aD 1))))))
def kF : Nat -> FD
 | 0 => kZ
 | n + 1 => run 3 2 (uQ (kF n))
def nW : FS :=
 (aT (bS (cM false (aB (cM false (aB (mC (.int 0)) (aB (mC (.int 0)) (aB (mC (.int 0)) (aB (mC (.int 1)) (aB (mC (.int 1)) aJ)))))) (aB (cM false (aB (mC (.int 0)) (aB (mC (.int 0)) (aB (mC (.int 2)) (aB (mC (.int 3)) (aB (mC (.int 1)) aJ)))))) (aB (cM false (aB (mC (.int 0)) (aB (mC (.int 6)) (aB (mC (.int 7)) (aB (mC (.int 8)) (aB (mC (.int 8)) aJ)))))) (aB (cM false (aB (mC (.int 0)) (aB (mC (.int 4)) (aB (mC (.int 5)) (aB (mC (.int 6)) (aB (mC (.int 7)) aJ)))))) (aB (cM false (aB (mC (.int 0)) (aB (mC (.int 1)) (aB (mC (.int 3)) (aB (mC (.int 6)) (aB (mC (.int 8)) aJ)))))) aJ)))))) (.nm 2))
 (aT (bS (bC (cZ false) (aD 2) (cM false (aB (cM false (aB (mC (.int 0)) (aB (mC (.int 1)) (aB (mC (.int 2)) (aB (mC (.int 3)) (aB (mC (.int 4)) (aB (mC (.int 5)) (aB (mC (.int 6)) (aB (mC (.int 7)) (aB (mC (.int 8)) aJ)))))))))) (aB (cM false (aB (mC (.int 1)) (aB (mC (.int 1)) (aB (mC (.int 2)) (aB (mC (.int 3)) (aB (mC (.int 4)) aJ)))))) (aB (cM false (aB (mC (.int 5)) (aB (mC (.int 6)) (aB (mC (.int 7)) (aB (mC (.int 8)) (aB (mC (.int 8)) aJ)))))) aJ))))) (.nm 2))
 (aT (bS (bC cL (aD 2) (aD 1)) (.nm 3))
 (aT (bS (bC cL (aD 3) (bA bU (aB (aD 0) (aB (m1 eP (aD 3)) aJ)))) (.nm 4))
 (aT (cN (mB (bC gR (aD 4) (mC (.int 0)))) (aT (bS (bC rP (bA bU (aB (aD 0) (aB (mC (.int 19)) aJ))) (mC (.int 9))) (.nm 5))
 (cC (bW (aB (mC (.str "go")) (aB (bC cL (cM false (aB (aD 5) (aB (mC (.int 2)) (aB (bC rP (bC vX (m1 xJ (aD 5)) (mC (.int 3))) (mC (.int 1))) (aB (mC (.int 1)) aJ))))) (bA bU (aB (aD 0) (aB (mC (.int 4)) aJ)))) aJ))))) bP)
 (aT (cN (mB (bC gR (aD 4) (mC (.int 1)))) (cC (bW (aB (mC (.str "turn")) (aB (bC (cZ false) (mC (.int 1)) (bA bU (aB (aD 0) (aB (mC (.int 3)) aJ)))) aJ)))) bP)
 (aT (cN (mB (bC gR (aD 4) (mC (.int 2)))) (cC (bW (aB (mC (.str "mirror")) aJ))) bP)
 (aT (cN (mB (bC gR (aD 4) (mC (.int 3)))) (cC (bW (aB (mC (.str "scale")) (aB (bC cL (bW (aB (m1 oG (mC (.int 1))) (aB (m1 oG (mC (.int 1))) (aB (m1 oG (mC (.int 1))) (aB (mC (.int 1)) (aB (mC (.int 1)) (aB (mC (.int 0)) (aB (mC (.int 2)) (aB (m1 oG (mC (.int 3))) aJ))))))))) (bA bU (aB (aD 0) (aB (mC (.int 8)) aJ)))) aJ)))) bP)
 (aT (cN (mB (bC DF (aD 4) (mC (.int 6)))) (cC (bW (aB (bC cL (bW (aB (mC (.str "aim")) (aB (mC (.str "place")) aJ))) (bC rP (aD 4) (mC (.int 4)))) (aB (bC rP (bA bU (aB (aD 0) (aB (mC (.int 19)) aJ))) (mC (.int 9))) (aB (bC rP (bA bU (aB (aD 0) (aB (mC (.int 19)) aJ))) (mC (.int 9))) aJ))))) bP)
 (cC (bW (aB (bC cL (bW (aB (mC (.str "mark")) (aB (mC (.str "return")) (aB (mC (.str "exchange")) aJ)))) (bC rP (aD 4) (mC (.int 6)))) aJ))))))))))))
def hX : FD := run 6 2 nW
def uS : FS :=
 (aT (bS (bC (cZ false) (mC (.int 1)) (bA bU (aB (aD 0) (aB (mC (.int 3)) aJ)))) (.nm 2))
 (aT (bS (bA bU (aB (aD 0) (aB (mC (.int 4)) aJ))) (.nm 3))
 (aT (cN (mB (bC gR (aD 1) (mC (.int 6)))) (bS (bC (cZ false) (mC (.int 1)) (bC vX (aD 3) (mC (.int 2)))) (.nm 3)) bP)
 (aT (cN (mB (bC gR (aD 1) (mC (.int 7)))) (bS (mC (.int 3)) (.nm 3)) bP)
 (aT (bS (cM false (aB (cM false (aB (bW (aB (mC (.str "go")) (aB (aD 2) aJ))) (aB (bW (aB (mC (.str "go")) (aB (m1 oG (aD 2)) aJ))) aJ))) (aB (cM false (aB (bW (aB (mC (.str "turn")) (aB (aD 2) aJ))) (aB (bW (aB (mC (.str "turn")) (aB (bC rP (mC (.int 4)) (aD 2)) aJ))) aJ))) (aB (cM false (aB (bW (aB (mC (.str "mirror")) aJ)) (aB (bW (aB (mC (.str "mirror")) aJ)) aJ))) aJ)))) (.nm 4))
 (cC (bC cL (bC (cZ false) (aD 4) (cM false (aB (cM false (aB (bW (aB (mC (.str "exchange")) aJ)) (aB (bW (aB (mC (.str "exchange")) aJ)) aJ))) aJ))) (aD 3))))))))
def oQ : FD := run 5 2 uS
def jS (f_L_piece : FD) : FS :=
 (eL [7] (cN (mB (bC DG (bC cL (aD 3) (mC (.int 0))) (mC (.int 0)))) (bS (bC (cZ false) (aD 6) (bA (f_L_piece) (aB (aD 0) (aB (aD 1) (aB (aD 2) (aB (aD 3) (aB (aD 4) (aB (aD 5) aJ)))))))) (.nm 6)) bP))
def sQ (f_L_piece : FD) : FS :=
 (aT (bS (cM false aJ) (.nm 6))
 (aT (kW (kH (bA bU (aB (aD 0) (aB (mC (.int 3)) aJ)))) (.nm 7) (jS (f_L_piece)))
 (cC (aD 6))))
def sN (f_L_block : FD) (f_L_piece : FD) : FS :=
 (aT (bS (bA bU (aB (aD 0) (aB (mC (.int 17)) aJ))) (.nm 6))
 (aT (cN (vP (mB (bC DG (aD 6) (mC (.int 6)))) (vP (mB (bC DF (aD 6) (mC (.int 15)))) (mB (bC DG (aD 2) (mC (.int 2)))))) (bS (bC vX (aD 6) (mC (.int 6))) (.nm 6)) bP)
 (aT (cN (vP (mB (bC gR (aD 6) (mC (.int 6)))) (mB (bC DF (bC cL (aD 3) (mC (.int 0))) (mC (.int 2))))) (bS (mC (.int 0)) (.nm 6)) bP)
 (aT (cN (vP (mB (bC DG (aD 6) (mC (.int 10)))) (vP (mB (bC DF (aD 6) (mC (.int 15)))) (uC (mB (bC DF (bC cL (aD 4) (mC (.int 0))) (mC (.int 1)))) (mB (bC fGe (aD 5) (bC cL (aD 4) (mC (.int 1)))))))) (bS (mC (.int 0)) (.nm 6)) bP)
 (aT (kI (fun x y => x - y) (aD 3) (mC (.int 0)) (mC (.int 1)))
 (aT (cN (mB (bC DF (aD 6) (mC (.int 6)))) (cC (cM false (aB (bA hX (aB (aD 0) (aB (aD 1) aJ))) aJ))) bP)
 (aT (cN (mB (bC gR (aD 6) (mC (.int 6)))) (aT (kI (fun x y => x - y) (aD 3) (mC (.int 0)) (mC (.int 1)))
 (aT (bS (bA oQ (aB (aD 0) (aB (aD 1) aJ))) (.nm 7))
 (aT (bS (cM false aJ) (.nm 8))
 (aT (cN (mB (bC DG (bC cL (aD 3) (mC (.int 0))) (mC (.int 0)))) (bS (bA (f_L_piece) (aB (aD 0) (aB (aD 1) (aB (aD 2) (aB (aD 3) (aB (aD 4) (aB (aD 5) aJ))))))) (.nm 8)) bP)
 (cC (bC (cZ false) (bC (cZ false) (Iz false (aD 7) AJ (sW (mC (.int 1)))) (aD 8)) (Iz false (aD 7) (sW (mC (.int 1))) AJ))))))) bP)
 (aT (cN (mB (bC DF (aD 6) (mC (.int 9)))) (aT (bS (bA (f_L_block) (aB (aD 0) (aB (aD 1) (aB (bC (cZ false) (aD 2) (mC (.int 1))) (aB (aD 3) (aB (aD 4) (aB (mC (.int 0)) aJ))))))) (.nm 9))
 (cC (cM false (aB (bW (aB (mC (.str "either")) (aB (aD 9) (aB (bA (f_L_block) (aB (aD 0) (aB (aD 1) (aB (bC (cZ false) (aD 2) (mC (.int 1))) (aB (aD 3) (aB (aD 4) (aB (aD 5) aJ))))))) aJ)))) aJ)))) bP)
 (aT (cN (mB (bC gR (aD 6) (mC (.int 9)))) (cC (cM false (aB (bW (aB (mC (.str "again")) (aB (bA (f_L_block) (aB (aD 0) (aB (aD 1) (aB (bC (cZ false) (aD 2) (mC (.int 1))) (aB (aD 3) (aB (aD 4) (aB (mC (.int 0)) aJ))))))) aJ))) aJ))) bP)
 (aT (cN (mB (bC gR (aD 6) (mC (.int 10)))) (cC (cM false (aB (bW (aB (mC (.str "keep")) (aB (bA (f_L_block) (aB (aD 0) (aB (aD 1) (aB (bC (cZ false) (aD 2) (mC (.int 1))) (aB (aD 3) (aB (aD 4) (aB (aD 5) aJ))))))) aJ))) aJ))) bP)
 (aT (cN (mB (bC DG (aD 6) (mC (.int 14)))) (cC (cM false (aB (bW (aB (mC (.str "end")) (aB (bA bU (aB (aD 0) (aB (mC (.int 2)) aJ))) aJ))) aJ))) bP)
 (aT (kI (fun x y => x - y) (aD 4) (mC (.int 0)) (mC (.int 1)))
 (aT (bS (bC (cZ false) (aD 5) (bA bU (aB (aD 0) (aB (bC rP (bC cL (aD 4) (mC (.int 1))) (aD 5)) aJ)))) (.nm 10))
 (aT (bS (bC gR (bA bU (aB (aD 0) (aB (mC (.int 3)) aJ))) (mC (.int 0))) (.nm 11))
 (aT (bS (bA (f_L_block) (aB (aD 0) (aB (aD 1) (aB (bC (cZ false) (aD 2) (mC (.int 1))) (aB (aD 3) (aB (aD 4) (aB (aD 5) aJ))))))) (.nm 9))
 (cC (cM false (aB (bW (aB (mC (.str "call")) (aB (aD 10) (aB (aD 11) (aB (cM false (aB (aD 9) (aB (bA (f_L_block) (aB (aD 0) (aB (aD 1) (aB (bC (cZ false) (aD 2) (mC (.int 1))) (aB (aD 3) (aB (aD 4) (aB (aD 5) aJ))))))) aJ))) aJ))))) aJ))))))))))))))))))
def vR : Nat -> FD × FD
 | 0 => (kZ, kZ)
 | n + 1 => let r := vR n
  (run 8 6 (sQ r.2), run 12 6 (sN r.1 r.2))
def sG (n : Nat) : FD := (vR n).1
def jX (n : Nat) : FD := (vR n).2
def qD : FS :=
 (aT (kI (fun x y => x - y) (aD 2) (mC (.int 0)) (mC (.int 4)))
 (aT (kI (fun x y => x - y) (aD 3) (mC (.int 0)) (mC (.int 1)))
 (aT (bS (bA bU (aB (aD 0) (aB (bC cL (aD 3) (mC (.int 1))) aJ))) (.nm 4))
 (aT (bS (bC gR (bA bU (aB (aD 0) (aB (mC (.int 3)) aJ))) (mC (.int 0))) (.nm 5))
 (aT (bS (bA bU (aB (aD 0) (aB (mC (.int 2)) aJ))) (.nm 6))
 (aT (bS (cM false (aB (bA hX (aB (aD 0) (aB (aD 1) aJ))) (aB (bA hX (aB (aD 0) (aB (aD 1) aJ))) aJ))) (.nm 7))
 (aT (cN (mB (bC gR (bA bU (aB (aD 0) (aB (mC (.int 2)) aJ))) (mC (.int 0)))) (bS (bA oQ (aB (aD 0) (aB (aD 1) aJ))) (.nm 7)) bP)
 (aT (bS (cM false (aB (cM false aJ) (aB (cM false (aB (bC cL (aD 7) (mC (.int 0))) (aB (bW (aB (mC (.str "call")) (aB (aD 4) (aB (aD 5) (aB (cM false (aB (cM false aJ) (aB (cM false aJ) aJ))) aJ))))) (aB (bC cL (aD 7) (mC (.int 1))) aJ)))) aJ))) (.nm 8))
 (cC (cM false (aB (bW (aB (mC (.str "either")) (aB (bC cL (aD 8) (aD 6)) (aB (bC cL (aD 8) (bC rP (mC (.int 1)) (aD 6))) aJ)))) aJ)))))))))))
def pQ : FD := run 9 4 qD
def jJ : FS :=
 (eL [7] (cN (mB (bC DG (bC cL (aD 2) (mC (.int 0))) (mC (.int 0)))) (bS (bC (cZ false) (aD 6) (bA (jX 30) (aB (aD 0) (aB (aD 1) (aB (mC (.int 0)) (aB (aD 2) (aB (aD 3) (aB (aD 4) aJ)))))))) (.nm 6)) bP))
def uW : FS :=
 (aT (bS (bA bU (aB (aD 0) (aB (mC (.int 6)) aJ))) (.nm 5))
 (aT (bS (cM false aJ) (.nm 6))
 (aT (cN (vP (mB (bC gR (bA bU (aB (aD 0) (aB (mC (.int 2)) aJ))) (mC (.int 0)))) (vP (mB (bC DG (bC cL (aD 2) (mC (.int 0))) (mC (.int 3)))) (mB (bC DG (bC cL (aD 3) (mC (.int 0))) (mC (.int 0)))))) (bS (bA pQ (aB (aD 0) (aB (aD 1) (aB (aD 2) (aB (aD 3) aJ))))) (.nm 6)) bP)
 (aT (kW (kH (bC (cZ false) (mC (.int 1)) (bA bU (aB (aD 0) (aB (mC (.int 4)) aJ))))) (.nm 7) jJ)
 (aT (bS (cM false (aB (cM false (aB (bW (aB (mC (.str "either")) (aB (cM false (aB (bW (aB (mC (.str "end")) (aB (mC (.int 1)) aJ))) aJ)) (aB (cM false aJ) aJ)))) aJ)) (aB (cM false (aB (bW (aB (mC (.str "end")) (aB (mC (.int 1)) aJ))) aJ)) aJ))) (.nm 8))
 (aT (cN (uC (mB (bC gR (aD 5) (mC (.int 1)))) (mB (bC gR (aD 5) (mC (.int 3))))) (cC (bC (cZ false) (aD 6) (bC cL (aD 8) (bC qK (aD 5) (mC (.int 2)))))) bP)
 (aT (cN (mB (bC gR (aD 5) (mC (.int 2)))) (cC (bC (cZ false) (bC cL (aD 8) (mC (.int 0))) (aD 6))) bP)
 (cC (aD 6)))))))))
def oT : FD := run 9 5 uW
def mU : FS :=
 (eL [8, 9, 10] (aT (bS (cM true (aB (bC rP (bC rP (aD 2) (mC (.int 2))) (m1 xJ (bC DG (aD 5) (mC (.int 2))))) aJ)) (.nm 9))
 (aT (bS (bC (cZ false) (aD 8) (mC (.int 1))) (.nm 10))
 (aT (cN (fD (aD 4)) (bS (mC (.int 0)) (.nm 10)) bP)
 (kY (sU (aD 7) (bA oT (aB (aD 0) (aB (aD 3) (aB (aD 9) (aB (aD 6) (aB (aD 10) aJ))))))))))))
def eY (f_placed : FD) : FS :=
 (eL [6, 7] (bS (bC (cZ true) (aD 2) (bA (f_placed) (aB (aD 7) (aB (bC (cZ false) (aD 5) (bW (aB (aD 6) aJ))) aJ)))) (.nm 2)))
def fV (f_placed : FD) : FS :=
 (eL [3, 4, 5, 6, 7] (aT (bS (bC (cZ false) (aD 1) (bW (aB (aD 3) aJ))) (.nm 5))
 (aT (kY (sU (aD 2) (bW (aB (aD 5) (aB (aD 4) aJ)))))
 (kW (qI (bA fU (aB (aD 4) aJ))) (.tp [6, 7]) (eY (f_placed))))))
def uO (f_placed : FD) : FS :=
 (aT (bS (cM true aJ) (.nm 2))
 (aT (kW (qI (aD 0)) (.tp [3, 4]) (fV (f_placed)))
 (cC (vO (aD 2)))))
def dX : Nat -> FD
 | 0 => kZ
 | n + 1 => tI 8 2 (uO (dX n))
def iG : FS :=
 (eL [4, 5] (aT (cN (uC (mM (fD (bA fZ (aB (aD 5) aJ)))) (mM (mB (pR IT DF (mC (.int 0)) (aD 5) (m1 eP (aD 3)))))) (cC (mC .non)) bP)
 (cN (mB (bC gR (bC vX (aD 4) (mC (.int 2))) (mC (.int 0)))) (aT (bS (bC cL (aD 3) (aD 5)) (.nm 2))
 (bS (bA fU (aB (aD 2) aJ)) (.nm 3))) (bS (bC cL (aD 3) (aD 5)) (.nm 3)))))
def fL : FS :=
 (eL [4, 5] (cN (mB (bC gR (bC cL (aD 5) (mC (.int 0))) (mC (.str "call")))) (kY (sU (aD 1) (bW (aB (aD 2) (aB (aD 4) aJ))))) bP))
def hL : FS :=
 (eL [2, 3, 4, 5] (kW (jY (bA (dX 10) (aB (aD 3) (aB (bW aJ) aJ)))) (.tp [4, 5]) fL))
def mS : FS :=
 (aT (bS (cM true aJ) (.nm 1))
 (aT (kW (qI (HA "Book" "own" (aD 0))) (.tp [2, 3]) hL)
 (cC (vO (aD 1)))))
def mL : FD := tI 6 1 mS
def dW (f_L_places : FD) : FS :=
 (eL [5] (bS (bC (cZ true) (aD 2) (bA (f_L_places) (aB (bC cL (aD 4) (aD 5)) (aB (bC (cZ false) (aD 1) (bW (aB (aD 3) (aB (aD 5) aJ)))) aJ)))) (.nm 2)))
def eC (f_L_places : FD) : FS :=
 (eL [3, 4, 5] (aT (kY (sU (aD 2) (bW (aB (bC (cZ false) (aD 1) (bW (aB (aD 3) aJ))) (aB (bC cL (aD 0) (aD 3)) aJ)))))
 (aT (bS (bA jM (aB (bC cL (aD 0) (aD 3)) aJ)) (.nm 4))
 (kW (kH (m1 eP (aD 4))) (.nm 5) (dW (f_L_places))))))
def pZ (f_L_places : FD) : FS :=
 (aT (bS (cM true aJ) (.nm 2))
 (aT (kW (kH (m1 eP (aD 0))) (.nm 3) (eC (f_L_places)))
 (cC (vO (aD 2)))))
def cW : Nat -> FD
 | 0 => kZ
 | n + 1 => tI 6 2 (pZ (cW n))
def fK : FS :=
 (eL [3] (kY (sU (aD 1) (bW (aB (aD 2) (aB (bC cL (aD 3) (mC (.int 0))) (aB (bC cL (aD 3) (mC (.int 1))) aJ)))))))
def fJ : FS :=
 (eL [2, 3] (kW (jY (bA (cW 10) (aB (bC cL (aD 0) (aD 2)) (aB (bW aJ) aJ)))) (.nm 3) fK))
def kQ : FS :=
 (aT (bS (cM true aJ) (.nm 1))
 (aT (kW (kH (m1 eP (aD 0))) (.nm 2) fJ)
 (cC (vO (aD 1)))))
def kG : FD := tI 4 1 kQ
def pB : FS :=
 (eL [8, 9, 10] (aT (bS (cM true (aB (bC rP (bC rP (aD 2) (mC (.int 2))) (m1 xJ (bC DG (aD 5) (mC (.int 2))))) aJ)) (.nm 9))
 (aT (bS (bC (cZ false) (aD 8) (mC (.int 1))) (.nm 10))
 (aT (cN (fD (aD 4)) (bS (mC (.int 0)) (.nm 10)) bP)
 (kY (sU (aD 7) (bA oT (aB (aD 0) (aB (aD 3) (aB (aD 9) (aB (aD 6) (aB (aD 10) aJ))))))))))))
def qB : FS :=
 (aT (bS (bA bU (aB (aD 0) (aB (mC (.int 6)) aJ))) (.nm 3))
 (aT (bS (bC gR (bA bU (aB (aD 0) (aB (mC (.int 8)) aJ))) (mC (.int 0))) (.nm 4))
 (aT (bS (bC (cZ false) (mC (.int 1)) (bA bU (aB (aD 0) (aB (aD 1) aJ)))) (.nm 5))
 (aT (bS (cM true (aB (mC (.int 4)) (aB (aD 5) aJ))) (.nm 6))
 (aT (bS (cM true aJ) (.nm 7))
 (aT (kW (kH (aD 5)) (.nm 8) pB)
 (cC (aD 7))))))))
def pP : FD := run 11 3 qB
theorem Bw {x0 : Vl} {S : aO} : mL [x0] S = trunc S.length (cS (mS [some x0, none, none, none, none, none] S)) := (rfl)
theorem EI {n : Nat} {x0 x1 : Vl} {S : aO} : cW (n + 1) [x0, x1] S = trunc S.length (cS ((pZ (cW n)) [some x0, some x1, none, none, none, none] S)) := (rfl)
theorem A9 {x0 : Vl} {S : aO} : kG [x0] S = trunc S.length (cS (kQ [some x0, none, none, none] S)) := (rfl)
theorem EJ {x0 x1 x2 : Vl} {S : aO} : pP [x0, x1, x2] S = cS (qB [some x0, some x1, some x2, none, none, none, none, none, none, none, none] S) := (rfl)
def cQ (f_flagged : FD) : FS :=
 (eL [8, 9] (kY (sU (aD 7) (bA (f_flagged) (aB (aD 9) (aB (bC (cZ false) (aD 6) (bW (aB (aD 8) aJ))) (aB (aD 2) aJ)))))))
def dR (f_flagged : FD) : FS :=
 (eL [4, 5, 6, 7, 8, 9] (aT (bS (bC (cZ false) (aD 1) (bW (aB (aD 4) aJ))) (.nm 6))
 (aT (bS (cM true aJ) (.nm 7))
 (aT (kW (qI (bA fU (aB (aD 5) aJ))) (.tp [8, 9]) (cQ (f_flagged)))
 (cN (mB (bC gR (bC cL (aD 5) (mC (.int 0))) (mC (.str "call")))) (kY (sU (aD 3) (bW (aB (mC (.str "call")) (aB (bC cL (aD 5) (mC (.int 1))) (aB (bC (wA false) (aD 6) (aD 2)) (aB (vO (aD 7)) aJ))))))) (kY (sU (aD 3) (bA eZ (aB (aD 5) (aB (vO (aD 7)) aJ))))))))))
def sM (f_flagged : FD) : FS :=
 (aT (bS (cM true aJ) (.nm 3))
 (aT (kW (qI (aD 0)) (.tp [4, 5]) (dR (f_flagged)))
 (cC (vO (aD 3)))))
def cF : Nat -> FD
 | 0 => kZ
 | n + 1 => tI 10 3 (sM (cF n))
theorem G6 {n : Nat} {x0 x1 x2 : Vl} {S : aO} : cF (n + 1) [x0, x1, x2] S = trunc S.length (cS ((sM (cF n)) [some x0, some x1, some x2, none, none, none, none, none, none, none] S)) := (rfl)
def bQ : FS :=
 (eL [3, 4] (cN (uC (mB (bC (vZ true) (aD 4) (aD 2))) (mB (bC (wA false) (aD 4) (Iz false (aD 1) AJ (sW (aD 3)))))) (eV "NoCall" ["index"] (aB (aD 3) aJ)) bP))
def dB : FS :=
 (eL [6, 7, 8] (aT (bS (xV false (jY (aD 1)) (.nm 4) (mB (bC gR (bC cL (aD 4) (mC (.int 0))) (aD 6))) (bC cL (aD 4) (mC (.int 1))) [4]) (.nm 8))
 (kY (sU (aD 5) (bA (cF 10) (aB (aD 7) (aB (bW aJ) (aB (aD 8) aJ))))))))
def eM : FS :=
 (aT (cN (mM (fD (m1 (fIsi "list") (aD 1)))) (eV "NoCall" ["index"] (aB (m1 oG (mC (.int 1))) aJ)) bP)
 (aT (bS (zJ "Book" "calls" mL (aD 0) aJ) (.nm 2))
 (aT (kW (qI (aD 1)) (.tp [3, 4]) bQ)
 (aT (bS (cM true aJ) (.nm 5))
 (aT (kW (qI (HA "Book" "own" (aD 0))) (.tp [6, 7]) dB)
 (cC (Eb false "Book" hY (aB (vO (aD 5)) aJ))))))))
def dE : FD := tI 9 2 eM
def jG (f_L_flagged_2 : FD) : FE :=
 (bA (f_L_flagged_2) (aB (bC cL (aD 8) (aD 9)) (aB (aD 1) (aB (bC (cZ false) (aD 7) (bW (aB (aD 9) aJ))) (aB (aD 3) aJ)))))
def eS (f_L_flagged_2 : FD) : FS :=
 (eL [5, 6, 7, 8] (aT (bS (bC cL (aD 0) (aD 5)) (.nm 6))
 (aT (bS (bC (cZ false) (aD 2) (bW (aB (aD 5) aJ))) (.nm 7))
 (aT (bS (bA jM (aB (aD 6) aJ)) (.nm 8))
 (aT (bS (xV false (kH (m1 eP (aD 8))) (.nm 9) lS (jG (f_L_flagged_2)) [9]) (.nm 8))
 (cN (mB (bC gR (bC cL (aD 6) (mC (.int 0))) (mC (.str "call")))) (kY (sU (aD 4) (bW (aB (mC (.str "call")) (aB (bC cL (aD 6) (mC (.int 1))) (aB (bC (wA false) (bW (aB (aD 1) (aB (aD 7) aJ))) (aD 3)) (aB (aD 8) aJ))))))) (kY (sU (aD 4) (bA lR (aB (aD 6) (aB (aD 8) aJ)))))))))))
def iZ (f_L_flagged_2 : FD) : FS :=
 (aT (bS (cM true aJ) (.nm 4))
 (aT (kW (kH (m1 eP (aD 0))) (.nm 5) (eS (f_L_flagged_2)))
 (cC (vO (aD 4)))))
def cU : Nat -> FD
 | 0 => kZ
 | n + 1 => tI 10 4 (iZ (cU n))
def lW : FS :=
 (aT (Am ["NoBook", "NoCall", "NoPath", "NoProcedure"] (bS (zJ "Book" "saved" dE (aD 0) (aB (aD 1) aJ)) (.nm 2)) "NoCall" 3 [.c (.str "NoCall") (.str "NoCall"), .f "index"])
 (cC (bW (aB (mC (.str "told")) (aB (zJ "Book" "bodies" iW (aD 2) aJ) aJ)))))
def cR : FD := run 4 2 lW
def uT : FS :=
 (aT (cN (mB (bC DG (aD 0) (mC (.int 1)))) (cC (aD 0)) bP)
 (cC (bC gR (aD 0) (mC (.int 1)))))
def oR : FD := run 1 1 uT
def fT : FS :=
 (eL [2] (cN (uC (mB (bC (vZ true) (bC cL (aD 0) (aD 2)) (aD 1))) (mB (bC (wA false) (bC cL (aD 0) (aD 2)) (Iz false (aD 0) AJ (sW (aD 2)))))) (cC (aD 2)) bP))
def sO : FS :=
 (aT (kW (kH (m1 eP (aD 0))) (.nm 2) fT)
 (cC (m1 oG (mC (.int 1)))))
def sE : FD := run 3 2 sO
def eW : FE :=
 (bW (aB (bA oR (aB (bC cL (aD 5) (mC (.int 0))) aJ)) (aB (m1 fTuple (xV false (jY (bC cL (aD 5) (mC (.int 1)))) (.nm 6) lS (bA oR (aB (aD 6) aJ)) [6])) aJ)))
def jH : FS :=
 (aT (bS (xV false (jY (aD 1)) (.nm 5) lS eW [5]) (.nm 3))
 (aT (bS (bA cR (aB (aD 0) (aB (aD 3) aJ))) (.nm 4))
 (aT (cN (uC (mB (bC vW (bC cL (aD 4) (mC (.int 0))) (mC (.str "told")))) (mM (fD (bA (kF 20) (aB (bC cL (aD 4) (mC (.int 1))) (aB (aD 2) aJ)))))) (cC (mC (.bl false))) bP)
 (cC (M6 (bC gR (m1 eP (aD 1)) (mC (.int 0))) (bC gR (bA cR (aB (aD 0) (aB (cM false (aB (bC cL (aD 1) (mC (.int 0))) (aB (bC cL (aD 3) (mC (.int 0))) aJ))) aJ))) (bW (aB (mC (.str "NoCall")) (aB (mC (.int 1)) aJ)))))))))
def gO : FD := run 7 3 jH
def hJ : FS :=
 (eL [3] (cN (vP (mB (bC DF (m1 eP (bC cL (aD 2) (mC (.int 0)))) (mC (.int 8)))) (mB (bC DF (m1 eP (bA (cW 10) (aB (bC cL (aD 2) (mC (.int 0))) (aB (bW aJ) aJ)))) (mC (.int 12))))) (zI (bC (cZ false) (bC cL (aD 2) (mC (.int 0))) (cM false (aB (bW (aB (mC (.str "call")) (aB (mC (.int 0)) (aB (bC gR (aD 3) (mC (.int 1))) (aB (cM false (aB (cM false aJ) (aB (cM false aJ) aJ))) aJ))))) aJ))) (aD 2) (mC (.int 0))) bP))
def sP : FS :=
 (aT (bS (bA pP (aB (aD 0) (aB (mC (.int 3)) (aB (mC (.int 7)) aJ)))) (.nm 2))
 (aT (kW (kH (aD 1)) (.nm 3) hJ)
 (cC (vO (aD 2)))))
def sF : FD := tI 4 2 sP
def qL (f_L_flagged_v : FD) : FE :=
 (bA (f_L_flagged_v) (aB (bC cL (aD 8) (aD 9)) (aB (aD 1) (aB (bC (cZ false) (aD 7) (bW (aB (aD 9) aJ))) (aB (aD 3) aJ)))))
def qE (f_L_flagged_v : FD) : FS :=
 (eL [5, 6, 7, 8] (aT (bS (bC cL (aD 0) (aD 5)) (.nm 6))
 (aT (bS (bC (cZ false) (aD 2) (bW (aB (aD 5) aJ))) (.nm 7))
 (aT (bS (bA jM (aB (aD 6) aJ)) (.nm 8))
 (aT (bS (xV false (kH (m1 eP (aD 8))) (.nm 9) lS (qL (f_L_flagged_v)) [9]) (.nm 8))
 (cN (mB (bC gR (bC cL (aD 6) (mC (.int 0))) (mC (.str "call")))) (kY (sU (aD 4) (bW (aB (mC (.str "call")) (aB (bC cL (aD 6) (mC (.int 1))) (aB (bC (wA false) (bW (aB (aD 1) (aB (aD 7) aJ))) (aD 3)) (aB (aD 8) aJ))))))) (kY (sU (aD 4) (bA lR (aB (aD 6) (aB (aD 8) aJ)))))))))))
def oH (f_L_flagged_v : FD) : FS :=
 (aT (bS (cM true aJ) (.nm 4))
 (aT (kW (kH (m1 eP (aD 0))) (.nm 5) (qE (f_L_flagged_v)))
 (cC (vO (aD 4)))))
def iV : Nat -> FD
 | 0 => kZ
 | n + 1 => tI 10 4 (oH (iV n))
def nS : FE :=
 (bW (aB (bC cL (aD 9) (mC (.int 0))) (aB (bC cL (aD 9) (mC (.int 1))) aJ)))
def hG : FS :=
 (eL [9] (cN (mB (bC gR (bA bU (aB (aD 1) (aB (mC (.int 2)) aJ))) (mC (.int 0)))) (kY (Jc (aD 8) (bA bU (aB (aD 1) (aB (bC (cZ false) (m1 eP (aD 8)) (mC (.int 1))) aJ))) (aD 9))) bP))
def nR : FE :=
 (bA (iV 10) (aB (bC cL (aD 4) (aD 16)) (aB (aD 16) (aB (bW aJ) (aB (aD 8) aJ)))))
def nQ : FE :=
 (bW (aB (bC cL (aD 9) (mC (.int 0))) (aB (bC cL (aD 9) (mC (.int 1))) aJ)))
def lO : FS :=
 (eL [13, 14] (aT (bS (cM false (aB (bW (aB (mC (.int 0)) (aB (bW aJ) aJ))) (aB (bW (aB (mC (.int 3)) (aB (bW (aB (mC (.int 0)) aJ)) aJ))) (aB (mC .non) (aB (mC (.str "call")) (aB (cM false (aB (mC (.int 0)) (aB (bW (aB (mC (.int 0)) aJ)) aJ))) (aB (bW (aB (mC (.int 0)) (aB (bW (aB (mC (.int 0)) (aB (mC (.int 0)) aJ))) aJ))) (aB (bW (aB (m1 oG (mC (.int 1))) (aB (bW (aB (mC (.int 0)) aJ)) aJ))) (aB (bW (aB (mC (.int 0)) (aB (bW (aB (cM false (aB (mC (.int 0)) aJ)) aJ)) aJ))) (aB (bW (aB (mC .dct) (aB (bW (aB (mC (.int 0)) aJ)) aJ))) aJ)))))))))) (.nm 14))
 (aT (bS (bC (cZ false) (bC (cZ false) (aD 14) (aD 8)) (xV false (jY (aD 6)) (.nm 9) (mB (bC vW (bC cL (bC cL (aD 9) (mC (.int 2))) (mC (.int 0))) (mC (.str "call")))) nQ [9])) (.nm 14))
 (kY (Jc (aD 8) (bA bU (aB (aD 1) (aB (bC (cZ false) (m1 eP (aD 8)) (mC (.int 1))) aJ))) (bC cL (aD 14) (bA bU (aB (aD 1) (aB (m1 eP (aD 14)) aJ)))))))))
def nP : FE :=
 (bA (cU 10) (aB (bC cL (aD 4) (aD 16)) (aB (aD 16) (aB (bW aJ) (aB (cM false aJ) aJ)))))
def qZ : FS :=
 (aT (cN (mM (fD (bA (kF 20) (aB (bC cL (bA cR (aB (aD 5) (aB (cM false aJ) aJ))) (mC (.int 1))) (aB (xV false (kH (m1 eP (aD 4))) (.nm 16) lS nP [16]) aJ))))) (cC (mC (.bl false))) bP)
 (cC (bA (kF 20) (aB (zJ "Book" "bodies" iW (aD 5) aJ) (aB (aD 4) aJ)))))
def nH : FS :=
 (aT (cN (uC (mB (bC vW (bA cR (aB (aD 5) (aB (m1 fTuple (aD 8)) aJ))) (bW (aB (mC (.str "NoCall")) (aB (m1 oG (mC (.int 1))) aJ))))) (mB (bC vW (bA cR (aB (aD 5) (aB (mC .non) aJ))) (bW (aB (mC (.str "NoCall")) (aB (m1 oG (mC (.int 1))) aJ)))))) (cC (mC (.bl false))) bP)
 qZ)
def nG : FS :=
 (aT (cN (vP (mB (bC DF (aD 15) (mC (.int 0)))) (mB (bC vW (bC cL (aD 12) (mC (.int 0))) (mC (.str "told"))))) (cC (mC (.bl false))) bP)
 nH)
def pJ : FS :=
 (aT (An 8) (aT (bS (bA sE (aB (aD 8) (aB (aD 7) aJ))) (.nm 15))
 (aT (bS (bA cR (aB (aD 5) (aB (m1 (rQ false) (aD 8)) aJ))) (.nm 12))
 (aT (cN (vP (mB (bC fGe (aD 15) (mC (.int 0)))) (mB (bC vW (aD 12) (bW (aB (mC (.str "NoCall")) (aB (aD 15) aJ)))))) (cC (mC (.bl false))) bP)
 nG))))
def pI : FS :=
 (aT (kW (kH (aD 3)) (.nm 13) lO)
 pJ)
def pH : FS :=
 (aT (cN (mM (fD (mRd gO (aB (aD 5) (aB (aD 8) (aB (aD 10) aJ)))))) (cC (mC (.bl false))) bP)
 pI)
def pG : FS :=
 (aT (bS (xV false (kH (m1 eP (aD 4))) (.nm 16) lS nR [16]) (.nm 10))
 (aT (bS (m1 (rQ false) (aD 8)) (.nm 11))
 (aT (bS (bA cR (aB (aD 5) (aB (aD 11) aJ))) (.nm 12))
 (aT (cN (uC (mB (bC vW (bC cL (aD 12) (mC (.int 0))) (mC (.str "told")))) (uC (mM (fD (bA (kF 20) (aB (bC cL (aD 12) (mC (.int 1))) (aB (aD 10) aJ))))) (mB (bC vW (aD 11) (aD 8))))) (cC (mC (.bl false))) bP)
 pH))))
def oW : FS :=
 (aT (bS (bA uB (aB (aD 0) aJ)) (.nm 1))
 (aT (bS (bA bU (aB (aD 1) (aB (mC (.int 4)) aJ))) (.nm 2))
 (aT (bS (bA bU (aB (aD 1) (aB (mC (.int 3)) aJ))) (.nm 3))
 (aT (bS (bA sF (aB (aD 1) (aB (aD 2) aJ))) (.nm 4))
 (aT (bS (Eb false "Book" hY (aB (bA pO (aB (aD 4) aJ)) aJ)) (.nm 5))
 (aT (bS (bA kG (aB (aD 4) aJ)) (.nm 6))
 (aT (bS (xV false (jY (aD 6)) (.nm 9) (mB (bC gR (bC cL (bC cL (aD 9) (mC (.int 2))) (mC (.int 0))) (mC (.str "call")))) nS [9]) (.nm 7))
 (aT (bS (cM true aJ) (.nm 8))
 (aT (kW (jY (aD 7)) (.nm 9) hG)
 pG)))))))))
def m_law_k11 : FD := tI 17 1 oW
theorem kS {x0 x1 : Vl} {S : aO} : dE [x0, x1] S = trunc S.length (cS (eM [some x0, some x1, none, none, none, none, none, none, none] S)) := (rfl)
theorem AO {n : Nat} {x0 x1 x2 x3 : Vl} {S : aO} : cU (n + 1) [x0, x1, x2, x3] S = trunc S.length (cS ((iZ (cU n)) [some x0, some x1, some x2, some x3, none, none, none, none, none, none] S)) := (rfl)
theorem xC {x0 x1 : Vl} {S : aO} : cR [x0, x1] S = cS (lW [some x0, some x1, none, none] S) := (rfl)
theorem Iu {x0 : Vl} {S : aO} : oR [x0] S = cS (uT [some x0] S) := (rfl)
theorem G7 {x0 x1 : Vl} {S : aO} : sE [x0, x1] S = cS (sO [some x0, some x1, none] S) := (rfl)
theorem xN {x0 x1 x2 : Vl} {S : aO} : gO [x0, x1, x2] S = cS (jH [some x0, some x1, some x2, none, none, none, none] S) := (rfl)
theorem G8 {x0 x1 : Vl} {S : aO} : sF [x0, x1] S = trunc S.length (cS (sP [some x0, some x1, none, none] S)) := (rfl)
theorem G5 {x0 : Vl} {S : aO} : m_law_k11 [x0] S = trunc S.length (cS (oW [some x0, none, none, none, none, none, none, none, none, none, none, none, none, none, none, none, none] S)) := (rfl)
end PH
namespace PHZ
open PH PySem PySem.Spec PyProof.Rows L2
theorem AD : FnScope ["value"] ["value"] (defScope pD) := ⟨rfl, rfl, rfl, by decide +kernel, rfl, by decide +kernel, by decide +kernel⟩
theorem FF : FnScope ["value"] ["value"] (defScope yQ) := ⟨rfl, rfl, rfl, by decide +kernel, rfl, by decide +kernel, by decide +kernel⟩
theorem AE : FnScope ["value", "many", "low", "high", "number"] ["value"] (defScope mG) := ⟨rfl, rfl, rfl, by decide +kernel, rfl, by decide +kernel, by decide +kernel⟩
theorem BP : FnScope ["statement", "word"] ["statement"] (defScope qW) := ⟨rfl, rfl, rfl, by decide +kernel, rfl, by decide +kernel, by decide +kernel⟩
theorem yG : FnScope ["statement", "blocks", "word"] ["statement", "blocks"] (defScope nZ) := ⟨rfl, rfl, rfl, by decide +kernel, rfl, by decide +kernel, by decide +kernel⟩
theorem qF : FnScope ["block", "statement"] ["block"] (defScope kA) := ⟨rfl, rfl, rfl, by decide +kernel, rfl, by decide +kernel, by decide +kernel⟩
theorem mD : FnScope ["statement", "block"] ["statement"] (defScope fW) := ⟨rfl, rfl, rfl, by decide +kernel, rfl, by decide +kernel, by decide +kernel⟩
theorem yH : FnScope ["value", "level", "many", "word"] ["value", "level", "many"] (defScope oA) := ⟨rfl, rfl, rfl, by decide +kernel, rfl, by decide +kernel, by decide +kernel⟩
theorem qT : FnScope ["block", "level", "many", "path", "met", "at", "statement", "here", "number", "inner", "fault"] ["block", "level", "many", "path", "met"] (defScope oB) := ⟨rfl, rfl, rfl, by decide +kernel, rfl, by decide +kernel, by decide +kernel⟩
theorem AY : FnScope ["block", "path", "found", "at", "statement", "here", "number", "inner"] ["block", "path"] (defScope yP) := ⟨rfl, rfl, rfl, by decide +kernel, rfl, by decide +kernel, by decide +kernel⟩
theorem yI : FnScope ["block", "path", "chosen", "result", "at", "statement", "here", "blocks", "number", "inner"] ["block", "path", "chosen"] (defScope vD) := ⟨rfl, rfl, rfl, by decide +kernel, rfl, by decide +kernel, by decide +kernel⟩
theorem BS : FnScope ["self", "bodies", "procedure", "body", "fault", "met"] ["self", "bodies"] (defScope jU) := ⟨rfl, rfl, rfl, by decide +kernel, rfl, by decide +kernel, by decide +kernel⟩
theorem yL : FnScope ["self", "body"] ["self"] (defScope gQ) := ⟨rfl, rfl, rfl, by decide +kernel, rfl, by decide +kernel, by decide +kernel⟩
theorem AF : FnScope ["self", "found", "procedure", "body", "path", "statement"] ["self"] (defScope kB) := ⟨rfl, rfl, rfl, by decide +kernel, rfl, by decide +kernel, by decide +kernel⟩
theorem xE : FnScope ["self", "calls", "known", "index", "call", "bodies", "procedure", "body", "chosen"] ["self", "calls"] (defScope fP) := ⟨rfl, rfl, rfl, by decide +kernel, rfl, by decide +kernel, by decide +kernel⟩
theorem FH : FnScope ["_law_script", "_law_cell"] ["_law_script"] (defScope tX) := ⟨rfl, rfl, rfl, by decide +kernel, rfl, by decide +kernel, by decide +kernel⟩
theorem FL : FnScope ["_law_pool_here", "_law_many", "_law_at", "_law_cell", "_law_number"] ["_law_pool_here", "_law_many"] (defScope yW) := ⟨rfl, rfl, rfl, by decide +kernel, rfl, by decide +kernel, by decide +kernel⟩
theorem BR : FnScope ["_law_pool_here", "_law_mood", "_law_menus", "_law_menu", "_law_kind", "_law_far"] ["_law_pool_here", "_law_mood"] (defScope qY) := ⟨rfl, rfl, rfl, by decide +kernel, rfl, by decide +kernel, by decide +kernel⟩
theorem FJ : FnScope ["_law_pool_here", "_law_mood", "_law_k", "_law_kind", "_law_rows"] ["_law_pool_here", "_law_mood"] (defScope yU) := ⟨rfl, rfl, rfl, by decide +kernel, rfl, by decide +kernel, by decide +kernel⟩
theorem yJ : FnScope ["_law_pool_here", "_law_mood", "_law_level", "_law_room", "_law_calls", "_law_low", "_law_kind", "_law_pair_here", "_law_inner", "_law_one", "_law_goal", "_law_saved_here"] ["_law_pool_here", "_law_mood", "_law_level", "_law_room", "_law_calls", "_law_low"] (defScope vE) := ⟨rfl, rfl, rfl, by decide +kernel, rfl, by decide +kernel, by decide +kernel⟩
theorem yK : FnScope ["_law_pool_here", "_law_mood", "_law_level", "_law_room", "_law_calls", "_law_low", "_law_block_here", "_law_turn"] ["_law_pool_here", "_law_mood", "_law_level", "_law_room", "_law_calls", "_law_low"] (defScope vH) := ⟨rfl, rfl, rfl, by decide +kernel, rfl, by decide +kernel, by decide +kernel⟩
theorem CA : FnScope ["_law_pool_here", "_law_mood", "_law_room", "_law_calls", "_law_goal", "_law_saved_here", "_law_at", "_law_pair_here", "_law_rows"] ["_law_pool_here", "_law_mood", "_law_room", "_law_calls"] (defScope tH) := ⟨rfl, rfl, rfl, by decide +kernel, rfl, by decide +kernel, by decide +kernel⟩
theorem FM : FnScope ["_law_pool_here", "_law_mood", "_law_room", "_law_calls", "_law_low", "_law_ending", "_law_body_here", "_law_turn", "_law_rows"] ["_law_pool_here", "_law_mood", "_law_room", "_law_calls", "_law_low"] (defScope yX) := ⟨rfl, rfl, rfl, by decide +kernel, rfl, by decide +kernel, by decide +kernel⟩
theorem C9 : FnScope ["_law_statement", "_law_item"] ["_law_statement"] (defScope pF) := ⟨rfl, rfl, rfl, by decide +kernel, rfl, by decide +kernel, by decide +kernel⟩
theorem FG : FnScope ["_law_statement", "_law_blocks_here"] ["_law_statement", "_law_blocks_here"] (defScope yT) := ⟨rfl, rfl, rfl, by decide +kernel, rfl, by decide +kernel, by decide +kernel⟩
theorem Aa : FnScope ["_law_block_here", "_law_row", "_law_inner"] ["_law_block_here"] (defScope tY) := ⟨rfl, rfl, rfl, by decide +kernel, rfl, by decide +kernel, by decide +kernel⟩
theorem C7 : FnScope ["_law_bodies", "_law_body_here"] ["_law_bodies"] (defScope pE) := ⟨rfl, rfl, rfl, by decide +kernel, rfl, by decide +kernel, by decide +kernel⟩
theorem wL : FnScope ["_law_block_here", "_law_path", "_law_places_here", "_law_at", "_law_blocks_here", "_law_number"] ["_law_block_here", "_law_path"] (defScope tF) := ⟨rfl, rfl, rfl, by decide +kernel, rfl, by decide +kernel, by decide +kernel⟩
theorem xD : FnScope ["_law_bodies", "_law_places_here", "_law_procedure", "_law_place"] ["_law_bodies"] (defScope mV) := ⟨rfl, rfl, rfl, by decide +kernel, rfl, by decide +kernel, by decide +kernel⟩
theorem AZ : FnScope ["_law_one", "_law_other", "_law_k"] ["_law_one", "_law_other"] (defScope tW) := ⟨rfl, rfl, rfl, by decide +kernel, rfl, by decide +kernel, by decide +kernel⟩
theorem qV : FnScope ["_law_block_here", "_law_procedure", "_law_path", "_law_chosen", "_law_result", "_law_at", "_law_statement", "_law_here", "_law_blocks_here", "_law_k"] ["_law_block_here", "_law_procedure", "_law_path", "_law_chosen"] (defScope lI) := ⟨rfl, rfl, rfl, by decide +kernel, rfl, by decide +kernel, by decide +kernel⟩
theorem BQ : FnScope ["_law_book_here", "_law_calls", "_law_answer", "e"] ["_law_book_here", "_law_calls"] (defScope qX) := ⟨rfl, rfl, rfl, by decide +kernel, rfl, by decide +kernel, by decide +kernel⟩
theorem FK : FnScope ["_law_number"] ["_law_number"] (defScope yV) := ⟨rfl, rfl, rfl, by decide +kernel, rfl, by decide +kernel, by decide +kernel⟩
theorem DP : FnScope ["_law_calls", "_law_places_here", "_law_at"] ["_law_calls", "_law_places_here"] (defScope vF) := ⟨rfl, rfl, rfl, by decide +kernel, rfl, by decide +kernel, by decide +kernel⟩
theorem vB : FnScope ["_law_book_here", "_law_calls", "_law_due_here", "_law_twins", "_law_answer", "_law_call", "_law_number"] ["_law_book_here", "_law_calls", "_law_due_here"] (defScope jD) := ⟨rfl, rfl, rfl, by decide +kernel, rfl, by decide +kernel, by decide +kernel⟩
theorem C8 : FnScope ["_law_pool_here", "_law_most", "_law_size", "_law_mood", "_law_wild", "_law_many", "_law_calls", "_law_bodies", "_law_procedure", "_law_room", "_law_low"] ["_law_pool_here", "_law_most", "_law_size"] (defScope tG) := ⟨rfl, rfl, rfl, by decide +kernel, rfl, by decide +kernel, by decide +kernel⟩
theorem DQ : FnScope ["_law_pool_here", "_law_more", "_law_bodies", "_law_step"] ["_law_pool_here", "_law_more"] (defScope vG) := ⟨rfl, rfl, rfl, by decide +kernel, rfl, by decide +kernel, by decide +kernel⟩
theorem qU : FnScope ["_law_block_here", "_law_procedure", "_law_path", "_law_chosen", "_law_result", "_law_at", "_law_statement", "_law_here", "_law_blocks_here", "_law_k"] ["_law_block_here", "_law_procedure", "_law_path", "_law_chosen"] (defScope lH) := ⟨rfl, rfl, rfl, by decide +kernel, rfl, by decide +kernel, by decide +kernel⟩
theorem sc_law_k11 : FnScope ["_law_script", "_law_pool_here", "_law_more", "_law_faults", "_law_bodies", "_law_book_here", "_law_every", "_law_places_here", "_law_calls", "_law_place", "_law_due_here", "_law_passed", "_law_answer", "_law_step", "_law_wrong", "_law_index", "_law_k"] ["_law_script"] (defScope jT) := ⟨rfl, rfl, rfl, by decide +kernel, rfl, by decide +kernel, by decide +kernel⟩
theorem DO : FnScope ["self", "procedure", "path"] ["self", "procedure", "path"] (defScope oN) := ⟨rfl, rfl, rfl, by decide +kernel, rfl, by decide +kernel, by decide +kernel⟩
theorem DN : FnScope ["self", "index"] ["self", "index"] (defScope oM) := ⟨rfl, rfl, rfl, by decide +kernel, rfl, by decide +kernel, by decide +kernel⟩
structure Txt (w : World) (K : aC) (mg : Str -> Option Value) : Prop where
 n_isinstance : mg "isinstance" = none
 n_int : mg "int" = none
 n_bool : mg "bool" = none
 n_tuple : mg "tuple" = none
 n_len : mg "len" = none
 n_str : mg "str" = none
 lim : Lim K
 k_LIMITS : ∃ es n, KDict K w (He.ga K "LIMITS") es n
 g_LIMITS : mg "LIMITS" = some (.ref (He.ga K "LIMITS"))
 n_all : mg "all" = none
 i_DEEPEST : ∃ t, mg "DEEPEST" = some (.int 3 t)
 n_list : mg "list" = none
 n_enumerate : mg "enumerate" = none
 i_MOST_IN_LIST : ∃ t, mg "MOST_IN_LIST" = some (.int 8 t)
 i_MOST_IN_PROCEDURE : ∃ t, mg "MOST_IN_PROCEDURE" = some (.int 12 t)
 i_MOST_PROCEDURES : ∃ t, mg "MOST_PROCEDURES" = some (.int 3 t)
 xa_NoBook : XaF K mg "NoBook" ["procedure", "path"]
 fx_NoBook : J1 K "NoBook" "__init__" "NoBook.__init__" oN
 c_Book : Cls K (He.ga K "Book")
 a_Book_own : NoAttr K (He.ga K "Book") "own"
 xa_NoCall : XaF K mg "NoCall" ["index"]
 fx_NoCall : J1 K "NoCall" "__init__" "NoCall.__init__" oM
 T_Book : ClF K mg "Book"
 n_range : mg "range" = none
 xm : XMs K ["NoBook", "NoCall", "NoPath", "NoProcedure"]
 G_is_integer : mg "is_integer" = some (.ref (He.ga K "is_integer"))
 f_is_integer : oZ K "is_integer" pD
 G_is_bit : mg "is_bit" = some (.ref (He.ga K "is_bit"))
 f_is_bit : oZ K "is_bit" yQ
 G_is_command : mg "is_command" = some (.ref (He.ga K "is_command"))
 f_is_command : oZ K "is_command" mG
 G_blocks_of : mg "blocks_of" = some (.ref (He.ga K "blocks_of"))
 f_blocks_of : oZ K "blocks_of" qW
 G_with_blocks : mg "with_blocks" = some (.ref (He.ga K "with_blocks"))
 f_with_blocks : oZ K "with_blocks" nZ
 G_copied_block : mg "copied_block" = some (.ref (He.ga K "copied_block"))
 f_copied_block : oZ K "copied_block" kA
 G_copied_statement : mg "copied_statement" = some (.ref (He.ga K "copied_statement"))
 f_copied_statement : oZ K "copied_statement" fW
 G_well_formed : mg "well_formed" = some (.ref (He.ga K "well_formed"))
 f_well_formed : oZ K "well_formed" oA
 G_first_fault : mg "first_fault" = some (.ref (He.ga K "first_fault"))
 f_first_fault : oZ K "first_fault" oB
 G_placed : mg "placed" = some (.ref (He.ga K "placed"))
 f_placed : oZ K "placed" yP
 G_flagged : mg "flagged" = some (.ref (He.ga K "flagged"))
 f_flagged : oZ K "flagged" vD
 M_Book_init : Meth K (He.ga K "Book") "__init__" (He.ma K (He.ga K "Book") "__init__")
 f_Book_init : J1 K "Book" "__init__" "Book.__init__" jU
 M_Book_bodies : Meth K (He.ga K "Book") "bodies" (He.ma K (He.ga K "Book") "bodies")
 f_Book_bodies : J1 K "Book" "bodies" "Book.bodies" gQ
 M_Book_calls : Meth K (He.ga K "Book") "calls" (He.ma K (He.ga K "Book") "calls")
 f_Book_calls : J1 K "Book" "calls" "Book.calls" kB
 M_Book_saved_2 : Meth K (He.ga K "Book") "saved" (He.ma K (He.ga K "Book") "saved")
 f_Book_saved_2 : J1 K "Book" "saved" "Book.saved" fP
 G_L_pool : mg "_law_pool" = some (.ref (He.ga K "_law_pool"))
 f_L_pool : oZ K "_law_pool" tX
 G_L_draw : mg "_law_draw" = some (.ref (He.ga K "_law_draw"))
 f_L_draw : oZ K "_law_draw" yW
 G_L_command : mg "_law_command" = some (.ref (He.ga K "_law_command"))
 f_L_command : oZ K "_law_command" qY
 G_L_pair : mg "_law_pair" = some (.ref (He.ga K "_law_pair"))
 f_L_pair : oZ K "_law_pair" yU
 G_L_piece : mg "_law_piece" = some (.ref (He.ga K "_law_piece"))
 f_L_piece : oZ K "_law_piece" vE
 G_L_block : mg "_law_block" = some (.ref (He.ga K "_law_block"))
 f_L_block : oZ K "_law_block" vH
 G_L_around : mg "_law_around" = some (.ref (He.ga K "_law_around"))
 f_L_around : oZ K "_law_around" tH
 G_L_body : mg "_law_body" = some (.ref (He.ga K "_law_body"))
 f_L_body : oZ K "_law_body" yX
 G_L_blocks : mg "_law_blocks" = some (.ref (He.ga K "_law_blocks"))
 f_L_blocks : oZ K "_law_blocks" pF
 G_L_with : mg "_law_with" = some (.ref (He.ga K "_law_with"))
 f_L_with : oZ K "_law_with" yT
 G_L_copy : mg "_law_copy" = some (.ref (He.ga K "_law_copy"))
 f_L_copy : oZ K "_law_copy" tY
 G_L_copies : mg "_law_copies" = some (.ref (He.ga K "_law_copies"))
 f_L_copies : oZ K "_law_copies" pE
 G_L_places : mg "_law_places" = some (.ref (He.ga K "_law_places"))
 f_L_places : oZ K "_law_places" tF
 G_L_all_places : mg "_law_all_places" = some (.ref (He.ga K "_law_all_places"))
 f_L_all_places : oZ K "_law_all_places" mV
 G_L_same : mg "_law_same" = some (.ref (He.ga K "_law_same"))
 f_L_same : oZ K "_law_same" tW
 G_L_flagged_2 : mg "_law_flagged" = some (.ref (He.ga K "_law_flagged"))
 f_L_flagged_2 : oZ K "_law_flagged" lI
 G_L_saved_2 : mg "_law_saved" = some (.ref (He.ga K "_law_saved"))
 f_L_saved_2 : oZ K "_law_saved" qX
 G_L_flag : mg "_law_flag" = some (.ref (He.ga K "_law_flag"))
 f_L_flag : oZ K "_law_flag" yV
 G_L_due_4 : mg "_law_due" = some (.ref (He.ga K "_law_due"))
 f_L_due_4 : oZ K "_law_due" vF
 G_L_twins_right : mg "_law_twins_right" = some (.ref (He.ga K "_law_twins_right"))
 f_L_twins_right : oZ K "_law_twins_right" jD
 G_L_book_c : mg "_law_book" = some (.ref (He.ga K "_law_book"))
 f_L_book_c : oZ K "_law_book" tG
 G_L_drawn : mg "_law_drawn" = some (.ref (He.ga K "_law_drawn"))
 f_L_drawn : oZ K "_law_drawn" vG
 G_L_flagged_v : mg "_law_flagged" = some (.ref (He.ga K "_law_flagged"))
 f_L_flagged_v : oZ K "_law_flagged" lH
 G_law_k11 : mg "law" = some (.ref (He.ga K "law"))
 f_law_k11 : oZ K "law" jT
section
variable {P : Program} {w : World} {K : aC} {mg : Str -> Option Value} {base : Heap}
theorem xa_NoBook (T : Txt w K mg) : XcA P w K mg base 1 "NoBook" ["self", "procedure", "path"] (Ln (He.ga K "NoBook") "procedure" "path") :=
 Gy (m := "__init__") T.xa_NoBook T.fx_NoBook DO GT (fun _ _ _ _ _ _ us hl => match us, hl with | [_, _, _], _ => rfl) fun cdv A outer s H vs Q E hr hsp => by
  obtain ⟨a, y, z, e, ha, h⟩ := hsp;subst e;exact ⟨_, (pss_cons (ps_ost (cv 0) (cv 1)) (pss_one (ps_ost (cv 0) (cv 2)))), rd_X2 T.xa_NoBook (by simp) (by simp) ha (fun _ _ => rfl) h⟩
theorem xa_NoCall (T : Txt w K mg) : XcA P w K mg base 1 "NoCall" ["self", "index"] (Lo (He.ga K "NoCall") "index") :=
 Gy (m := "__init__") T.xa_NoCall T.fx_NoCall DN GU (fun _ _ _ _ _ _ us hl => match us, hl with | [_, _], _ => rfl) fun cdv A outer s H vs Q E hr hsp => by
  obtain ⟨a, y, e, ha, h⟩ := hsp;subst e;exact ⟨_, (pss_one (ps_ost (cv 0) (cv 1))), rd_X1 T.xa_NoCall (by simp) ha (fun _ _ => rfl) h⟩
theorem oC (T : Txt w K mg) : oK P w K mg base 1 "is_integer" ["value"] (spF K fZ) :=
 iI (k := 0) T.f_is_integer T.G_is_integer AD (Runs.plain (n := 1) (np := 1)) (fun _ _ _ _ _ _ us hl => match us, hl with | [_], _ => rfl) fun _ _ _ _ _ _ hr tk nd => by
  unfold mR;exact (aH (aX (oF (gP (T := "int") T.n_isinstance T.n_int (fv 0)) (pe_one (N7 (gP (T := "bool") T.n_isinstance T.n_bool (fv 0)))))))
theorem FY (T : Txt w K mg) : oK P w K mg base 2 "is_bit" ["value"] (spF K uA) :=
 iI (k := 1) T.f_is_bit T.G_is_bit FF (Runs.plain (n := 1) (np := 1)) (fun _ _ _ _ _ _ us hl => match us, hl with | [_], _ => rfl) fun _ _ _ _ _ _ hr tk nd => by
  unfold uP;exact (aH (aX (oF (aS (oC T) hr tk (aA (fv 0) aF)) (pe_one (Es tK DU tK DU fI (fv 0) fI)))))
theorem AG (T : Txt w K mg) : oK P w K mg base 2 "is_command" ["value"] (spF K iJ) :=
 iI (k := 1) T.f_is_command T.G_is_command AE (Runs.plain (n := 5) (np := 1)) (fun _ _ _ _ _ _ us hl => match us, hl with | [_], _ => rfl) fun _ _ _ _ _ _ hr tk nd => by
  unfold iQ kO;exact (aG (bV (PW.pt (gW (hZ (fQ (gP (T := "tuple") T.n_isinstance T.n_tuple (fv 0)))) (pw_or1 (aY (bR hr.units) s_eq (eJ T.n_len (fv 0)) fI)))) (aH (aX fB)) aZ)
  (aG (bV (PW.pt (gW (hZ (fQ (gP (T := "str") T.n_isinstance T.n_str (bX (fv 0) fI)))) (pw_or1 (Fs T.lim T.k_LIMITS T.g_LIMITS (bX (fv 0) fI))))) (aH (aX fB)) aZ)
  (aG (E7 (t := (.tp [1, 2, 3])) (f_lim T.lim T.k_LIMITS T.g_LIMITS (bX (fv 0) fI)) (pg_tup rfl (pgs_cons (pg_name (i := 1) nd rfl (.inl rfl)) (pgs_cons (pg_name (i := 2) nd rfl (.inr rfl)) (pgs_cons (pg_name (i := 3) nd rfl (.inr rfl)) pgs_nil)))))
  (aG (bV (aY (jL hr.units) tE (eJ T.n_len (fv 0)) (cO bJ cV (fv 1) fI)) (aH (aX fB)) aZ)
  (aH (aX (LV T.n_all (sV (own := [("number", 4)]) (t := (.nm 4)) rfl nd (gU (Ci (fv 0) (nN fI) nO)) (blkOk_by (own := [("number", 4)]) (N := ["value", "many", "low", "high", "number"]) (sc := defScope mG) (by decide +kernel)) (fun _ _ _ _ _ => (pg_name (i := 4) nd rfl (.inl rfl))) (fun _ _ _ _ _ => fG) (fun _ _ _ _ _ => (oF (aS (oC T) hr takes0 (aA (fv 4) aF)) (pe_one (Es tK DU tK DU (fv 2) (fv 4) (fv 3)))))))))))))
theorem mK (T : Txt w K mg) : oK P w K mg base 1 "blocks_of" ["statement"] (spF K fU) :=
 iI (k := 0) T.f_blocks_of T.G_blocks_of BP (Runs.plain (n := 2) (np := 1)) (fun _ _ _ _ _ _ us hl => match us, hl with | [_], _ => rfl) fun _ _ _ _ _ _ hr tk nd => by
  unfold nV;exact (aG (aV (i := 1) nd rfl (.inl rfl) (bX (fv 0) fI))
  (aG (bV (PW.pt (gW (aY (bR hr.units) s_eq (fv 1) fS) (pw_or1 (aY (bR hr.units) s_eq (fv 1) fS)))) (aH (aX (bY (aA (bX (fv 0) fI) aF)))) aZ)
  (aG (bV (aY (bR hr.units) s_eq (fv 1) fS) (aH (aX (bY (aA (bX (fv 0) fI) (aA (bX (fv 0) fI) aF))))) aZ)
  (aG (bV (aY (bR hr.units) s_eq (fv 1) fS) (aH (aX (bX (fv 0) fI))) aZ)
  (aH (aX (bY aF)))))))
theorem rB (T : Txt w K mg) : oK P w K mg base 1 "with_blocks" ["statement", "blocks"] (spF K eZ) :=
 iI (k := 0) T.f_with_blocks T.G_with_blocks yG (Runs.plain (n := 3) (np := 2)) (fun _ _ _ _ _ _ us hl => match us, hl with | [_, _], _ => rfl) fun _ _ _ _ _ _ hr tk nd => by
  unfold gS;exact (aG (aV (i := 2) nd rfl (.inl rfl) (bX (fv 0) fI))
  (aG (bV (PW.pt (gW (aY (bR hr.units) s_eq (fv 2) fS) (pw_or1 (aY (bR hr.units) s_eq (fv 2) fS)))) (aH (aX (bI (aA (fv 2) (aA (bX (fv 1) fI) aF))))) aZ)
  (aG (bV (aY (bR hr.units) s_eq (fv 2) fS) (aH (aX (bI (aA (fv 2) (aA (bX (fv 1) fI) (aA (bX (fv 1) fI) aF)))))) aZ)
  (aG (bV (aY (bR hr.units) s_eq (fv 2) fS) (aH (aX (bI (aA (fv 2) (aA (bX (fv 0) fI) (aA (bX (fv 0) fI) (aA (fv 1) aF))))))) aZ)
  (aH (aX (fv 0)))))))
theorem lQ (T : Txt w K mg) : ∀ n, (oK P w K mg base (1 + n + 1) "copied_statement" ["statement"] (spF K (gA n))) /\ (oK P w K mg base (1 + n + 1) "copied_block" ["block"] (spF K (dY n)))
 | 0 => ⟨jF T.f_copied_statement T.G_copied_statement mD (fun _ _ _ _ _ _ us hl => match us, hl with | [_], _ => rfl), jF T.f_copied_block T.G_copied_block qF (fun _ _ _ _ _ _ us hl => match us, hl with | [_], _ => rfl)⟩
 | n + 1 => by
  have ih := lQ T n;have ih_copied_statement := ih.1;have ih_copied_block := ih.2;refine ⟨?_, ?_⟩
  ·exact iI (k := 1 + n + 1) T.f_copied_statement T.G_copied_statement mD (Runs.plain (n := 2) (np := 1)) (fun _ _ _ _ _ _ us hl => match us, hl with | [_], _ => rfl) fun _ _ _ _ _ _ hr tk nd => by
    unfold gI;exact (aH (aX (aS (rB T) hr tk (aA (fv 0) (aA (sV (own := [("block", 1)]) (t := (.nm 1)) rfl nd (gU (aS (mK T) hr tk (aA (fv 0) aF) (by omega))) (blkOk_by (own := [("block", 1)]) (N := ["statement", "block"]) (sc := defScope fW) (by decide +kernel)) (fun _ _ _ _ _ => (pg_name (i := 1) nd rfl (.inl rfl))) (fun _ _ _ _ _ => fG) (fun _ _ _ _ _ => (aS ih_copied_block hr takes0 (aA (fv 1) aF) (by omega)))) aF)) (by omega))))
  ·exact iI (k := 1 + n + 1) T.f_copied_block T.G_copied_block qF (Runs.plain (n := 2) (np := 1)) (fun _ _ _ _ _ _ us hl => match us, hl with | [_], _ => rfl) fun _ _ _ _ _ _ hr tk nd => by
    unfold kP;exact (aH (aX (sV (own := [("statement", 1)]) (t := (.nm 1)) rfl nd (gU (fv 0)) (blkOk_by (own := [("statement", 1)]) (N := ["block", "statement"]) (sc := defScope kA) (by decide +kernel)) (fun _ _ _ _ _ => (pg_name (i := 1) nd rfl (.inl rfl))) (fun _ _ _ _ _ => fG) (fun _ _ _ _ _ => (aS ih_copied_statement hr takes0 (aA (fv 1) aF) (by omega))))))
theorem qH (T : Txt w K mg) (n : Nat) : oK P w K mg base (1 + n + 1) "copied_block" ["block"] (spF K (dY n)) := (lQ T n).2
theorem zE (T : Txt w K mg) : oK P w K mg base 3 "well_formed" ["value", "level", "many"] (spF K iU) :=
 iI (k := 2) T.f_well_formed T.G_well_formed yH (Runs.plain (n := 4) (np := 3)) (fun _ _ _ _ _ _ us hl => match us, hl with | [_, _, _], _ => rfl) fun _ _ _ _ _ _ hr tk nd => by
  unfold lK;exact (aG (bV (fQ (aS (AG T) hr tk (aA (fv 0) aF))) (aH (aX fB)) aZ)
  (aG (bV (PW.pt (gW (hZ (fQ (gP (T := "tuple") T.n_isinstance T.n_tuple (fv 0)))) (gW (aY lY xF (eJ T.n_len (fv 0)) fI) (pw_or1 (hZ (fQ (gP (T := "str") T.n_isinstance T.n_str (bX (fv 0) fI)))))))) (aH (aX fB)) aZ)
  (aG (aV (i := 3) nd rfl (.inl rfl) (bX (fv 0) fI))
  (aG (bV (aY (bR hr.units) s_eq (fv 3) fS) (aH (aX (oF (lU (bR hr.units) s_eq (eJ T.n_len (fv 0)) fI) (pe_one (aS (FY T) hr tk (aA (bX (fv 0) fI) aF)))))) aZ)
  (aG (bV (aY (bR hr.units) s_eq (fv 1) (Bj T.i_DEEPEST)) (aH (aX fB)) aZ)
  (aG (bV (PW.pt (gW (aY (bR hr.units) s_eq (fv 3) fS) (pw_or1 (aY (bR hr.units) s_eq (fv 3) fS)))) (aH (aX (oF (lU (bR hr.units) s_eq (eJ T.n_len (fv 0)) fI) (pe_one (gP (T := "list") T.n_isinstance T.n_list (bX (fv 0) fI)))))) aZ)
  (aG (bV (aY (bR hr.units) s_eq (fv 3) fS) (aH (aX (oF (lU (bR hr.units) s_eq (eJ T.n_len (fv 0)) fI) (oF (gP (T := "list") T.n_isinstance T.n_list (bX (fv 0) fI)) (pe_one (gP (T := "list") T.n_isinstance T.n_list (bX (fv 0) fI))))))) aZ)
  (aG (bV (PW.pt (gW (aY (jL hr.units) tE (fv 3) fS) (pw_or1 (aY (jL hr.units) tE (eJ T.n_len (fv 0)) fI)))) (aH (aX fB)) aZ)
  (aG (bV (PW.pt (gW (hZ (fQ (aS (oC T) hr tk (aA (bX (fv 0) fI) aF)))) (pw_or1 (hZ (Cc tK DU lY xF fI (bX (fv 0) fI) (fv 2)))))) (aH (aX fB)) aZ)
  (aG (bV (PW.pt (gW (hZ (fQ (gP (T := "bool") T.n_isinstance T.n_bool (bX (fv 0) fI)))) (gW (hZ (fQ (gP (T := "list") T.n_isinstance T.n_list (bX (fv 0) fI)))) (pw_or1 (aY (jL hr.units) tE (eJ T.n_len (bX (fv 0) fI)) fI))))) (aH (aX fB)) aZ)
  (aH (aX (oF (gP (T := "list") T.n_isinstance T.n_list (bX (bX (fv 0) fI) fI)) (pe_one (gP (T := "list") T.n_isinstance T.n_list (bX (bX (fv 0) fI) fI))))))))))))))))
theorem rC (T : Txt w K mg) : ∀ n, oK P w K mg base (3 + n + 1) "first_fault" ["block", "level", "many", "path", "met"] (spF K (dA n))
 | 0 => jF T.f_first_fault T.G_first_fault qT (fun _ _ _ _ _ _ us hl => match us, hl with | [_, _, _, _, _], _ => rfl)
 | n + 1 => by
  have ih_first_fault := rC T n;exact iI (k := 3 + n + 1) T.f_first_fault T.G_first_fault qT (Runs.plain (n := 11) (np := 5)) (fun _ _ _ _ _ _ us hl => match us, hl with | [_, _, _, _, _], _ => rfl) fun _ _ _ _ _ _ hr tk nd => by
   unfold lL jC eR;exact (aG (eI (t := (.tp [5, 6])) (passes_of rfl) rfl (lJ (by rfl) T.n_enumerate (fv 0)) (pg_tup rfl (pgs_cons (pg_name (i := 5) nd rfl (.inl rfl)) (pgs_cons (pg_name (i := 6) nd rfl (.inl rfl)) pgs_nil))) (cX [5, 6, 7, 8, 9, 10] (aG (aV (i := 7) nd rfl (.inl rfl) (cO bJ cV (fv 3) (bI (aA (fv 5) aF))))
  (aG (bV (PW.pt (gW (aY (bR hr.units) s_eq (fv 5) (Bj T.i_MOST_IN_LIST)) (gW (aY (bR hr.units) s_eq (fv 4) (Bj T.i_MOST_IN_PROCEDURE)) (pw_or1 (hZ (fQ (aS (zE T) hr tk (aA (fv 6) (aA (fv 1) (aA (fv 2) aF))) (by omega)))))))) (aH (aX (bI (aA (fv 7) (aA (fv 4) aF))))) aZ)
  (aG (Ft (k := 4) nd rfl (.inl rfl) fI)
  (aH (eI (t := (.tp [8, 9])) (passes_of rfl) rfl (lJ (by rfl) T.n_enumerate (aS (mK T) hr tk (aA (fv 6) aF) (by omega))) (pg_tup rfl (pgs_cons (pg_name (i := 8) nd rfl (.inl rfl)) (pgs_cons (pg_name (i := 9) nd rfl (.inl rfl)) pgs_nil))) (cX [8, 9, 10] (aG (E7 (t := (.tp [10, 4])) (aS ih_first_fault hr tk (aA (fv 9) (aA (cO bJ cV (fv 1) fI) (aA (fv 2) (aA (cO bJ cV (fv 7) (bI (aA (fv 8) aF))) (aA (fv 4) aF))))) (by omega)) (pg_tup rfl (pgs_cons (pg_name (i := 10) nd rfl (.inl rfl)) (pgs_cons (pg_name (i := 4) nd rfl (.inl rfl)) pgs_nil))))
  (aH (bV (aY CH Ge (fv 10) fN) (aH (aX (bI (aA (fv 10) (aA (fv 4) aF))))) aZ)))))))))))
  (aH (aX (bI (aA fN (aA (fv 4) aF))))))
theorem Ah (T : Txt w K mg) : ∀ n, oK P w K mg base (1 + n + 1) "placed" ["block", "path"] (spF K (dX n))
 | 0 => jF T.f_placed T.G_placed AY (fun _ _ _ _ _ _ us hl => match us, hl with | [_, _], _ => rfl)
 | n + 1 => by
  have ih_placed := Ah T n;exact iI (k := 1 + n + 1) T.f_placed T.G_placed AY (Runs.cut (n := 8) (np := 2)) (fun _ _ _ _ _ _ us hl => match us, hl with | [_, _], _ => rfl) fun _ _ _ _ _ _ hr tk nd => by
   unfold uO fV eY;exact (aG (aV (i := 2) nd rfl (.inl rfl) (bY aF))
  (aG (eI (t := (.tp [3, 4])) (passes_of rfl) rfl (lJ (by rfl) T.n_enumerate (fv 0)) (pg_tup rfl (pgs_cons (pg_name (i := 3) nd rfl (.inl rfl)) (pgs_cons (pg_name (i := 4) nd rfl (.inl rfl)) pgs_nil))) (cX [3, 4, 5, 6, 7] (aG (aV (i := 5) nd rfl (.inl rfl) (cO bJ cV (fv 1) (bI (aA (fv 3) aF))))
  (aG (gH (oU (fv 2) (bI (aA (fv 5) (aA (fv 4) aF)))))
  (aH (eI (t := (.tp [6, 7])) (passes_of rfl) rfl (lJ (by rfl) T.n_enumerate (aS (mK T) hr tk (aA (fv 4) aF) (by omega))) (pg_tup rfl (pgs_cons (pg_name (i := 6) nd rfl (.inl rfl)) (pgs_cons (pg_name (i := 7) nd rfl (.inl rfl)) pgs_nil))) (cX [6, 7] (aH (aV (i := 2) nd rfl (.inl rfl) (cO bJ cV (fv 2) (aS ih_placed hr tk (aA (fv 7) (aA (cO bJ cV (fv 5) (bI (aA (fv 6) aF))) aF)) (by omega))))))))))))
  (aH (aX (rO (fv 2))))))
theorem zF (T : Txt w K mg) : ∀ n, oK P w K mg base (1 + n + 1) "flagged" ["block", "path", "chosen"] (spF K (cF n))
 | 0 => jF T.f_flagged T.G_flagged yI (fun _ _ _ _ _ _ us hl => match us, hl with | [_, _, _], _ => rfl)
 | n + 1 => by
  have ih_flagged := zF T n;exact iI (k := 1 + n + 1) T.f_flagged T.G_flagged yI (Runs.cut (n := 10) (np := 3)) (fun _ _ _ _ _ _ us hl => match us, hl with | [_, _, _], _ => rfl) fun _ _ _ _ _ _ hr tk nd => by
   unfold sM dR cQ;exact (aG (aV (i := 3) nd rfl (.inl rfl) (bY aF))
  (aG (eI (t := (.tp [4, 5])) (passes_of rfl) rfl (lJ (by rfl) T.n_enumerate (fv 0)) (pg_tup rfl (pgs_cons (pg_name (i := 4) nd rfl (.inl rfl)) (pgs_cons (pg_name (i := 5) nd rfl (.inl rfl)) pgs_nil))) (cX [4, 5, 6, 7, 8, 9] (aG (aV (i := 6) nd rfl (.inl rfl) (cO bJ cV (fv 1) (bI (aA (fv 4) aF))))
  (aG (aV (i := 7) nd rfl (.inl rfl) (bY aF))
  (aG (eI (t := (.tp [8, 9])) (passes_of rfl) rfl (lJ (by rfl) T.n_enumerate (aS (mK T) hr tk (aA (fv 5) aF) (by omega))) (pg_tup rfl (pgs_cons (pg_name (i := 8) nd rfl (.inl rfl)) (pgs_cons (pg_name (i := 9) nd rfl (.inl rfl)) pgs_nil))) (cX [8, 9] (aH (gH (oU (fv 7) (aS ih_flagged hr tk (aA (fv 9) (aA (cO bJ cV (fv 6) (bI (aA (fv 8) aF))) (aA (fv 2) aF))) (by omega)))))))
  (aH (bV (aY (bR hr.units) s_eq (bX (fv 5) fI) fS) (aH (gH (oU (fv 3) (bI (aA fS (aA (bX (fv 5) fI) (aA (lU (op_inD (Ar hr)) Gg (fv 6) (fv 2)) (aA (rO (fv 7)) aF)))))))) (aH (gH (oU (fv 3) (aS (rB T) hr tk (aA (fv 5) (aA (rO (fv 7)) aF)) (by omega))))))))))))
  (aH (aX (rO (fv 3))))))
theorem tZ (T : Txt w K mg) : OkMX P w K mg base 23 "Book" "__init__" ["self", "bodies"] (spF K hY) :=
 Ea (k := 22) T.f_Book_init T.M_Book_init BS (Runs.plain (n := 6) (np := 2)) (fun _ _ _ _ _ _ us hl => match us, hl with | [_, _], _ => rfl) fun _ _ _ _ _ _ hr tk nd => by
  unfold nX dP;exact (aG (bV (PW.pt (gW (hZ (fQ (gP (T := "list") T.n_isinstance T.n_list (fv 1)))) (pw_or1 (hZ (Cc tK DU tK DU fI (eJ T.n_len (fv 1)) (Bj T.i_MOST_PROCEDURES)))))) (aH (vU (xa_NoBook T) hr tk (aA (rN fI) (aA (bI aF) aF)))) aZ)
  (aG (eI (t := (.tp [2, 3])) (passes_of rfl) rfl (lJ (by rfl) T.n_enumerate (fv 1)) (pg_tup rfl (pgs_cons (pg_name (i := 2) nd rfl (.inl rfl)) (pgs_cons (pg_name (i := 3) nd rfl (.inl rfl)) pgs_nil))) (cX [2, 3, 4, 5] (aG (bV (hZ (fQ (gP (T := "list") T.n_isinstance T.n_list (fv 3)))) (aH (vU (xa_NoBook T) hr tk (aA (fv 2) (aA (bI aF) aF)))) aZ)
  (aG (E7 (t := (.tp [4, 5])) (aS (rC T 10) hr tk (aA (fv 3) (aA fI (aA (eJ T.n_len (fv 1)) (aA (bI aF) (aA fI aF)))))) (pg_tup rfl (pgs_cons (pg_name (i := 4) nd rfl (.inl rfl)) (pgs_cons (pg_name (i := 5) nd rfl (.inl rfl)) pgs_nil))))
  (aH (bV (aY CH Ge (fv 4) fN) (aH (vU (xa_NoBook T) hr tk (aA (fv 2) (aA (fv 4) aF)))) aZ))))))
  (aH (KW T.c_Book T.a_Book_own (fv 0) (sV (own := [("body", 3)]) (t := (.nm 3)) rfl nd (gU (fv 1)) (blkOk_by (own := [("body", 3)]) (N := ["self", "bodies", "procedure", "body", "fault", "met"]) (sc := defScope jU) (by decide +kernel)) (fun _ _ _ _ _ => (pg_name (i := 3) nd rfl (.inl rfl))) (fun _ _ _ _ _ => fG) (fun _ _ _ _ _ => (aS (qH T 20) hr takes0 (aA (fv 3) aF))))))))
theorem rG (T : Txt w K mg) : OkMX P w K mg base 23 "Book" "bodies" ["self"] (spF K iW) :=
 Ea (k := 22) T.f_Book_bodies T.M_Book_bodies yL (Runs.plain (n := 2) (np := 1)) (fun _ _ _ _ _ _ us hl => match us, hl with | [_], _ => rfl) fun _ _ _ _ _ _ hr tk nd => by
  unfold lM;exact (aH (aX (sV (own := [("body", 1)]) (t := (.nm 1)) rfl nd (gU (IQ T.c_Book T.a_Book_own (fv 0))) (blkOk_by (own := [("body", 1)]) (N := ["self", "body"]) (sc := defScope gQ) (by decide +kernel)) (fun _ _ _ _ _ => (pg_name (i := 1) nd rfl (.inl rfl))) (fun _ _ _ _ _ => fG) (fun _ _ _ _ _ => (aS (qH T 20) hr takes0 (aA (fv 1) aF))))))
theorem AH (T : Txt w K mg) : OkMX P w K mg base 13 "Book" "calls" ["self"] (spF K mL) :=
 Ea (k := 12) T.f_Book_calls T.M_Book_calls AF (Runs.cut (n := 6) (np := 1)) (fun _ _ _ _ _ _ us hl => match us, hl with | [_], _ => rfl) fun _ _ _ _ _ _ hr tk nd => by
  unfold mS hL fL;exact (aG (aV (i := 1) nd rfl (.inl rfl) (bY aF))
  (aG (eI (t := (.tp [2, 3])) (passes_of rfl) rfl (lJ (by rfl) T.n_enumerate (IQ T.c_Book T.a_Book_own (fv 0))) (pg_tup rfl (pgs_cons (pg_name (i := 2) nd rfl (.inl rfl)) (pgs_cons (pg_name (i := 3) nd rfl (.inl rfl)) pgs_nil))) (cX [2, 3, 4, 5] (aH (eI (t := (.tp [4, 5])) (passes_of rfl) rfl (gU (aS (Ah T 10) hr tk (aA (fv 3) (aA (bI aF) aF)))) (pg_tup rfl (pgs_cons (pg_name (i := 4) nd rfl (.inl rfl)) (pgs_cons (pg_name (i := 5) nd rfl (.inl rfl)) pgs_nil))) (cX [4, 5] (aH (bV (aY (bR hr.units) s_eq (bX (fv 5) fI) fS) (aH (gH (oU (fv 1) (bI (aA (fv 2) (aA (fv 4) aF)))))) aZ)))))))
  (aH (aX (rO (fv 1))))))
theorem xI (T : Txt w K mg) : OkMX P w K mg base 25 "Book" "saved" ["self", "calls"] (spF K dE) :=
 Ea (k := 24) T.f_Book_saved_2 T.M_Book_saved_2 xE (Runs.cut (n := 9) (np := 2)) (fun _ _ _ _ _ _ us hl => match us, hl with | [_, _], _ => rfl) fun _ _ _ _ _ _ hr tk nd => by
  unfold eM dB bQ;exact (aG (bV (hZ (fQ (gP (T := "list") T.n_isinstance T.n_list (fv 1)))) (aH (Au (xa_NoCall T) hr tk (aA (rN fI) aF))) aZ)
  (aG (aV (i := 2) nd rfl (.inl rfl) (Bi (AH T) hr tk T.c_Book (fv 0)))
  (aG (eI (t := (.tp [3, 4])) (passes_of rfl) rfl (lJ (by rfl) T.n_enumerate (fv 1)) (pg_tup rfl (pgs_cons (pg_name (i := 3) nd rfl (.inl rfl)) (pgs_cons (pg_name (i := 4) nd rfl (.inl rfl)) pgs_nil))) (cX [3, 4] (aH (bV (PW.pt (gW (aY (zD hr) CF (fv 4) (fv 2)) (pw_or1 (aY (op_inD (Ar hr)) Gg (fv 4) (Ci (fv 1) nO (nN (fv 3))))))) (aH (Au (xa_NoCall T) hr tk (aA (fv 3) aF))) aZ))))
  (aG (aV (i := 5) nd rfl (.inl rfl) (bY aF))
  (aG (eI (t := (.tp [6, 7])) (passes_of rfl) rfl (lJ (by rfl) T.n_enumerate (IQ T.c_Book T.a_Book_own (fv 0))) (pg_tup rfl (pgs_cons (pg_name (i := 6) nd rfl (.inr rfl)) (pgs_cons (pg_name (i := 7) nd rfl (.inl rfl)) pgs_nil))) (cX [6, 7, 8] (aG (uG (i := 8) (own := [("call", 4)]) (t := (.nm 4)) rfl nd rfl rfl (sw_true rfl rfl rfl (by decide +kernel)) (gU (fv 1)) (blkOk_by (own := [("call", 4)]) (N := ["self", "calls", "known", "index", "call", "bodies", "procedure", "body", "chosen"]) (sc := defScope fP) (by decide +kernel)) (fun _ _ _ _ _ => (pg_name (i := 4) nd rfl (.inl rfl))) (fun _ _ _ _ _ => (xY (aY (bR hr.units) s_eq (bX (fv 4) fI) (fv 6)))) (fun _ _ _ _ _ => (bX (fv 4) fI)))
  (aH (gH (oU (fv 5) (aS (zF T 10) hr tk (aA (fv 7) (aA (bI aF) (aA (fv 8) aF))))))))))
  (aH (aX (IM T.T_Book (tZ T) hr tk (aA (rO (fv 5)) aF)))))))))
theorem FZ (T : Txt w K mg) : oK P w K mg base 1 "_law_pool" ["_law_script"] (spF K uB) :=
 iI (k := 0) T.f_L_pool T.G_L_pool FH (Runs.plain (n := 2) (np := 1)) (fun _ _ _ _ _ _ us hl => match us, hl with | [_], _ => rfl) fun _ _ _ _ _ _ hr tk nd => by
  unfold uR;exact (aH (aX (cO bJ cV (bY (aA fI aF)) (N6 (sV (own := [("_law_cell", 1)]) (t := (.nm 1)) rfl nd (gU (Ci (fv 0) nO (nN fI))) (blkOk_by (own := [("_law_cell", 1)]) (N := ["_law_script", "_law_cell"]) (sc := defScope tX) (by decide +kernel)) (fun _ _ _ _ _ => (pg_name (i := 1) nd rfl (.inl rfl))) (fun _ _ _ _ _ => fG) (fun _ _ _ _ _ => (vV T.n_int (fv 1)))) (pe_one (bY (aA fI aF)))))))
theorem bT (T : Txt w K mg) : oK P w K mg base 1 "_law_draw" ["_law_pool_here", "_law_many"] (spF K bU) :=
 iI (k := 0) T.f_L_draw T.G_L_draw FL (Runs.plain (n := 5) (np := 2)) (fun _ _ _ _ _ _ us hl => match us, hl with | [_, _], _ => rfl) fun _ _ _ _ _ _ hr tk nd => by
  unfold uU;exact (aG (E6 (fv 0) fI fI)
  (aG (aV (i := 2) nd rfl (.inl rfl) (cO bJ cV fI (cO mJ tV (vV T.n_int (bX (fv 0) fI)) (cO jE qG (eJ T.n_len (fv 0)) fI))))
  (aG (aV (i := 3) nd rfl (.inl rfl) (vV T.n_int (bX (fv 0) (fv 2))))
  (aG (bV (aY Dc Lu (fv 3) (cO JQ s_pow fI fI)) (aG (Eo (cO rA yS (fv 3) (fv 1)) (fv 0) (fv 2))
  (aH (aX (cO mJ tV (fv 3) (fv 1))))) aZ)
  (aG (aV (i := 4) nd rfl (.inl rfl) (cO mJ tV (cO xT EU (vV T.n_int (cO bJ cV (cO bJ cV (fv 3) (cO xT EU fI (bX (fv 0) fI))) fI)) fI) fI))
  (aG (aV (i := 4) nd rfl (.inl rfl) (cO mJ tV (cO xT EU (fv 4) (cO bJ cV (cO rA yS (fv 4) fI) fI)) fI))
  (aG (aV (i := 4) nd rfl (.inl rfl) (cO mJ tV (cO xT EU (fv 4) (cO bJ cV (cO rA yS (fv 4) fI) fI)) fI))
  (aH (aX (cO mJ tV (cO rA yS (fv 4) fI) (fv 1)))))))))))
theorem pM (T : Txt w K mg) : oK P w K mg base 2 "_law_command" ["_law_pool_here", "_law_mood"] (spF K hX) :=
 iI (k := 1) T.f_L_command T.G_L_command BR (Runs.plain (n := 6) (np := 2)) (fun _ _ _ _ _ _ us hl => match us, hl with | [_, _], _ => rfl) fun _ _ _ _ _ _ hr tk nd => by
  unfold nW;exact (aG (aV (i := 2) nd rfl (.inl rfl) (bY (aA (bY (aA fI (aA fI (aA fI (aA fI (aA fI aF)))))) (aA (bY (aA fI (aA fI (aA fI (aA fI (aA fI aF)))))) (aA (bY (aA fI (aA fI (aA fI (aA fI (aA fI aF)))))) (aA (bY (aA fI (aA fI (aA fI (aA fI (aA fI aF)))))) (aA (bY (aA fI (aA fI (aA fI (aA fI (aA fI aF)))))) aF)))))))
  (aG (aV (i := 2) nd rfl (.inl rfl) (cO bJ cV (fv 2) (bY (aA (bY (aA fI (aA fI (aA fI (aA fI (aA fI (aA fI (aA fI (aA fI (aA fI aF)))))))))) (aA (bY (aA fI (aA fI (aA fI (aA fI (aA fI aF)))))) (aA (bY (aA fI (aA fI (aA fI (aA fI (aA fI aF)))))) aF))))))
  (aG (aV (i := 3) nd rfl (.inl rfl) (bX (fv 2) (fv 1)))
  (aG (aV (i := 4) nd rfl (.inl rfl) (bX (fv 3) (aS (bT T) hr tk (aA (fv 0) (aA (eJ T.n_len (fv 3)) aF)))))
  (aG (bV (aY (bR hr.units) s_eq (fv 4) fI) (aG (aV (i := 5) nd rfl (.inl rfl) (cO jE qG (aS (bT T) hr tk (aA (fv 0) (aA fI aF))) fI))
  (aH (aX (bI (aA fS (aA (bX (bY (aA (fv 5) (aA fI (aA (cO jE qG (cO mJ tV (vV T.n_int (fv 5)) fI) fI) (aA fI aF))))) (aS (bT T) hr tk (aA (fv 0) (aA fI aF)))) aF)))))) aZ)
  (aG (bV (aY (bR hr.units) s_eq (fv 4) fI) (aH (aX (bI (aA fS (aA (cO bJ cV fI (aS (bT T) hr tk (aA (fv 0) (aA fI aF)))) aF))))) aZ)
  (aG (bV (aY (bR hr.units) s_eq (fv 4) fI) (aH (aX (bI (aA fS aF)))) aZ)
  (aG (bV (aY (bR hr.units) s_eq (fv 4) fI) (aH (aX (bI (aA fS (aA (bX (bI (aA (rN fI) (aA (rN fI) (aA (rN fI) (aA fI (aA fI (aA fI (aA fI (aA (rN fI) aF))))))))) (aS (bT T) hr tk (aA (fv 0) (aA fI aF)))) aF))))) aZ)
  (aG (bV (aY lY xF (fv 4) fI) (aH (aX (bI (aA (bX (bI (aA fS (aA fS aF))) (cO jE qG (fv 4) fI)) (aA (cO jE qG (aS (bT T) hr tk (aA (fv 0) (aA fI aF))) fI) (aA (cO jE qG (aS (bT T) hr tk (aA (fv 0) (aA fI aF))) fI) aF)))))) aZ)
  (aH (aX (bI (aA (bX (bI (aA fS (aA fS (aA fS aF)))) (cO jE qG (fv 4) fI)) aF)))))))))))))
theorem Ai (T : Txt w K mg) : oK P w K mg base 2 "_law_pair" ["_law_pool_here", "_law_mood"] (spF K oQ) :=
 iI (k := 1) T.f_L_pair T.G_L_pair FJ (Runs.plain (n := 5) (np := 2)) (fun _ _ _ _ _ _ us hl => match us, hl with | [_, _], _ => rfl) fun _ _ _ _ _ _ hr tk nd => by
  unfold uS;exact (aG (aV (i := 2) nd rfl (.inl rfl) (cO bJ cV fI (aS (bT T) hr tk (aA (fv 0) (aA fI aF)))))
  (aG (aV (i := 3) nd rfl (.inl rfl) (aS (bT T) hr tk (aA (fv 0) (aA fI aF))))
  (aG (bV (aY (bR hr.units) s_eq (fv 1) fI) (aH (aV (i := 3) nd rfl (.inl rfl) (cO bJ cV fI (cO mJ tV (fv 3) fI)))) aZ)
  (aG (bV (aY (bR hr.units) s_eq (fv 1) fI) (aH (aV (i := 3) nd rfl (.inl rfl) fI)) aZ)
  (aG (aV (i := 4) nd rfl (.inl rfl) (bY (aA (bY (aA (bI (aA fS (aA (fv 2) aF))) (aA (bI (aA fS (aA (rN (fv 2)) aF))) aF))) (aA (bY (aA (bI (aA fS (aA (fv 2) aF))) (aA (bI (aA fS (aA (cO jE qG fI (fv 2)) aF))) aF))) (aA (bY (aA (bI (aA fS aF)) (aA (bI (aA fS aF)) aF))) aF)))))
  (aH (aX (bX (cO bJ cV (fv 4) (bY (aA (bY (aA (bI (aA fS aF)) (aA (bI (aA fS aF)) aF))) aF))) (fv 3)))))))))
theorem wO (T : Txt w K mg) : ∀ n, (oK P w K mg base (2 + n + 1) "_law_block" ["_law_pool_here", "_law_mood", "_law_level", "_law_room", "_law_calls", "_law_low"] (spF K (sG n))) /\ (oK P w K mg base (2 + n + 1) "_law_piece" ["_law_pool_here", "_law_mood", "_law_level", "_law_room", "_law_calls", "_law_low"] (spF K (jX n)))
 | 0 => ⟨jF T.f_L_block T.G_L_block yK (fun _ _ _ _ _ _ us hl => match us, hl with | [_, _, _, _, _, _], _ => rfl), jF T.f_L_piece T.G_L_piece yJ (fun _ _ _ _ _ _ us hl => match us, hl with | [_, _, _, _, _, _], _ => rfl)⟩
 | n + 1 => by
  have ih := wO T n;have ih_L_block := ih.1;have ih_L_piece := ih.2;refine ⟨?_, ?_⟩
  ·exact iI (k := 2 + n + 1) T.f_L_block T.G_L_block yK (Runs.plain (n := 8) (np := 6)) (fun _ _ _ _ _ _ us hl => match us, hl with | [_, _, _, _, _, _], _ => rfl) fun _ _ _ _ _ _ hr tk nd => by
    unfold sQ jS;exact (aG (aV (i := 6) nd rfl (.inl rfl) (bY aF))
  (aG (eI (t := (.nm 7)) (passes_of rfl) rfl (fH (by rfl) T.n_range (aS (bT T) hr tk (aA (fv 0) (aA fI aF)) (by omega))) (pg_name (i := 7) nd rfl (.inl rfl)) (cX [7] (aH (bV (aY mW yR (bX (fv 3) fI) fI) (aH (aV (i := 6) nd rfl (.inl rfl) (cO bJ cV (fv 6) (aS ih_L_piece hr tk (aA (fv 0) (aA (fv 1) (aA (fv 2) (aA (fv 3) (aA (fv 4) (aA (fv 5) aF)))))) (by omega))))) aZ))))
  (aH (aX (fv 6)))))
  ·exact iI (k := 2 + n + 1) T.f_L_piece T.G_L_piece yJ (Runs.plain (n := 12) (np := 6)) (fun _ _ _ _ _ _ us hl => match us, hl with | [_, _, _, _, _, _], _ => rfl) fun _ _ _ _ _ _ hr tk nd => by
    unfold sN;exact (aG (aV (i := 6) nd rfl (.inl rfl) (aS (bT T) hr tk (aA (fv 0) (aA fI aF)) (by omega)))
  (aG (bV (PW.pt (oE (aY mW yR (fv 6) fI) (oE (aY lY xF (fv 6) fI) (pw_and1 (aY mW yR (fv 2) fI))))) (aH (aV (i := 6) nd rfl (.inl rfl) (cO mJ tV (fv 6) fI))) aZ)
  (aG (bV (PW.pt (oE (aY (bR hr.units) s_eq (fv 6) fI) (pw_and1 (aY lY xF (bX (fv 3) fI) fI)))) (aH (aV (i := 6) nd rfl (.inl rfl) fI)) aZ)
  (aG (bV (PW.pt (oE (aY mW yR (fv 6) fI) (oE (aY lY xF (fv 6) fI) (pw_and1 (PW.pt (gW (aY lY xF (bX (fv 4) fI) fI) (pw_or1 (aY Dc Lu (fv 5) (bX (fv 4) fI))))))))) (aH (aV (i := 6) nd rfl (.inl rfl) fI)) aZ)
  (aG (mY (fv 3) fI fI)
  (aG (bV (aY lY xF (fv 6) fI) (aH (aX (bY (aA (aS (pM T) hr tk (aA (fv 0) (aA (fv 1) aF)) (by omega)) aF)))) aZ)
  (aG (bV (aY (bR hr.units) s_eq (fv 6) fI) (aG (mY (fv 3) fI fI)
  (aG (aV (i := 7) nd rfl (.inl rfl) (aS (Ai T) hr tk (aA (fv 0) (aA (fv 1) aF)) (by omega)))
  (aG (aV (i := 8) nd rfl (.inl rfl) (bY aF))
  (aG (bV (aY mW yR (bX (fv 3) fI) fI) (aH (aV (i := 8) nd rfl (.inl rfl) (aS ih_L_piece hr tk (aA (fv 0) (aA (fv 1) (aA (fv 2) (aA (fv 3) (aA (fv 4) (aA (fv 5) aF)))))) (by omega)))) aZ)
  (aH (aX (cO bJ cV (cO bJ cV (Ci (fv 7) nO (nN fI)) (fv 8)) (Ci (fv 7) (nN fI) nO)))))))) aZ)
  (aG (bV (aY lY xF (fv 6) fI) (aG (aV (i := 9) nd rfl (.inl rfl) (aS ih_L_block hr tk (aA (fv 0) (aA (fv 1) (aA (cO bJ cV (fv 2) fI) (aA (fv 3) (aA (fv 4) (aA fI aF)))))) (by omega)))
  (aH (aX (bY (aA (bI (aA fS (aA (fv 9) (aA (aS ih_L_block hr tk (aA (fv 0) (aA (fv 1) (aA (cO bJ cV (fv 2) fI) (aA (fv 3) (aA (fv 4) (aA (fv 5) aF)))))) (by omega)) aF)))) aF))))) aZ)
  (aG (bV (aY (bR hr.units) s_eq (fv 6) fI) (aH (aX (bY (aA (bI (aA fS (aA (aS ih_L_block hr tk (aA (fv 0) (aA (fv 1) (aA (cO bJ cV (fv 2) fI) (aA (fv 3) (aA (fv 4) (aA fI aF)))))) (by omega)) aF))) aF)))) aZ)
  (aG (bV (aY (bR hr.units) s_eq (fv 6) fI) (aH (aX (bY (aA (bI (aA fS (aA (aS ih_L_block hr tk (aA (fv 0) (aA (fv 1) (aA (cO bJ cV (fv 2) fI) (aA (fv 3) (aA (fv 4) (aA (fv 5) aF)))))) (by omega)) aF))) aF)))) aZ)
  (aG (bV (aY mW yR (fv 6) fI) (aH (aX (bY (aA (bI (aA fS (aA (aS (bT T) hr tk (aA (fv 0) (aA fI aF)) (by omega)) aF))) aF)))) aZ)
  (aG (mY (fv 4) fI fI)
  (aG (aV (i := 10) nd rfl (.inl rfl) (cO bJ cV (fv 5) (aS (bT T) hr tk (aA (fv 0) (aA (cO jE qG (bX (fv 4) fI) (fv 5)) aF)) (by omega))))
  (aG (aV (i := 11) nd rfl (.inl rfl) (lU (bR hr.units) s_eq (aS (bT T) hr tk (aA (fv 0) (aA fI aF)) (by omega)) fI))
  (aG (aV (i := 9) nd rfl (.inl rfl) (aS ih_L_block hr tk (aA (fv 0) (aA (fv 1) (aA (cO bJ cV (fv 2) fI) (aA (fv 3) (aA (fv 4) (aA (fv 5) aF)))))) (by omega)))
  (aH (aX (bY (aA (bI (aA fS (aA (fv 10) (aA (fv 11) (aA (bY (aA (fv 9) (aA (aS ih_L_block hr tk (aA (fv 0) (aA (fv 1) (aA (cO bJ cV (fv 2) fI) (aA (fv 3) (aA (fv 4) (aA (fv 5) aF)))))) (by omega)) aF))) aF))))) aF)))))))))))))))))))
theorem Dd (T : Txt w K mg) (n : Nat) : oK P w K mg base (2 + n + 1) "_law_piece" ["_law_pool_here", "_law_mood", "_law_level", "_law_room", "_law_calls", "_law_low"] (spF K (jX n)) := (wO T n).2
theorem CK (T : Txt w K mg) : oK P w K mg base 3 "_law_around" ["_law_pool_here", "_law_mood", "_law_room", "_law_calls"] (spF K pQ) :=
 iI (k := 2) T.f_L_around T.G_L_around CA (Runs.plain (n := 9) (np := 4)) (fun _ _ _ _ _ _ us hl => match us, hl with | [_, _, _, _], _ => rfl) fun _ _ _ _ _ _ hr tk nd => by
  unfold qD;exact (aG (mY (fv 2) fI fI)
  (aG (mY (fv 3) fI fI)
  (aG (aV (i := 4) nd rfl (.inl rfl) (aS (bT T) hr tk (aA (fv 0) (aA (bX (fv 3) fI) aF))))
  (aG (aV (i := 5) nd rfl (.inl rfl) (lU (bR hr.units) s_eq (aS (bT T) hr tk (aA (fv 0) (aA fI aF))) fI))
  (aG (aV (i := 6) nd rfl (.inl rfl) (aS (bT T) hr tk (aA (fv 0) (aA fI aF))))
  (aG (aV (i := 7) nd rfl (.inl rfl) (bY (aA (aS (pM T) hr tk (aA (fv 0) (aA (fv 1) aF))) (aA (aS (pM T) hr tk (aA (fv 0) (aA (fv 1) aF))) aF))))
  (aG (bV (aY (bR hr.units) s_eq (aS (bT T) hr tk (aA (fv 0) (aA fI aF))) fI) (aH (aV (i := 7) nd rfl (.inl rfl) (aS (Ai T) hr tk (aA (fv 0) (aA (fv 1) aF))))) aZ)
  (aG (aV (i := 8) nd rfl (.inl rfl) (bY (aA (bY aF) (aA (bY (aA (bX (fv 7) fI) (aA (bI (aA fS (aA (fv 4) (aA (fv 5) (aA (bY (aA (bY aF) (aA (bY aF) aF))) aF))))) (aA (bX (fv 7) fI) aF)))) aF))))
  (aH (aX (bY (aA (bI (aA fS (aA (bX (fv 8) (fv 6)) (aA (bX (fv 8) (cO jE qG fI (fv 6))) aF)))) aF))))))))))))
theorem Fb (T : Txt w K mg) : oK P w K mg base 34 "_law_body" ["_law_pool_here", "_law_mood", "_law_room", "_law_calls", "_law_low"] (spF K oT) :=
 iI (k := 33) T.f_L_body T.G_L_body FM (Runs.plain (n := 9) (np := 5)) (fun _ _ _ _ _ _ us hl => match us, hl with | [_, _, _, _, _], _ => rfl) fun _ _ _ _ _ _ hr tk nd => by
  unfold uW jJ;exact (aG (aV (i := 5) nd rfl (.inl rfl) (aS (bT T) hr tk (aA (fv 0) (aA fI aF))))
  (aG (aV (i := 6) nd rfl (.inl rfl) (bY aF))
  (aG (bV (PW.pt (oE (aY (bR hr.units) s_eq (aS (bT T) hr tk (aA (fv 0) (aA fI aF))) fI) (oE (aY mW yR (bX (fv 2) fI) fI) (pw_and1 (aY mW yR (bX (fv 3) fI) fI))))) (aH (aV (i := 6) nd rfl (.inl rfl) (aS (CK T) hr tk (aA (fv 0) (aA (fv 1) (aA (fv 2) (aA (fv 3) aF))))))) aZ)
  (aG (eI (t := (.nm 7)) (passes_of rfl) rfl (fH (by rfl) T.n_range (cO bJ cV fI (aS (bT T) hr tk (aA (fv 0) (aA fI aF))))) (pg_name (i := 7) nd rfl (.inl rfl)) (cX [7] (aH (bV (aY mW yR (bX (fv 2) fI) fI) (aH (aV (i := 6) nd rfl (.inl rfl) (cO bJ cV (fv 6) (aS (Dd T 30) hr tk (aA (fv 0) (aA (fv 1) (aA fI (aA (fv 2) (aA (fv 3) (aA (fv 4) aF)))))))))) aZ))))
  (aG (aV (i := 8) nd rfl (.inl rfl) (bY (aA (bY (aA (bI (aA fS (aA (bY (aA (bI (aA fS (aA fI aF))) aF)) (aA (bY aF) aF)))) aF)) (aA (bY (aA (bI (aA fS (aA fI aF))) aF)) aF))))
  (aG (bV (PW.pt (gW (aY (bR hr.units) s_eq (fv 5) fI) (pw_or1 (aY (bR hr.units) s_eq (fv 5) fI)))) (aH (aX (cO bJ cV (fv 6) (bX (fv 8) (cO rA yS (fv 5) fI))))) aZ)
  (aG (bV (aY (bR hr.units) s_eq (fv 5) fI) (aH (aX (cO bJ cV (bX (fv 8) fI) (fv 6)))) aZ)
  (aH (aX (fv 6))))))))))
theorem nJ (T : Txt w K mg) : oK P w K mg base 1 "_law_blocks" ["_law_statement"] (spF K jM) :=
 iI (k := 0) T.f_L_blocks T.G_L_blocks C9 (Runs.plain (n := 2) (np := 1)) (fun _ _ _ _ _ _ us hl => match us, hl with | [_], _ => rfl) fun _ _ _ _ _ _ hr tk nd => by
  unfold qC;exact (aG (bV (aY (bR hr.units) s_eq (bX (fv 0) fI) fS) (aH (aX (E8 T.n_list (bX (fv 0) fI)))) aZ)
  (aH (aX (sV (own := [("_law_item", 1)]) (t := (.nm 1)) rfl nd (gU (Ci (fv 0) (nN fI) nO)) (blkOk_by (own := [("_law_item", 1)]) (N := ["_law_statement", "_law_item"]) (sc := defScope pF) (by decide +kernel)) (fun _ _ _ _ _ => (pg_name (i := 1) nd rfl (.inl rfl))) (fun _ _ _ _ _ => (xY (fQ (gP (T := "list") T.n_isinstance T.n_list (fv 1))))) (fun _ _ _ _ _ => (fv 1))))))
theorem vM (T : Txt w K mg) : oK P w K mg base 1 "_law_with" ["_law_statement", "_law_blocks_here"] (spF K lR) :=
 iI (k := 0) T.f_L_with T.G_L_with FG (Runs.plain (n := 2) (np := 2)) (fun _ _ _ _ _ _ us hl => match us, hl with | [_, _], _ => rfl) fun _ _ _ _ _ _ hr tk nd => by
  unfold oX;exact (aG (bV (aY (bR hr.units) s_eq (bX (fv 0) fI) fS) (aH (aX (cO bJ cV (Ci (fv 0) nO (nN fI)) (bI (aA (fv 1) aF))))) aZ)
  (aG (bV (aY (bR hr.units) s_eq (eJ T.n_len (fv 1)) fI) (aH (aX (fv 0))) aZ)
  (aH (aX (cO bJ cV (bI (aA (bX (fv 0) fI) aF)) (Bh T.n_tuple (fv 1)))))))
theorem Ak (T : Txt w K mg) : ∀ n, oK P w K mg base (1 + n + 1) "_law_copy" ["_law_block_here"] (spF K (oS n))
 | 0 => jF T.f_L_copy T.G_L_copy Aa (fun _ _ _ _ _ _ us hl => match us, hl with | [_], _ => rfl)
 | n + 1 => by
  have ih_L_copy := Ak T n;exact iI (k := 1 + n + 1) T.f_L_copy T.G_L_copy Aa (Runs.plain (n := 3) (np := 1)) (fun _ _ _ _ _ _ us hl => match us, hl with | [_], _ => rfl) fun _ _ _ _ _ _ hr tk nd => by
   unfold uV tM;exact (aH (aX (sV (own := [("_law_row", 1)]) (t := (.nm 1)) rfl nd (gU (fv 0)) (blkOk_by (own := [("_law_row", 1)]) (N := ["_law_block_here", "_law_row", "_law_inner"]) (sc := defScope tY) (by decide +kernel)) (fun _ _ _ _ _ => (pg_name (i := 1) nd rfl (.inl rfl))) (fun _ _ _ _ _ => fG) (fun _ _ _ _ _ => (aS (vM T) hr takes0 (aA (fv 1) (aA (sV (own := [("_law_inner", 2)]) (t := (.nm 2)) rfl nd (gU (aS (nJ T) hr takes0 (aA (fv 1) aF) (by omega))) (blkOk_by (own := [("_law_inner", 2)]) (N := ["_law_block_here", "_law_row", "_law_inner"]) (by kernel_rfl)) (fun _ _ _ _ _ => (pg_name (i := 2) nd rfl (.inl rfl))) (fun _ _ _ _ _ => fG) (fun _ _ _ _ _ => (aS ih_L_copy hr takes0 (aA (fv 2) aF) (by omega)))) aF)) (by omega))))))
theorem CI (T : Txt w K mg) : oK P w K mg base 13 "_law_copies" ["_law_bodies"] (spF K pO) :=
 iI (k := 12) T.f_L_copies T.G_L_copies C7 (Runs.plain (n := 2) (np := 1)) (fun _ _ _ _ _ _ us hl => match us, hl with | [_], _ => rfl) fun _ _ _ _ _ _ hr tk nd => by
  unfold qA;exact (aH (aX (sV (own := [("_law_body_here", 1)]) (t := (.nm 1)) rfl nd (gU (fv 0)) (blkOk_by (own := [("_law_body_here", 1)]) (N := ["_law_bodies", "_law_body_here"]) (sc := defScope pE) (by decide +kernel)) (fun _ _ _ _ _ => (pg_name (i := 1) nd rfl (.inl rfl))) (fun _ _ _ _ _ => fG) (fun _ _ _ _ _ => (aS (Ak T 10) hr takes0 (aA (fv 1) aF))))))
theorem rD (T : Txt w K mg) : ∀ n, oK P w K mg base (1 + n + 1) "_law_places" ["_law_block_here", "_law_path"] (spF K (cW n))
 | 0 => jF T.f_L_places T.G_L_places wL (fun _ _ _ _ _ _ us hl => match us, hl with | [_, _], _ => rfl)
 | n + 1 => by
  have ih_L_places := rD T n;exact iI (k := 1 + n + 1) T.f_L_places T.G_L_places wL (Runs.cut (n := 6) (np := 2)) (fun _ _ _ _ _ _ us hl => match us, hl with | [_, _], _ => rfl) fun _ _ _ _ _ _ hr tk nd => by
   unfold pZ eC dW;exact (aG (aV (i := 2) nd rfl (.inl rfl) (bY aF))
  (aG (eI (t := (.nm 3)) (passes_of rfl) rfl (fH (by rfl) T.n_range (eJ T.n_len (fv 0))) (pg_name (i := 3) nd rfl (.inl rfl)) (cX [3, 4, 5] (aG (gH (oU (fv 2) (bI (aA (cO bJ cV (fv 1) (bI (aA (fv 3) aF))) (aA (bX (fv 0) (fv 3)) aF)))))
  (aG (aV (i := 4) nd rfl (.inl rfl) (aS (nJ T) hr tk (aA (bX (fv 0) (fv 3)) aF) (by omega)))
  (aH (eI (t := (.nm 5)) (passes_of rfl) rfl (fH (by rfl) T.n_range (eJ T.n_len (fv 4))) (pg_name (i := 5) nd rfl (.inl rfl)) (cX [5] (aH (aV (i := 2) nd rfl (.inl rfl) (cO bJ cV (fv 2) (aS ih_L_places hr tk (aA (bX (fv 4) (fv 5)) (aA (cO bJ cV (fv 1) (bI (aA (fv 3) (aA (fv 5) aF)))) aF)) (by omega))))))))))))
  (aH (aX (rO (fv 2))))))
theorem xH (T : Txt w K mg) : oK P w K mg base 13 "_law_all_places" ["_law_bodies"] (spF K kG) :=
 iI (k := 12) T.f_L_all_places T.G_L_all_places xD (Runs.cut (n := 4) (np := 1)) (fun _ _ _ _ _ _ us hl => match us, hl with | [_], _ => rfl) fun _ _ _ _ _ _ hr tk nd => by
  unfold kQ fJ fK;exact (aG (aV (i := 1) nd rfl (.inl rfl) (bY aF))
  (aG (eI (t := (.nm 2)) (passes_of rfl) rfl (fH (by rfl) T.n_range (eJ T.n_len (fv 0))) (pg_name (i := 2) nd rfl (.inl rfl)) (cX [2, 3] (aH (eI (t := (.nm 3)) (passes_of rfl) rfl (gU (aS (rD T 10) hr tk (aA (bX (fv 0) (fv 2)) (aA (bI aF) aF)))) (pg_name (i := 3) nd rfl (.inl rfl)) (cX [3] (aH (gH (oU (fv 1) (bI (aA (fv 2) (aA (bX (fv 3) fI) (aA (bX (fv 3) fI) aF))))))))))))
  (aH (aX (rO (fv 1))))))
theorem oP (T : Txt w K mg) : ∀ n, oK P w K mg base (0 + n + 1) "_law_same" ["_law_one", "_law_other"] (spF K (kF n))
 | 0 => jF T.f_L_same T.G_L_same AZ (fun _ _ _ _ _ _ us hl => match us, hl with | [_, _], _ => rfl)
 | n + 1 => by
  have ih_L_same := oP T n;exact iI (k := 0 + n + 1) T.f_L_same T.G_L_same AZ (Runs.plain (n := 3) (np := 2)) (fun _ _ _ _ _ _ us hl => match us, hl with | [_, _], _ => rfl) fun _ _ _ _ _ _ hr tk nd => by
   unfold uQ pX;exact (aG (bV (fQ (IP (T := "list") (U := "tuple") T.n_isinstance T.n_list T.n_tuple (fv 0))) (aG (bV (PW.pt (gW (aY (jL hr.units) tE (gP (T := "list") T.n_isinstance T.n_list (fv 0)) (gP (T := "list") T.n_isinstance T.n_list (fv 1))) (pw_or1 (aY (jL hr.units) tE (gP (T := "tuple") T.n_isinstance T.n_tuple (fv 0)) (gP (T := "tuple") T.n_isinstance T.n_tuple (fv 1)))))) (aH (aX fB)) aZ)
  (aH (aX (oF (lU (bR hr.units) s_eq (eJ T.n_len (fv 0)) (eJ T.n_len (fv 1))) (pe_one (LV T.n_all (sV (own := [("_law_k", 2)]) (t := (.nm 2)) rfl nd (fH (by rfl) T.n_range (eJ T.n_len (fv 0))) (blkOk_by (own := [("_law_k", 2)]) (N := ["_law_one", "_law_other", "_law_k"]) (sc := defScope tW) (by decide +kernel)) (fun _ _ _ _ _ => (pg_name (i := 2) nd rfl (.inl rfl))) (fun _ _ _ _ _ => fG) (fun _ _ _ _ _ => (aS ih_L_same hr takes0 (aA (bX (fv 0) (fv 2)) (aA (bX (fv 1) (fv 2)) aF)) (by omega)))))))))) aZ)
  (aG (bV (PW.pt (gW (fQ (IP (T := "list") (U := "tuple") T.n_isinstance T.n_list T.n_tuple (fv 1))) (pw_or1 (aY (jL hr.units) tE (gP (T := "bool") T.n_isinstance T.n_bool (fv 0)) (gP (T := "bool") T.n_isinstance T.n_bool (fv 1)))))) (aH (aX fB)) aZ)
  (aH (aX (oF (lU (bR hr.units) s_eq (gP (T := "int") T.n_isinstance T.n_int (fv 0)) (gP (T := "int") T.n_isinstance T.n_int (fv 1))) (pe_one (lU (bR hr.units) s_eq (fv 0) (fv 1))))))))
theorem rF (T : Txt w K mg) : ∀ n, oK P w K mg base (1 + n + 1) "_law_flagged" ["_law_block_here", "_law_procedure", "_law_path", "_law_chosen"] (spF K (cU n))
 | 0 => jF T.f_L_flagged_2 T.G_L_flagged_2 qV (fun _ _ _ _ _ _ us hl => match us, hl with | [_, _, _, _], _ => rfl)
 | n + 1 => by
  have ih_L_flagged_2 := rF T n;exact iI (k := 1 + n + 1) T.f_L_flagged_2 T.G_L_flagged_2 qV (Runs.cut (n := 10) (np := 4)) (fun _ _ _ _ _ _ us hl => match us, hl with | [_, _, _, _], _ => rfl) fun _ _ _ _ _ _ hr tk nd => by
   unfold iZ eS jG;exact (aG (aV (i := 4) nd rfl (.inl rfl) (bY aF))
  (aG (eI (t := (.nm 5)) (passes_of rfl) rfl (fH (by rfl) T.n_range (eJ T.n_len (fv 0))) (pg_name (i := 5) nd rfl (.inl rfl)) (cX [5, 6, 7, 8] (aG (aV (i := 6) nd rfl (.inl rfl) (bX (fv 0) (fv 5)))
  (aG (aV (i := 7) nd rfl (.inr rfl) (cO bJ cV (fv 2) (bI (aA (fv 5) aF))))
  (aG (aV (i := 8) nd rfl (.inr rfl) (aS (nJ T) hr tk (aA (fv 6) aF) (by omega)))
  (aG (aV (i := 8) nd rfl (.inr rfl) (sV (own := [("_law_k", 9)]) (t := (.nm 9)) rfl nd (fH (by rfl) T.n_range (eJ T.n_len (fv 8))) (blkOk_by (own := [("_law_k", 9)]) (N := ["_law_block_here", "_law_procedure", "_law_path", "_law_chosen", "_law_result", "_law_at", "_law_statement", "_law_here", "_law_blocks_here", "_law_k"]) (sc := defScope lI) (by decide +kernel)) (fun _ _ _ _ _ => (pg_name (i := 9) nd rfl (.inl rfl))) (fun _ _ _ _ _ => fG) (fun _ _ _ _ _ => (aS ih_L_flagged_2 hr takes0 (aA (bX (fv 8) (fv 9)) (aA (fv 1) (aA (cO bJ cV (fv 7) (bI (aA (fv 9) aF))) (aA (fv 3) aF)))) (by omega)))))
  (aH (bV (aY (bR hr.units) s_eq (bX (fv 6) fI) fS) (aH (gH (oU (fv 4) (bI (aA fS (aA (bX (fv 6) fI) (aA (lU (op_inD (Ar hr)) Gg (bI (aA (fv 1) (aA (fv 7) aF))) (fv 3)) (aA (fv 8) aF)))))))) (aH (gH (oU (fv 4) (aS (vM T) hr tk (aA (fv 6) (aA (fv 8) aF)) (by omega)))))))))))))
  (aH (aX (rO (fv 4))))))
theorem fX (T : Txt w K mg) : oK P w K mg base 26 "_law_saved" ["_law_book_here", "_law_calls"] (spF K cR) :=
 iI (k := 25) T.f_L_saved_2 T.G_L_saved_2 BQ (Runs.plain (n := 4) (np := 2)) (fun _ _ _ _ _ _ us hl => match us, hl with | [_, _], _ => rfl) fun _ _ _ _ _ _ hr tk nd => by
  unfold lW;exact (aG (KU (k := 3) (its := [.c (.str "NoCall") (.str "NoCall"), .f "index"]) T.xm ⟨fun _ _ _ => rfl, trivial⟩ rfl rfl nd rfl rfl T.xa_NoCall.glo tk (fun W pn xe tk po => (aH (aV (i := 2) nd rfl (.inl rfl) (N8 (xI T) hr tk T.c_Book (fv 0) (aA (fv 1) aF))))) (fun a oe cls dd pn hz hf => pss_one (ps_ret (pe_tup (xa_c pe_str (xa_f T.xa_NoCall.rd (T.xa_NoCall.no "index" (by decide)) hz hf (cv 3) Lg))))))
  (aH (aX (bI (aA fS (aA (Bi (rG T) hr tk T.c_Book (fv 2)) aF))))))
theorem Aj (T : Txt w K mg) : oK P w K mg base 1 "_law_flag" ["_law_number"] (spF K oR) :=
 iI (k := 0) T.f_L_flag T.G_L_flag FK (Runs.plain (n := 1) (np := 1)) (fun _ _ _ _ _ _ us hl => match us, hl with | [_], _ => rfl) fun _ _ _ _ _ _ hr tk nd => by
  unfold uT;exact (aG (bV (aY mW yR (fv 0) fI) (aH (aX (fv 0))) aZ)
  (aH (aX (lU (bR hr.units) s_eq (fv 0) fI))))
theorem De (T : Txt w K mg) : oK P w K mg base 1 "_law_due" ["_law_calls", "_law_places_here"] (spF K sE) :=
 iI (k := 0) T.f_L_due_4 T.G_L_due_4 DP (Runs.plain (n := 3) (np := 2)) (fun _ _ _ _ _ _ us hl => match us, hl with | [_, _], _ => rfl) fun _ _ _ _ _ _ hr tk nd => by
  unfold sO fT;exact (aG (eI (t := (.nm 2)) (passes_of rfl) rfl (fH (by rfl) T.n_range (eJ T.n_len (fv 0))) (pg_name (i := 2) nd rfl (.inl rfl)) (cX [2] (aH (bV (PW.pt (gW (aY (zD hr) CF (bX (fv 0) (fv 2)) (fv 1)) (pw_or1 (aY (op_inD (Ar hr)) Gg (bX (fv 0) (fv 2)) (Ci (fv 0) nO (nN (fv 2))))))) (aH (aX (fv 2))) aZ))))
  (aH (aX (rN fI))))
theorem vN (T : Txt w K mg) : oK P w K mg base 27 "_law_twins_right" ["_law_book_here", "_law_calls", "_law_due_here"] (spF K gO) :=
 iI (k := 26) T.f_L_twins_right T.G_L_twins_right vB (Runs.plain (n := 7) (np := 3)) (fun _ _ _ _ _ _ us hl => match us, hl with | [_, _, _], _ => rfl) fun _ _ _ _ _ _ hr tk nd => by
  unfold jH eW;exact (aG (uG (i := 3) (own := [("_law_call", 5)]) (t := (.nm 5)) rfl nd rfl rfl (sw_true rfl rfl rfl (by decide +kernel)) (gU (fv 1)) (blkOk_by (own := [("_law_call", 5)]) (N := ["_law_book_here", "_law_calls", "_law_due_here", "_law_twins", "_law_answer", "_law_call", "_law_number"]) (sc := defScope jD) (by decide +kernel)) (fun _ _ _ _ _ => (pg_name (i := 5) nd rfl (.inl rfl))) (fun _ _ _ _ _ => fG) (fun _ _ _ _ _ => (bI (aA (aS (Aj T) hr takes0 (aA (bX (fv 5) fI) aF)) (aA (Bh T.n_tuple (sV (own := [("_law_number", 6)]) (t := (.nm 6)) rfl nd (gU (bX (fv 5) fI)) (blkOk_by (own := [("_law_number", 6)]) (N := ["_law_book_here", "_law_calls", "_law_due_here", "_law_twins", "_law_answer", "_law_call", "_law_number"]) (by kernel_rfl)) (fun _ _ _ _ _ => (pg_name (i := 6) nd rfl (.inl rfl))) (fun _ _ _ _ _ => fG) (fun _ _ _ _ _ => (aS (Aj T) hr takes0 (aA (fv 6) aF))))) aF)))))
  (aG (aV (i := 4) nd rfl (.inl rfl) (aS (fX T) hr tk (aA (fv 0) (aA (fv 3) aF))))
  (aG (bV (PW.pt (gW (aY (jL hr.units) tE (bX (fv 4) fI) fS) (pw_or1 (hZ (fQ (aS (oP T 20) hr tk (aA (bX (fv 4) fI) (aA (fv 2) aF)))))))) (aH (aX fB)) aZ)
  (aH (aX (fe_or (lU (bR hr.units) s_eq (eJ T.n_len (fv 1)) fI) (pe_one (lU (bR hr.units) s_eq (aS (fX T) hr tk (aA (fv 0) (aA (bY (aA (bX (fv 1) fI) (aA (bX (fv 3) fI) aF))) aF))) (bI (aA fS (aA fI aF)))))))))))
theorem CJ (T : Txt w K mg) : oK P w K mg base 35 "_law_book" ["_law_pool_here", "_law_most", "_law_size"] (spF K pP) :=
 iI (k := 34) T.f_L_book_c T.G_L_book_c C8 (Runs.plain (n := 11) (np := 3)) (fun _ _ _ _ _ _ us hl => match us, hl with | [_, _, _], _ => rfl) fun _ _ _ _ _ _ hr tk nd => by
  unfold qB pB;exact (aG (aV (i := 3) nd rfl (.inl rfl) (aS (bT T) hr tk (aA (fv 0) (aA fI aF))))
  (aG (aV (i := 4) nd rfl (.inl rfl) (lU (bR hr.units) s_eq (aS (bT T) hr tk (aA (fv 0) (aA fI aF))) fI))
  (aG (aV (i := 5) nd rfl (.inl rfl) (cO bJ cV fI (aS (bT T) hr tk (aA (fv 0) (aA (fv 1) aF)))))
  (aG (aV (i := 6) nd rfl (.inl rfl) (bY (aA fI (aA (fv 5) aF))))
  (aG (aV (i := 7) nd rfl (.inl rfl) (bY aF))
  (aG (eI (t := (.nm 8)) (passes_of rfl) rfl (fH (by rfl) T.n_range (fv 5)) (pg_name (i := 8) nd rfl (.inl rfl)) (cX [8, 9, 10] (aG (aV (i := 9) nd rfl (.inl rfl) (bY (aA (cO jE qG (cO jE qG (fv 2) fI) (vV T.n_int (lU mW yR (fv 5) fI))) aF)))
  (aG (aV (i := 10) nd rfl (.inl rfl) (cO bJ cV (fv 8) fI))
  (aG (bV (fQ (fv 4)) (aH (aV (i := 10) nd rfl (.inl rfl) fI)) aZ)
  (aH (gH (oU (fv 7) (aS (Fb T) hr tk (aA (fv 0) (aA (fv 3) (aA (fv 9) (aA (fv 6) (aA (fv 10) aF))))))))))))))
  (aH (aX (fv 7)))))))))
theorem Df (T : Txt w K mg) : oK P w K mg base 36 "_law_drawn" ["_law_pool_here", "_law_more"] (spF K sF) :=
 iI (k := 35) T.f_L_drawn T.G_L_drawn DQ (Runs.cut (n := 4) (np := 2)) (fun _ _ _ _ _ _ us hl => match us, hl with | [_, _], _ => rfl) fun _ _ _ _ _ _ hr tk nd => by
  unfold sP hJ;exact (aG (aV (i := 2) nd rfl (.inl rfl) (aS (CJ T) hr tk (aA (fv 0) (aA fI (aA fI aF)))))
  (aG (eI (t := (.nm 3)) (passes_of rfl) rfl (fH (by rfl) T.n_range (fv 1)) (pg_name (i := 3) nd rfl (.inl rfl)) (cX [3] (aH (bV (PW.pt (oE (aY lY xF (eJ T.n_len (bX (fv 2) fI)) fI) (pw_and1 (aY lY xF (eJ T.n_len (aS (rD T 10) hr tk (aA (bX (fv 2) fI) (aA (bI aF) aF)))) fI)))) (aH (Eo (cO bJ cV (bX (fv 2) fI) (bY (aA (bI (aA fS (aA fI (aA (lU (bR hr.units) s_eq (fv 3) fI) (aA (bY (aA (bY aF) (aA (bY aF) aF))) aF))))) aF))) (fv 2) fI)) aZ))))
  (aH (aX (rO (fv 2))))))
theorem rE (T : Txt w K mg) : ∀ n, oK P w K mg base (1 + n + 1) "_law_flagged" ["_law_block_here", "_law_procedure", "_law_path", "_law_chosen"] (spF K (iV n))
 | 0 => jF T.f_L_flagged_v T.G_L_flagged_v qU (fun _ _ _ _ _ _ us hl => match us, hl with | [_, _, _, _], _ => rfl)
 | n + 1 => by
  have ih_L_flagged_v := rE T n;exact iI (k := 1 + n + 1) T.f_L_flagged_v T.G_L_flagged_v qU (Runs.cut (n := 10) (np := 4)) (fun _ _ _ _ _ _ us hl => match us, hl with | [_, _, _, _], _ => rfl) fun _ _ _ _ _ _ hr tk nd => by
   unfold oH qE qL;exact (aG (aV (i := 4) nd rfl (.inl rfl) (bY aF))
  (aG (eI (t := (.nm 5)) (passes_of rfl) rfl (fH (by rfl) T.n_range (eJ T.n_len (fv 0))) (pg_name (i := 5) nd rfl (.inl rfl)) (cX [5, 6, 7, 8] (aG (aV (i := 6) nd rfl (.inl rfl) (bX (fv 0) (fv 5)))
  (aG (aV (i := 7) nd rfl (.inr rfl) (cO bJ cV (fv 2) (bI (aA (fv 5) aF))))
  (aG (aV (i := 8) nd rfl (.inr rfl) (aS (nJ T) hr tk (aA (fv 6) aF) (by omega)))
  (aG (aV (i := 8) nd rfl (.inr rfl) (sV (own := [("_law_k", 9)]) (t := (.nm 9)) rfl nd (fH (by rfl) T.n_range (eJ T.n_len (fv 8))) (blkOk_by (own := [("_law_k", 9)]) (N := ["_law_block_here", "_law_procedure", "_law_path", "_law_chosen", "_law_result", "_law_at", "_law_statement", "_law_here", "_law_blocks_here", "_law_k"]) (sc := defScope lH) (by decide +kernel)) (fun _ _ _ _ _ => (pg_name (i := 9) nd rfl (.inl rfl))) (fun _ _ _ _ _ => fG) (fun _ _ _ _ _ => (aS ih_L_flagged_v hr takes0 (aA (bX (fv 8) (fv 9)) (aA (fv 1) (aA (cO bJ cV (fv 7) (bI (aA (fv 9) aF))) (aA (fv 3) aF)))) (by omega)))))
  (aH (bV (aY (bR hr.units) s_eq (bX (fv 6) fI) fS) (aH (gH (oU (fv 4) (bI (aA fS (aA (bX (fv 6) fI) (aA (lU (op_inD (Ar hr)) Gg (bI (aA (fv 1) (aA (fv 7) aF))) (fv 3)) (aA (fv 8) aF)))))))) (aH (gH (oU (fv 4) (aS (vM T) hr tk (aA (fv 6) (aA (fv 8) aF)) (by omega)))))))))))))
  (aH (aX (rO (fv 4))))))
theorem law_fn (T : Txt w K mg) : ∃ fd, (∀ (s : Shared) (us : List Value), us.length = (["_law_script"] : List Str).length -> BindsTo s fd ⟨us, []⟩ ((["_law_script"] : List Str).zip us)) /\ ∀ base, FnOk P w K mg base (L2.CX P w) 37 (He.ga K "law") fd ["_law_script"] (spF K m_law_k11) :=
 HH (N := ["_law_script", "_law_pool_here", "_law_more", "_law_faults", "_law_bodies", "_law_book_here", "_law_every", "_law_places_here", "_law_calls", "_law_place", "_law_due_here", "_law_passed", "_law_answer", "_law_step", "_law_wrong", "_law_index", "_law_k"]) T.f_law_k11 sc_law_k11 (Runs.cut (n := 17) (np := 1) (mb := oW)) (fun _ _ _ _ _ _ us hl => match us, hl with | [_], _ => rfl) fun base cdv A outer s H E hr => by
  have nd : (["_law_script", "_law_pool_here", "_law_more", "_law_faults", "_law_bodies", "_law_book_here", "_law_every", "_law_places_here", "_law_calls", "_law_place", "_law_due_here", "_law_passed", "_law_answer", "_law_step", "_law_wrong", "_law_index", "_law_k"] : List Str).Nodup := sc_law_k11.nd;have tk := takes_of (X := cxOf (L2.CX P w) P w K mg base ["_law_script", "_law_pool_here", "_law_more", "_law_faults", "_law_bodies", "_law_book_here", "_law_every", "_law_places_here", "_law_calls", "_law_place", "_law_due_here", "_law_passed", "_law_answer", "_law_step", "_law_wrong", "_law_index", "_law_k"] "law" (defScope jT) (He.ga K "law") cdv A outer s H E) (E := E) rfl rfl rfl rfl;unfold oW pG pH pI pJ nG nH qZ nP lO nQ nR hG nS;exact (aG (aV (i := 1) nd rfl (.inl rfl) (aS (FZ T) hr tk (aA (fv 0) aF)))
  (aG (aV (i := 2) nd rfl (.inl rfl) (aS (bT T) hr tk (aA (fv 1) (aA fI aF))))
  (aG (aV (i := 3) nd rfl (.inl rfl) (aS (bT T) hr tk (aA (fv 1) (aA fI aF))))
  (aG (aV (i := 4) nd rfl (.inr rfl) (aS (Df T) hr tk (aA (fv 1) (aA (fv 2) aF))))
  (aG (aV (i := 5) nd rfl (.inl rfl) (IM T.T_Book (tZ T) hr tk (aA (aS (CI T) hr tk (aA (fv 4) aF)) aF)))
  (aG (aV (i := 6) nd rfl (.inl rfl) (aS (xH T) hr tk (aA (fv 4) aF)))
  (aG (uG (i := 7) (own := [("_law_place", 9)]) (t := (.nm 9)) rfl nd rfl rfl (sw_true rfl rfl rfl (by decide +kernel)) (gU (fv 6)) (blkOk_by (own := [("_law_place", 9)]) (N := ["_law_script", "_law_pool_here", "_law_more", "_law_faults", "_law_bodies", "_law_book_here", "_law_every", "_law_places_here", "_law_calls", "_law_place", "_law_due_here", "_law_passed", "_law_answer", "_law_step", "_law_wrong", "_law_index", "_law_k"]) (sc := defScope jT) (by decide +kernel)) (fun _ _ _ _ _ => (pg_name (i := 9) nd rfl (.inl rfl))) (fun _ _ _ _ _ => (xY (aY (bR hr.units) s_eq (bX (bX (fv 9) fI) fI) fS))) (fun _ _ _ _ _ => (bI (aA (bX (fv 9) fI) (aA (bX (fv 9) fI) aF)))))
  (aG (aV (i := 8) nd rfl (.inr rfl) (bY aF))
  (aG (eI (t := (.nm 9)) (passes_of rfl) rfl (gU (fv 7)) (pg_name (i := 9) nd rfl (.inl rfl)) (cX [9] (aH (bV (aY (bR hr.units) s_eq (aS (bT T) hr tk (aA (fv 1) (aA fI aF))) fI) (aH (gH (LU (fv 8) (aS (bT T) hr tk (aA (fv 1) (aA (cO bJ cV (eJ T.n_len (fv 8)) fI) aF))) (fv 9)))) aZ))))
  (aG (uG (i := 10) (own := [("_law_k", 16)]) (t := (.nm 16)) rfl nd rfl rfl (sw_true rfl rfl rfl (by decide +kernel)) (fH (by rfl) T.n_range (eJ T.n_len (fv 4))) (blkOk_by (own := [("_law_k", 16)]) (N := ["_law_script", "_law_pool_here", "_law_more", "_law_faults", "_law_bodies", "_law_book_here", "_law_every", "_law_places_here", "_law_calls", "_law_place", "_law_due_here", "_law_passed", "_law_answer", "_law_step", "_law_wrong", "_law_index", "_law_k"]) (sc := defScope jT) (by decide +kernel)) (fun _ _ _ _ _ => (pg_name (i := 16) nd rfl (.inl rfl))) (fun _ _ _ _ _ => fG) (fun _ _ _ _ _ => (aS (rE T 10) hr takes0 (aA (bX (fv 4) (fv 16)) (aA (fv 16) (aA (bI aF) (aA (fv 8) aF)))))))
  (aG (aV (i := 11) nd rfl (.inl rfl) (E8 T.n_list (fv 8)))
  (aG (aV (i := 12) nd rfl (.inl rfl) (aS (fX T) hr tk (aA (fv 5) (aA (fv 11) aF))))
  (aG (bV (PW.pt (gW (aY (jL hr.units) tE (bX (fv 12) fI) fS) (gW (hZ (fQ (aS (oP T 20) hr tk (aA (bX (fv 12) fI) (aA (fv 10) aF))))) (pw_or1 (aY (jL hr.units) tE (fv 11) (fv 8)))))) (aH (aX fB)) aZ)
  (aG (bV (hZ (fQ (IR (vN T) hr tk (aA (fv 5) (aA (fv 8) (aA (fv 10) aF)))))) (aH (aX fB)) aZ)
  (aG (eI (t := (.nm 13)) (passes_of rfl) rfl (fH (by rfl) T.n_range (fv 3)) (pg_name (i := 13) nd rfl (.inl rfl)) (cX [13, 14] (aG (aV (i := 14) nd rfl (.inl rfl) (bY (aA (bI (aA fI (aA (bI aF) aF))) (aA (bI (aA fI (aA (bI (aA fI aF)) aF))) (aA fN (aA fS (aA (bY (aA fI (aA (bI (aA fI aF)) aF))) (aA (bI (aA fI (aA (bI (aA fI (aA fI aF))) aF))) (aA (bI (aA (rN fI) (aA (bI (aA fI aF)) aF))) (aA (bI (aA fI (aA (bI (aA (bY (aA fI aF)) aF)) aF))) (aA (bI (aA f_dct (aA (bI (aA fI aF)) aF))) aF)))))))))))
  (aG (aV (i := 14) nd rfl (.inl rfl) (cO bJ cV (cO bJ cV (fv 14) (fv 8)) (sV (own := [("_law_place", 9)]) (t := (.nm 9)) rfl nd (gU (fv 6)) (blkOk_by (own := [("_law_place", 9)]) (N := ["_law_script", "_law_pool_here", "_law_more", "_law_faults", "_law_bodies", "_law_book_here", "_law_every", "_law_places_here", "_law_calls", "_law_place", "_law_due_here", "_law_passed", "_law_answer", "_law_step", "_law_wrong", "_law_index", "_law_k"]) (sc := defScope jT) (by decide +kernel)) (fun _ _ _ _ _ => (pg_name (i := 9) nd rfl (.inl rfl))) (fun _ _ _ _ _ => (xY (aY (jL hr.units) tE (bX (bX (fv 9) fI) fI) fS))) (fun _ _ _ _ _ => (bI (aA (bX (fv 9) fI) (aA (bX (fv 9) fI) aF)))))))
  (aH (gH (LU (fv 8) (aS (bT T) hr tk (aA (fv 1) (aA (cO bJ cV (eJ T.n_len (fv 8)) fI) aF))) (bX (fv 14) (aS (bT T) hr tk (aA (fv 1) (aA (eJ T.n_len (fv 14)) aF)))))))))))
  (KS 8 (aG (aV (i := 15) nd rfl (.inl rfl) (aS (De T) hr tk (aA (fv 8) (aA (fv 7) aF))))
  (aG (aV (i := 12) nd rfl (.inl rfl) (aS (fX T) hr tk (aA (fv 5) (aA (E8 T.n_list (fv 8)) aF))))
  (aG (bV (PW.pt (oE (aY Dc Lu (fv 15) fI) (pw_and1 (aY (jL hr.units) tE (fv 12) (bI (aA fS (aA (fv 15) aF))))))) (aH (aX fB)) aZ)
  (aG (bV (PW.pt (oE (aY lY xF (fv 15) fI) (pw_and1 (aY (jL hr.units) tE (bX (fv 12) fI) fS)))) (aH (aX fB)) aZ)
  (aG (bV (PW.pt (gW (aY (jL hr.units) tE (aS (fX T) hr tk (aA (fv 5) (aA (Bh T.n_tuple (fv 8)) aF))) (bI (aA fS (aA (rN fI) aF)))) (pw_or1 (aY (jL hr.units) tE (aS (fX T) hr tk (aA (fv 5) (aA fN aF))) (bI (aA fS (aA (rN fI) aF))))))) (aH (aX fB)) aZ)
  (aG (bV (hZ (fQ (aS (oP T 20) hr tk (aA (bX (aS (fX T) hr tk (aA (fv 5) (aA (bY aF) aF))) fI) (aA (sV (own := [("_law_k", 16)]) (t := (.nm 16)) rfl nd (fH (by rfl) T.n_range (eJ T.n_len (fv 4))) (blkOk_by (own := [("_law_k", 16)]) (N := ["_law_script", "_law_pool_here", "_law_more", "_law_faults", "_law_bodies", "_law_book_here", "_law_every", "_law_places_here", "_law_calls", "_law_place", "_law_due_here", "_law_passed", "_law_answer", "_law_step", "_law_wrong", "_law_index", "_law_k"]) (sc := defScope jT) (by decide +kernel)) (fun _ _ _ _ _ => (pg_name (i := 16) nd rfl (.inl rfl))) (fun _ _ _ _ _ => fG) (fun _ _ _ _ _ => (aS (rF T 10) hr takes0 (aA (bX (fv 4) (fv 16)) (aA (fv 16) (aA (bI aF) (aA (bY aF) aF))))))) aF))))) (aH (aX fB)) aZ)
  (aH (aX (aS (oP T 20) hr tk (aA (Bi (rG T) hr tk T.c_Book (fv 5)) (aA (fv 4) aF)))))))))))))))))))))))))))
end
theorem Ka {K : aC} (h : ex K = true) (i : Nat) {b : Bool} (e : (exs K)[i]? = some b := by rfl) : b = true := bZ.mp h b (eA e)
theorem ob_eq (s : yA) : ob s = hk.obs s.abs := JY (HandSHeadRun.getT_eq s)
theorem txt {w : World} {K : aC} {h : Heap} {mg : Str -> Option Value} (X : K.In h) (G : h.Ns mainGlobals mg) (c : He.SaysT fa fn ts w K /\ ex K = true) : Txt w K mg where
  n_isinstance := He.free_ok X G (c.1.d.fact 0 (f := .free "isinstance") rfl)
  n_int := He.free_ok X G (c.1.d.fact 1 (f := .free "int") rfl)
  n_bool := He.free_ok X G (c.1.d.fact 2 (f := .free "bool") rfl)
  n_tuple := He.free_ok X G (c.1.d.fact 3 (f := .free "tuple") rfl)
  n_len := He.free_ok X G (c.1.d.fact 4 (f := .free "len") rfl)
  n_str := He.free_ok X G (c.1.d.fact 5 (f := .free "str") rfl)
  lim := MB (Ka c.2 0) (G4 c.1 0 (t := Di) rfl)
  k_LIMITS := c.1.tab 0 (t := Di) rfl
  g_LIMITS := He.glo_ok X G (c.1.d.fact 6 (f := .glo "LIMITS") rfl)
  n_all := He.free_ok X G (c.1.d.fact 7 (f := .free "all") rfl)
  i_DEEPEST := He.int_ok X G (c.1.d.fact 8 (f := .int "DEEPEST" 3) rfl)
  n_list := He.free_ok X G (c.1.d.fact 9 (f := .free "list") rfl)
  n_enumerate := He.free_ok X G (c.1.d.fact 10 (f := .free "enumerate") rfl)
  i_MOST_IN_LIST := He.int_ok X G (c.1.d.fact 11 (f := .int "MOST_IN_LIST" 8) rfl)
  i_MOST_IN_PROCEDURE := He.int_ok X G (c.1.d.fact 12 (f := .int "MOST_IN_PROCEDURE" 12) rfl)
  i_MOST_PROCEDURES := He.int_ok X G (c.1.d.fact 13 (f := .int "MOST_PROCEDURES" 3) rfl)
  xa_NoBook := GH (Ka c.2 1) (He.glo_ok X G (c.1.d.fact 14 (f := .glo "NoBook") rfl))
  fx_NoBook := c.1.d.def_ 0 (d := zS) rfl
  c_Book := He.cls_ok (c.1.d.fact 15 (f := .cls "Book") rfl)
  a_Book_own := He.noat_ok (c.1.d.fact 16 (f := .noat "Book" "own") rfl)
  xa_NoCall := GH (Ka c.2 2) (He.glo_ok X G (c.1.d.fact 17 (f := .glo "NoCall") rfl))
  fx_NoCall := c.1.d.def_ 1 (d := zR) rfl
  T_Book := ⟨He.cls_ok (c.1.d.fact 18 (f := .cls "Book") rfl), He.mkr_ok (c.1.d.fact 19 (f := .mkr "Book") rfl), He.glo_ok X G (c.1.d.fact 20 (f := .glo "Book") rfl)⟩
  n_range := He.free_ok X G (c.1.d.fact 21 (f := .free "range") rfl)
  xm := Le (Ka c.2 3)
  G_is_integer := He.glo_ok X G (c.1.d.fact 22 (f := .glo "is_integer") rfl)
  f_is_integer := c.1.d.def_ 2 (d := sY) rfl
  G_is_bit := He.glo_ok X G (c.1.d.fact 23 (f := .glo "is_bit") rfl)
  f_is_bit := c.1.d.def_ 3 (d := B3) rfl
  G_is_command := He.glo_ok X G (c.1.d.fact 24 (f := .glo "is_command") rfl)
  f_is_command := c.1.d.def_ 4 (d := sZ) rfl
  G_blocks_of := He.glo_ok X G (c.1.d.fact 25 (f := .glo "blocks_of") rfl)
  f_blocks_of := c.1.d.def_ 5 (d := uI) rfl
  G_with_blocks := He.glo_ok X G (c.1.d.fact 26 (f := .glo "with_blocks") rfl)
  f_with_blocks := c.1.d.def_ 6 (d := rT) rfl
  G_copied_block := He.glo_ok X G (c.1.d.fact 27 (f := .glo "copied_block") rfl)
  f_copied_block := c.1.d.def_ 7 (d := qM) rfl
  G_copied_statement := He.glo_ok X G (c.1.d.fact 28 (f := .glo "copied_statement") rfl)
  f_copied_statement := c.1.d.def_ 8 (d := mE) rfl
  G_well_formed := He.glo_ok X G (c.1.d.fact 29 (f := .glo "well_formed") rfl)
  f_well_formed := c.1.d.def_ 9 (d := rV) rfl
  G_first_fault := He.glo_ok X G (c.1.d.fact 30 (f := .glo "first_fault") rfl)
  f_first_fault := c.1.d.def_ 10 (d := rW) rfl
  G_placed := He.glo_ok X G (c.1.d.fact 31 (f := .glo "placed") rfl)
  f_placed := c.1.d.def_ 11 (d := B0) rfl
  G_flagged := He.glo_ok X G (c.1.d.fact 32 (f := .glo "flagged") rfl)
  f_flagged := c.1.d.def_ 12 (d := zU) rfl
  M_Book_init := He.meth_ok (c.1.d.fact 33 (f := .meth "Book" "__init__") rfl)
  f_Book_init := c.1.d.def_ 13 (d := uL) rfl
  M_Book_bodies := He.meth_ok (c.1.d.fact 34 (f := .meth "Book" "bodies") rfl)
  f_Book_bodies := c.1.d.def_ 14 (d := rZ) rfl
  M_Book_calls := He.meth_ok (c.1.d.fact 35 (f := .meth "Book" "calls") rfl)
  f_Book_calls := c.1.d.def_ 15 (d := tA) rfl
  M_Book_saved_2 := He.meth_ok (c.1.d.fact 36 (f := .meth "Book" "saved") rfl)
  f_Book_saved_2 := c.1.d.def_ 16 (d := qO) rfl
  G_L_pool := He.glo_ok X G (c.1.d.fact 37 (f := .glo "_law_pool") rfl)
  f_L_pool := c.1.d.def_ 17 (d := B6) rfl
  G_L_draw := He.glo_ok X G (c.1.d.fact 38 (f := .glo "_law_draw") rfl)
  f_L_draw := c.1.d.def_ 18 (d := BA) rfl
  G_L_command := He.glo_ok X G (c.1.d.fact 39 (f := .glo "_law_command") rfl)
  f_L_command := c.1.d.def_ 19 (d := uK) rfl
  G_L_pair := He.glo_ok X G (c.1.d.fact 40 (f := .glo "_law_pair") rfl)
  f_L_pair := c.1.d.def_ 20 (d := B7) rfl
  G_L_piece := He.glo_ok X G (c.1.d.fact 41 (f := .glo "_law_piece") rfl)
  f_L_piece := c.1.d.def_ 21 (d := zV) rfl
  G_L_block := He.glo_ok X G (c.1.d.fact 42 (f := .glo "_law_block") rfl)
  f_L_block := c.1.d.def_ 22 (d := zY) rfl
  G_L_around := He.glo_ok X G (c.1.d.fact 43 (f := .glo "_law_around") rfl)
  f_L_around := c.1.d.def_ 23 (d := xB) rfl
  G_L_body := He.glo_ok X G (c.1.d.fact 44 (f := .glo "_law_body") rfl)
  f_L_body := c.1.d.def_ 24 (d := BC) rfl
  G_L_blocks := He.glo_ok X G (c.1.d.fact 45 (f := .glo "_law_blocks") rfl)
  f_L_blocks := c.1.d.def_ 25 (d := xA) rfl
  G_L_with := He.glo_ok X G (c.1.d.fact 46 (f := .glo "_law_with") rfl)
  f_L_with := c.1.d.def_ 26 (d := B4) rfl
  G_L_copy := He.glo_ok X G (c.1.d.fact 47 (f := .glo "_law_copy") rfl)
  f_L_copy := c.1.d.def_ 27 (d := BB) rfl
  G_L_copies := He.glo_ok X G (c.1.d.fact 48 (f := .glo "_law_copies") rfl)
  f_L_copies := c.1.d.def_ 28 (d := wY) rfl
  G_L_places := He.glo_ok X G (c.1.d.fact 49 (f := .glo "_law_places") rfl)
  f_L_places := c.1.d.def_ 29 (d := wX) rfl
  G_L_all_places := He.glo_ok X G (c.1.d.fact 50 (f := .glo "_law_all_places") rfl)
  f_L_all_places := c.1.d.def_ 30 (d := qN) rfl
  G_L_same := He.glo_ok X G (c.1.d.fact 51 (f := .glo "_law_same") rfl)
  f_L_same := c.1.d.def_ 31 (d := B5) rfl
  G_L_flagged_2 := He.glo_ok X G (c.1.d.fact 52 (f := .glo "_law_flagged") rfl)
  f_L_flagged_2 := c.1.d.def_ 32 (d := rY) rfl
  G_L_saved_2 := He.glo_ok X G (c.1.d.fact 53 (f := .glo "_law_saved") rfl)
  f_L_saved_2 := c.1.d.def_ 33 (d := uJ) rfl
  G_L_flag := He.glo_ok X G (c.1.d.fact 54 (f := .glo "_law_flag") rfl)
  f_L_flag := c.1.d.def_ 34 (d := B9) rfl
  G_L_due_4 := He.glo_ok X G (c.1.d.fact 55 (f := .glo "_law_due") rfl)
  f_L_due_4 := c.1.d.def_ 35 (d := zW) rfl
  G_L_twins_right := He.glo_ok X G (c.1.d.fact 56 (f := .glo "_law_twins_right") rfl)
  f_L_twins_right := c.1.d.def_ 36 (d := oV) rfl
  G_L_book_c := He.glo_ok X G (c.1.d.fact 57 (f := .glo "_law_book") rfl)
  f_L_book_c := c.1.d.def_ 37 (d := wZ) rfl
  G_L_drawn := He.glo_ok X G (c.1.d.fact 58 (f := .glo "_law_drawn") rfl)
  f_L_drawn := c.1.d.def_ 38 (d := zX) rfl
  G_L_flagged_v := He.glo_ok X G (c.1.d.fact 59 (f := .glo "_law_flagged") rfl)
  f_L_flagged_v := c.1.d.def_ 39 (d := rX) rfl
  G_law_k11 := He.glo_ok X G (c.1.d.fact 60 (f := .glo "law") rfl)
  f_law_k11 := c.1.d.def_ 40 (d := zT) rfl
end PHZ
namespace PH
open PySem PySem.Spec PyProof.Rows L2
theorem Ih {α : Type} {x : α} {r : List α} : atI (x :: r) 0 = some x := dM (n := 0) rfl
theorem atI1 {α : Type} {x y : α} {r : List α} : atI (x :: y :: r) 1 = some y := dM (n := 1) rfl
theorem atI2 {α : Type} {x y z : α} {r : List α} : atI (x :: y :: z :: r) 2 = some z := dM (n := 2) rfl
theorem atI3 {α : Type} {x y z w : α} {r : List α} : atI (x :: y :: z :: w :: r) 3 = some w := dM (n := 3) rfl
theorem dH {x : D} {r : List D} {S : aO} : cL (.dat (.tup (x :: r))) (.dat (.int 0)) S = .ok (.dat x) S := CV Ih
theorem pT {x y : D} {r : List D} {S : aO} : cL (.dat (.tup (x :: y :: r))) (.dat (.int 1)) S = .ok (.dat y) S := CV atI1
theorem CP {x y z : D} {r : List D} {S : aO} : cL (.dat (.tup (x :: y :: z :: r))) (.dat (.int 2)) S = .ok (.dat z) S := CV atI2
theorem Jj {x y z w : D} {r : List D} {S : aO} : cL (.dat (.tup (x :: y :: z :: w :: r))) (.dat (.int 3)) S = .ok (.dat w) S := CV atI3
theorem Bb {x : D} {r : List D} {S : aO} : cL (.dat (.lst (x :: r))) (.dat (.int 0)) S = .ok (.dat x) S := iX Ih
theorem HV {x y : D} {r : List D} {S : aO} : cL (.dat (.lst (x :: y :: r))) (.dat (.int 1)) S = .ok (.dat y) S := iX atI1
def PoolAt (S : aO) (p : Nat) (ks : List Int) : Prop := S[p]? = some (.lst (ks.map D.int)) /\ 2 <= ks.length
theorem Hb {S : aO} {p : Nat} {ks : List Int} {k : Int} {n : Nat} {u : Int} (h : S[p]? = some (.lst (ks.map D.int))) (hk : k = (n : Int)) (hu : ks[n]? = some u) : Hc (.cel p) k S = some (.int u) := by
 subst hk;simp only [Hc, h];rw [if_pos (by omega)]
 simp [hu]
theorem C6 {S : aO} {p : Nat} {ks : List Int} {k : Int} {n : Nat} {u : Int} (h : S[p]? = some (.lst (ks.map D.int))) (hk : k = (n : Int)) (hu : n < ks.length) : setC (.cel p) k (.int u) S = some (S.set p (.lst ((ks.set n u).map D.int))) := by
 subst hk;simp only [setC, h];rw [if_pos ⟨by omega, by simpa using hu⟩]
 simp [List.map_set]
theorem A1 {g : Int -> Int -> Int} {o i e : FE} {ρ : Ev} {S : aO} {p n : Nat} {k u w : Int} {ks : List Int} (ho : o ρ S = .ok (.cel p) S) (hi : i ρ S = .ok (.dat (.int k)) S) (he : e ρ S = .ok (.dat (.int w)) S) (h : S[p]? = some (.lst (ks.map D.int))) (hk : k = (n : Int)) (hu : ks[n]? = some u) :
  kI g o i e ρ S = .next ρ (S.set p (.lst ((ks.set n (g u w)).map D.int))) := by
 simp only [kI, ho, hi, he, zN, Hb h hk hu, C6 h hk (aI.mp hu).1]
theorem sH {S : aO} {p : Nat} {ks : List Int} {k : Int} {n : Nat} {u : Int} (h : S[p]? = some (.lst (ks.map D.int))) (hk : k = (n : Int)) (hu : ks[n]? = some u) : cL (.cel p) (.dat (.int k)) S = .ok (.dat (.int u)) S :=
 Ek h (by rw [dM hk]; simp [hu])
theorem fO {S : aO} {p : Nat} {c d : Cell} (h : S[p]? = some c) : (S.set p d)[p]? = some d := by
 rw [bD, if_pos rfl, if_pos (aI.mp h).1]
theorem pw18 {S : aO} : KY (.dat (.int 10)) (.dat (.int 18)) S = .ok (.dat (.int 1000000000000000000)) S := rfl
theorem dw1 (a : Int) : IntMulOk 7919 a := mulL (by decide) (by decide)
theorem dw2 (a : Int) : IntMulOk a 48271 := mulR (by decide) (by decide)
theorem dw3 (a : Int) : CDiv a 1009 := ⟨by decide, by decide⟩
theorem dw4 (a : Int) : CDiv a 2003 := ⟨by decide, by decide⟩
theorem dw5 (a : Int) : CDiv a 11 := ⟨by decide, by decide⟩
theorem dw6 (a b : Int) : IntMulOk (a % 2147483647) b := by
 have h1 : 0 <= a % 2147483647 := fF _ (by decide)
 have h2 : a % 2147483647 < 2147483647 := eT _ (by decide)
 generalize a % 2147483647 = x at h1 h2;exact mulL (by omega) (by omega)
theorem dw7 : (0 : Int) < 2147483647 := by decide
theorem dw8 : (0 : Int) < 2147483399 := by decide
theorem dw9 {a k : Int} {ks : List Int} {S S1 : aO} {p : Nat} {u : Int} (h0 : 0 < k) (hS1 : S.set p (.lst ((ks.set 0 (u + 1)).map D.int)) = S1) : ∃ (d : Int) (ks' : List Int), cS (Out.ret (.dat (.int (a % k))) S1) = .ok (.dat (.int d)) (S.set p (.lst (ks'.map D.int))) /\ 0 <= d /\ d < k /\ ks'.length = ks.length :=
 ⟨a % k, ks.set 0 (u + 1), by rw [hS1]; rfl, fF _ (by omega), eT _ h0, by simp⟩
theorem eN {S : aO} {p : Nat} {ks : List Int} {k : Int} (hP : PoolAt S p ks) (h0 : 0 < k) (h1 : k < 1073741824) :
  ∃ (d : Int) (ks' : List Int), bU [.cel p, .dat (.int k)] S = .ok (.dat (.int d)) (S.set p (.lst (ks'.map D.int))) /\ 0 <= d /\ d < k /\ ks'.length = ks.length := by
 obtain ⟨hp, hl⟩ := hP;obtain ⟨u, hu⟩ : ∃ u, ks[0]? = some u := ⟨ks[0], by simp [show 0 < ks.length by omega]⟩
 have hp1 := fO (d := .lst ((ks.set 0 (u + 1)).map D.int)) hp;have hn : (1 : Int) + (u + 1) % ((ks.length : Int) - 1) = ((1 + ((u + 1) % ((ks.length : Int) - 1)).toNat : Nat) : Int) := by
  have := fF (u + 1) (show ((ks.length : Int) - 1) ≠ 0 by omega)
  omega
 have hlt : 1 + ((u + 1) % ((ks.length : Int) - 1)).toNat < ks.length := by
  have := eT (u + 1) (show 0 < ((ks.length : Int) - 1) by omega)
  have := fF (u + 1) (show ((ks.length : Int) - 1) ≠ 0 by omega)
  omega
 generalize hj : 1 + ((u + 1) % ((ks.length : Int) - 1)).toNat = j at hn hlt;obtain ⟨c, hc⟩ : ∃ c, (ks.set 0 (u + 1))[j]? = some c := ⟨(ks.set 0 (u + 1))[j]'(by simpa using hlt), by simp [hlt]⟩
 have h00 : (ks.set 0 (u + 1))[0]? = some (u + 1) := by
  rw [bD, if_pos rfl, if_pos (by omega)]
 have e1 : (kI (fun x y => x + y) (aD 0) (mC (.int 0)) (mC (.int 1))) [some (.cel p), some (.dat (.int k)), none, none, none] S = .next [some (.cel p), some (.dat (.int k)), none, none, none] (S.set p (.lst ((ks.set 0 (u + 1)).map D.int))) := A1 rfl rfl rfl hp rfl hu
 have eE : bU [.cel p, .dat (.int k)] S = cS (uU [some (.cel p), some (.dat (.int k)), none, none, none] S) := rfl;rw [eE];unfold uU;generalize hS1 : S.set p (.lst ((ks.set 0 (u + 1)).map D.int)) = S1 at e1 hp1;simp! [e1, sH (k := 0) (n := 0) hp1 rfl h00, Dy hp1, bE, AS, mX (show (0 : Int) < (ks.length : Int) - 1 by omega), hn, sH hp1 rfl hc, pw18]
 by_cases hbig : (1000000000000000000 : Int) <= c
 ·rw [decide_eq_true hbig]
  simp! [if_true];have e2 : zI (bC qK (aD 3) (aD 1)) (aD 0) (aD 2) [some (.cel p), some (.dat (.int k)), some (.dat (.int (j : Int))), some (.dat (.int c)), none] S1 = .next [some (.cel p), some (.dat (.int k)), some (.dat (.int (j : Int))), some (.dat (.int c)), none] (S1.set p (.lst (((ks.set 0 (u + 1)).set j (c / k)).map D.int))) := by
   unfold zI;simp! [xX (show CDiv c k from ⟨h0, h1⟩), C6 (u := c / k) hp1 (rfl : (j : Int) = (j : Int)) (by simpa using hlt)]
  simp! [e2, mX h0];refine ⟨c % k, (ks.set 0 (u + 1)).set j (c / k), ?_, fF c (by omega), eT c h0, by simp⟩
  rw [<- hS1, jB];rfl
 ·rw [decide_eq_false hbig]
  simp! [sH (k := 0) (n := 0) hp1 rfl h00, Dx (dw1 _), Dx (dw2 _), mX dw7, mX dw8, xX (dw3 _), xX (dw4 _), xX (dw5 _), Dx (dw6 _ _), mX h0];exact dw9 h0 hS1
inductive Cmd where
 | go (k : Int) | turn (n : Int) | mirror | scale (k : Int) | aim (a b : Int) | place (a b : Int) | mark | ret | exch
def Cmd.d : Cmd -> D
 | .go k => .tup [.str "go", .int k]
 | .turn k => .tup [.str "turn", .int k]
 | .mirror => .tup [.str "mirror"]
 | .scale k => .tup [.str "scale", .int k]
 | .aim a b => .tup [.str "aim", .int a, .int b]
 | .place a b => .tup [.str "place", .int a, .int b]
 | .mark => .tup [.str "mark"]
 | .ret => .tup [.str "return"]
 | .exch => .tup [.str "exchange"]
def Cmd.Ok : Cmd -> Prop
 | .go k => -9 <= k /\ k <= 9
 | .turn k => 1 <= k /\ k <= 3
 | .scale k => -3 <= k /\ k <= 3
 | .aim a b => (-9 <= a /\ a <= 9) /\ -9 <= b /\ b <= 9
 | .place a b => (-9 <= a /\ a <= 9) /\ -9 <= b /\ b <= 9
 | _ => True
abbrev PL (ks : List Int) : Cell := .lst (ks.map D.int)
theorem PoolAt.next {S : aO} {p : Nat} {ks ks' : List Int} (h : PoolAt S p ks) (l : ks'.length = ks.length) : PoolAt (S.set p (PL ks')) p ks' := ⟨fO h.1, by rw [l]; exact h.2⟩
inductive Stt where
 | cmd (c : Cmd) | fin (w : Int) | keep (b : List Stt) | again (b : List Stt) | either (a b : List Stt) | call (g : Int) (s : Bool) (a b : List Stt) | bad | odd (x : D)
mutual
def Stt.d : Stt -> D
 | .cmd c => c.d
 | .fin w => .tup [.str "end", .int w]
 | .keep b => .tup [.str "keep", .lst (bB b)]
 | .again b => .tup [.str "again", .lst (bB b)]
 | .either a b => .tup [.str "either", .lst (bB a), .lst (bB b)]
 | .call g s a b => .tup [.str "call", .int g, .bl s, .lst [.lst (bB a), .lst (bB b)]]
 | .bad => .tup [.str "bad"]
 | .odd x => x
def bB : List Stt -> List D
 | [] => []
 | s :: r => s.d :: bB r
end
mutual
/-- of a depth of n at most; calls of the first many -/
def Stt.Ok (many : Int) : Stt -> Nat -> Prop
 | .cmd c, _ => c.Ok
 | .fin w, _ => 0 <= w /\ w <= 1
 | .keep b, n => 0 < n /\ OkL many b (n - 1)
 | .again b, n => 0 < n /\ OkL many b (n - 1)
 | .either a b, n => 0 < n /\ OkL many a (n - 1) /\ OkL many b (n - 1)
 | .call g _ a b, n => (0 < n /\ 0 <= g /\ g < many) /\ OkL many a (n - 1) /\ OkL many b (n - 1)
 | .bad, _ => True
 | .odd _, _ => False
def OkL (many : Int) : List Stt -> Nat -> Prop
 | [], _ => True
 | s :: r, n => (s.Ok many n /\ r.length < 10) /\ OkL many r n
end
def WfNo (many : Int) (x : D) : Prop := ∀ (lv : Int) (S : aO), iU [.dat x, .dat (.int lv), .dat (.int many)] S = .ok (.dat (.bl false)) S
mutual
/-- the same; values that are no statements may stand in it -/
def Stt.Okx (many : Int) : Stt -> Nat -> Prop
 | .cmd c, _ => c.Ok
 | .fin w, _ => 0 <= w /\ w <= 1
 | .keep b, n => 0 < n /\ xM many b (n - 1)
 | .again b, n => 0 < n /\ xM many b (n - 1)
 | .either a b, n => 0 < n /\ xM many a (n - 1) /\ xM many b (n - 1)
 | .call g _ a b, n => (0 < n /\ 0 <= g /\ g < many) /\ xM many a (n - 1) /\ xM many b (n - 1)
 | .bad, _ => True
 | .odd x, _ => WfNo many x
def xM (many : Int) : List Stt -> Nat -> Prop
 | [], _ => True
 | s :: r, n => s.Okx many n /\ xM many r n
end
mutual
theorem Stt.Ok.x {many : Int} : ∀ {s : Stt} {n : Nat}, s.Ok many n -> s.Okx many n
 | .cmd c, _, h => h
 | .fin w, _, h => h
 | .keep b, n, h => ⟨h.1, OkL.x h.2⟩
 | .again b, n, h => ⟨h.1, OkL.x h.2⟩
 | .either a b, n, h => ⟨h.1, OkL.x h.2.1, OkL.x h.2.2⟩
 | .call g _ a b, n, h => ⟨h.1, OkL.x h.2.1, OkL.x h.2.2⟩
 | .bad, _, _ => trivial
 | .odd x, _, h => h.elim
theorem OkL.x {many : Int} : ∀ {l : List Stt} {n : Nat}, OkL many l n -> xM many l n
 | [], _, _ => trivial
 | s :: r, n, h => ⟨h.1.1.x, OkL.x h.2⟩
end
def Stt.isOdd : Stt -> Bool
 | .odd _ => true
 | _ => false
theorem Stt.Ok.no {many : Int} {s : Stt} {n : Nat} (h : s.Ok many n) : s.isOdd = false := by
 cases s <;> first | rfl | exact h.elim
theorem cH : ∀ l : List Stt, (bB l).length = l.length
 | [] => rfl
 | s :: r => by simp [bB, cH r]
theorem iB : ∀ l m : List Stt, bB (l ++ m) = bB l ++ bB m
 | [], m => rfl
 | s :: r, m => by simp [bB, iB r m]
theorem OkL.len {many : Int} : ∀ {l : List Stt} {n : Nat}, OkL many l n -> l.length <= 10
 | [], _, _ => by simp
 | s :: r, n, h => by have := h.1.2; simp; omega
def LS (S : aO) : Prop := ∀ c ∈ S, ∀ n, c.below n = true
theorem LS.app {S : aO} {ds : List D} (h : LS S) : LS (S ++ [.lst ds]) := fun c hc n => by
 rcases bF.mp hc with hc | hc
 ·exact h c hc n
 ·rw [bK.mp hc]; rfl
theorem LS.set {S : aO} {ds : List D} {k : Nat} (h : LS S) : LS (S.set k (.lst ds)) := fun c hc n => by
 rcases Bz hc with hc | hc
 ·exact h c hc n
 ·rw [hc]; rfl
theorem LS.take {S : aO} {n m : Nat} (h : LS S) : ((S.take n).all fun c => c.below m) = true := bZ.mpr fun c hc => h c (GD hc) m
theorem dZ {i : Int} {S : aO} : fZ [.dat (.int i)] S = .ok (.dat (.bl true)) S := by
 rw [show fZ [.dat (.int i)] S = cS (mR [some (.dat (.int i))] S) from rfl]
 unfold mR;simp! [if_true];rfl
theorem Fe {i : Int} {S : aO} : uA [.dat (.int i)] S = .ok (.dat (.bl (decide (0 <= i) && decide (i <= 1)))) S := by
 rw [show uA [.dat (.int i)] S = cS (uP [some (.dat (.int i))] S) from rfl]
 unfold uP;simp! [dZ]
 by_cases h : 0 <= i
 ·simp! [decide_eq_true h]; rfl
 ·simp! [decide_eq_false h]; rfl
theorem pS {S : aO} : vY (.dat (.str "go")) S = .ok (.dat (.tup [.int 1, .int (-9), .int 9])) S := rfl
theorem pU {S : aO} : fC true (.dat (.str "go")) S = .ok (.dat (.bl false)) S := rfl
theorem kJ {S : aO} : vY (.dat (.str "turn")) S = .ok (.dat (.tup [.int 1, .int 1, .int 3])) S := rfl
theorem kL {S : aO} : fC true (.dat (.str "turn")) S = .ok (.dat (.bl false)) S := rfl
theorem gC {S : aO} : vY (.dat (.str "mirror")) S = .ok (.dat (.tup [.int 0, .int 0, .int 0])) S := rfl
theorem gE {S : aO} : fC true (.dat (.str "mirror")) S = .ok (.dat (.bl false)) S := rfl
theorem iK {S : aO} : vY (.dat (.str "scale")) S = .ok (.dat (.tup [.int 1, .int (-3), .int 3])) S := rfl
theorem iN {S : aO} : fC true (.dat (.str "scale")) S = .ok (.dat (.bl false)) S := rfl
theorem mO {S : aO} : vY (.dat (.str "aim")) S = .ok (.dat (.tup [.int 2, .int (-9), .int 9])) S := rfl
theorem mP {S : aO} : fC true (.dat (.str "aim")) S = .ok (.dat (.bl false)) S := rfl
theorem iL {S : aO} : vY (.dat (.str "place")) S = .ok (.dat (.tup [.int 2, .int (-9), .int 9])) S := rfl
theorem iO {S : aO} : fC true (.dat (.str "place")) S = .ok (.dat (.bl false)) S := rfl
theorem kK {S : aO} : vY (.dat (.str "mark")) S = .ok (.dat (.tup [.int 0, .int 0, .int 0])) S := rfl
theorem kM {S : aO} : fC true (.dat (.str "mark")) S = .ok (.dat (.bl false)) S := rfl
theorem gB {S : aO} : vY (.dat (.str "return")) S = .ok (.dat (.tup [.int 0, .int 0, .int 0])) S := rfl
theorem gD {S : aO} : fC true (.dat (.str "return")) S = .ok (.dat (.bl false)) S := rfl
theorem eF {S : aO} : vY (.dat (.str "exchange")) S = .ok (.dat (.tup [.int 0, .int 0, .int 0])) S := rfl
theorem eG {S : aO} : fC true (.dat (.str "exchange")) S = .ok (.dat (.bl false)) S := rfl
theorem Jo {S : aO} : fC true (.dat (.str "end")) S = .ok (.dat (.bl true)) S := rfl
theorem CS {S : aO} : fC true (.dat (.str "keep")) S = .ok (.dat (.bl true)) S := rfl
theorem Ap {S : aO} : fC true (.dat (.str "again")) S = .ok (.dat (.bl true)) S := rfl
theorem zM {S : aO} : fC true (.dat (.str "either")) S = .ok (.dat (.bl true)) S := rfl
theorem CT {S : aO} : fC true (.dat (.str "call")) S = .ok (.dat (.bl true)) S := rfl
theorem Jp {S : aO} : fC true (.dat (.str "bad")) S = .ok (.dat (.bl true)) S := rfl
theorem sA {x : D} {r : List D} : cutD (x :: r) (some 1) none = r := by
 unfold cutD;rw [HT.sIx_none, show ((1 : Int)) = ((1 : Nat) : Int) from rfl, HT.sIx_nat]
 simp
theorem all_nil {S : aO} : AL (.dat (.lst [])) S = .ok (.dat (.bl true)) S := rfl
theorem Cr {a : Bool} {S : aO} : AL (.dat (.lst [.bl a])) S = .ok (.dat (.bl a)) S := by cases a <;> rfl
theorem Cq {a b : Bool} {S : aO} : AL (.dat (.lst [.bl a, .bl b])) S = .ok (.dat (.bl (a && b))) S := by cases a <;> cases b <;> rfl
theorem sz {n : Nat} (h : n <= 1000) : n <= sizeLine := by show n <= 16777216; omega
theorem MS {c : Cmd} {S : aO} (h : c.Ok) : iJ [.dat c.d] S = .ok (.dat (.bl true)) S := by
 rw [show iJ [.dat c.d] S = cS (iQ [some (.dat c.d), none, none, none, none] S) from rfl]
 unfold iQ kO;cases c with
 | go k =>
  obtain ⟨h1, h2⟩ := h;simp! [Cmd.d, dH, pS, pU, kJ, kL, gC, gE, iK, iN, mO, mP, iL, iO, kK, kM, gB, gD, eF, eG, sA, uD, kX, lP, dZ, all_nil, Cr, Cq, decide_eq_true h1, decide_eq_true h2, sz];rfl
 | turn k =>
  obtain ⟨h1, h2⟩ := h;simp! [Cmd.d, dH, pS, pU, kJ, kL, gC, gE, iK, iN, mO, mP, iL, iO, kK, kM, gB, gD, eF, eG, sA, uD, kX, lP, dZ, all_nil, Cr, Cq, decide_eq_true h1, decide_eq_true h2, sz];rfl
 | mirror => simp! [Cmd.d, dH, pS, pU, kJ, kL, gC, gE, iK, iN, mO, mP, iL, iO, kK, kM, gB, gD, eF, eG, sA, uD, kX, lP, dZ, all_nil, sz]; rfl
 | scale k =>
  obtain ⟨h1, h2⟩ := h;simp! [Cmd.d, dH, pS, pU, kJ, kL, gC, gE, iK, iN, mO, mP, iL, iO, kK, kM, gB, gD, eF, eG, sA, uD, kX, lP, dZ, all_nil, Cr, Cq, decide_eq_true h1, decide_eq_true h2, sz];rfl
 | aim a b =>
  obtain ⟨⟨h1, h2⟩, h3, h4⟩ := h;simp! [Cmd.d, dH, pS, pU, kJ, kL, gC, gE, iK, iN, mO, mP, iL, iO, kK, kM, gB, gD, eF, eG, sA, uD, kX, lP, dZ, all_nil, Cr, Cq, decide_eq_true h1, decide_eq_true h2, decide_eq_true h3, decide_eq_true h4, sz];rfl
 | place a b =>
  obtain ⟨⟨h1, h2⟩, h3, h4⟩ := h;simp! [Cmd.d, dH, pS, pU, kJ, kL, gC, gE, iK, iN, mO, mP, iL, iO, kK, kM, gB, gD, eF, eG, sA, uD, kX, lP, dZ, all_nil, Cr, Cq, decide_eq_true h1, decide_eq_true h2, decide_eq_true h3, decide_eq_true h4, sz];rfl
 | mark => simp! [Cmd.d, dH, pS, pU, kJ, kL, gC, gE, iK, iN, mO, mP, iL, iO, kK, kM, gB, gD, eF, eG, sA, uD, kX, lP, dZ, all_nil, sz]; rfl
 | ret => simp! [Cmd.d, dH, pS, pU, kJ, kL, gC, gE, iK, iN, mO, mP, iL, iO, kK, kM, gB, gD, eF, eG, sA, uD, kX, lP, dZ, all_nil, sz]; rfl
 | exch => simp! [Cmd.d, dH, pS, pU, kJ, kL, gC, gE, iK, iN, mO, mP, iL, iO, kK, kM, gB, gD, eF, eG, sA, uD, kX, lP, dZ, all_nil, sz]; rfl
theorem oD {z : Str} {r : List D} {S : aO} (h : fC true (.dat (.str z)) S = .ok (.dat (.bl true)) S) : iJ [.dat (.tup (.str z :: r))] S = .ok (.dat (.bl false)) S := by
 rw [show iJ [.dat (.tup (.str z :: r))] S = cS (iQ [some (.dat (.tup (.str z :: r))), none, none, none, none] S) from rfl]
 unfold iQ kO;simp! [dH, h];rw [decide_eq_false (by simp; omega)]
 simp! [dH, h];rfl
def Stt.blocks : Stt -> List (List Stt)
 | .keep b => [b]
 | .again b => [b]
 | .either a b => [a, b]
 | .call _ _ a b => [a, b]
 | _ => []
def bls (bs : List (List Stt)) : List D := bs.map fun b => .lst (bB b)
theorem lC {s : Stt} {S : aO} (ho : s.isOdd = false) : fU [.dat s.d] S = .ok (.dat (.lst (bls s.blocks))) S := by
 rw [show fU [.dat s.d] S = cS (nV [some (.dat s.d), none] S) from rfl]
 unfold nV;cases s with
 | cmd c => cases c <;> (simp! [Stt.d, Cmd.d, dH]; rfl)
 | fin w => simp! [Stt.d, dH]; rfl
 | keep b => simp! [Stt.d, dH, pT]; rfl
 | again b => simp! [Stt.d, dH, pT]; rfl
 | either a b => simp! [Stt.d, dH, pT, CP]; rfl
 | call g s a b => simp! [Stt.d, dH, pT, CP, Jj]; rfl
 | bad => simp! [Stt.d, dH]; rfl
 | odd x => cases ho
theorem C1 {s : Stt} {S : aO} (ho : s.isOdd = false) : eZ [.dat s.d, .dat (.lst (bls s.blocks))] S = .ok (.dat s.d) S := by
 rw [show eZ [.dat s.d, .dat (.lst (bls s.blocks))] S = cS (gS [some (.dat s.d), some (.dat (.lst (bls s.blocks))), none] S) from rfl]
 unfold gS;cases s with
 | cmd c => cases c <;> (simp! [Stt.d, Cmd.d, dH]; rfl)
 | fin w => simp! [Stt.d, dH]; rfl
 | keep b => simp! [Stt.d, Stt.blocks, bls, aN, aW, dH, Bb]; rfl
 | again b => simp! [Stt.d, Stt.blocks, bls, aN, aW, dH, Bb]; rfl
 | either a b => simp! [Stt.d, Stt.blocks, bls, aN, aW, dH, Bb, HV]; rfl
 | call g s a b => simp! [Stt.d, Stt.blocks, bls, aN, aW, dH, pT, CP]; rfl
 | bad => simp! [Stt.d, dH]; rfl
 | odd x => cases ho
def Stt.wf (lv : Int) : Stt -> Bool
 | .cmd _ => true
 | .fin _ => true
 | .bad => false
 | .odd _ => false
 | _ => !decide (lv = 3)
theorem isb {i : Int} (h : 0 <= i /\ i <= 1) : (decide (0 <= i) && decide (i <= 1)) = true := by simp [h.1, h.2]
theorem C2 {s : Stt} {lv many : Int} {n : Nat} {S : aO} (h : s.Okx many n) : iU [.dat s.d, .dat (.int lv), .dat (.int many)] S = .ok (.dat (.bl (s.wf lv))) S := by
 by_cases ho : s.isOdd = true
 ·cases s <;> first | (cases ho; done) | exact h lv S
 rw [show iU [.dat s.d, .dat (.int lv), .dat (.int many)] S = cS (lK [some (.dat s.d), some (.dat (.int lv)), some (.dat (.int many)), none] S) from rfl]
 unfold lK;cases s with
 | cmd c => simp! [Stt.d, MS h]; rfl
 | fin w => simp! [Stt.d, oD Jo, dH, pT, Fe, isb h]; rfl
 | bad => simp! [Stt.d, oD Jp]; rfl
 | odd x => exact absurd rfl ho
 | keep b =>
  by_cases hl : lv = 3
  ·simp! [Stt.d, oD CS, dH, pT, decide_eq_true hl]; simp [Stt.wf, hl]; rfl
  ·simp! [Stt.d, oD CS, dH, pT, decide_eq_false hl]; simp [Stt.wf, hl]; rfl
 | again b =>
  by_cases hl : lv = 3
  ·simp! [Stt.d, oD Ap, dH, pT, decide_eq_true hl]; simp [Stt.wf, hl]; rfl
  ·simp! [Stt.d, oD Ap, dH, pT, decide_eq_false hl]; simp [Stt.wf, hl]; rfl
 | either a b =>
  by_cases hl : lv = 3
  ·simp! [Stt.d, oD zM, dH, pT, CP, decide_eq_true hl]; simp [Stt.wf, hl]; rfl
  ·simp! [Stt.d, oD zM, dH, pT, CP, decide_eq_false hl]; simp [Stt.wf, hl]; rfl
 | call g b a c =>
  obtain ⟨⟨_, h1, h2⟩, _⟩ := h
  by_cases hl : lv = 3
  ·simp! [Stt.d, oD CT, dH, pT, CP, Jj, decide_eq_true hl]; simp [Stt.wf, hl]; rfl
  ·simp! [Stt.d, oD CT, dH, pT, CP, Jj, decide_eq_false hl, dZ, decide_eq_true h1, decide_eq_true h2, Bb, HV]; simp [Stt.wf, hl]; rfl
inductive FR where
 | fault (p : List Int) (m : Int) | okk (m : Int)
abbrev tupI (p : List Int) : D := .tup (p.map D.int)
def FR.d : FR -> D
 | .fault p m => .tup [tupI p, .int m]
 | .okk m => .tup [.non, .int m]
def FR.then (r : FR) (k : Int -> FR) : FR := match r with
 | .fault p m => .fault p m
 | .okk m => k m
mutual
/-- what stands in the blocks of s, at the path here -/
def Ax (lv : Int) (here : List Int) : Stt -> Int -> FR
 | .keep b, met => sJ (lv + 1) (here ++ [0]) 0 b met
 | .again b, met => sJ (lv + 1) (here ++ [0]) 0 b met
 | .either a b, met => (sJ (lv + 1) (here ++ [0]) 0 a met).then (sJ (lv + 1) (here ++ [1]) 0 b)
 | .call _ _ a b, met => (sJ (lv + 1) (here ++ [0]) 0 a met).then (sJ (lv + 1) (here ++ [1]) 0 b)
 | _, met => .okk met
def sJ (lv : Int) (path : List Int) (at_ : Int) : List Stt -> Int -> FR
 | [], met => .okk met
 | s :: r, met => if at_ = 8 \/ met = 12 \/ s.wf lv = false then .fault (path ++ [at_]) met else
  (Ax lv (path ++ [at_]) s (met + 1)).then (sJ lv path (at_ + 1) r)
end
def Bv (n : Nat) : Prop := ∀ {S : aO} {l : List Stt} {lv many met : Int} {path : List Int} {k : Nat}, xM many l k -> 0 <= lv -> lv <= 3 -> path.length <= 2 * lv.toNat -> 4 - lv.toNat <= n ->
 dA n [.dat (.lst (bB l)), .dat (.int lv), .dat (.int many), .dat (tupI path), .dat (.int met)] S = .ok (.dat (sJ lv path 0 l met).d) S
theorem iC {cl : Bool} {p : List Int} {i : Int} {S : aO} (h : p.length <= 100) : cZ cl (.dat (tupI p)) (.dat (.tup [.int i])) S = .ok (.dat (tupI (p ++ [i]))) S := by
 rw [ID (sz (by simp; omega))]
 simp [tupI]
theorem FR.then_okk {m : Int} {k : Int -> FR} : (FR.okk m).then k = k m := rfl
theorem FR.then_fault {p : List Int} {m : Int} {k : Int -> FR} : (FR.fault p m).then k = .fault p m := rfl
theorem ff_in {n : Nat} (ih : Bv n) {S : aO} {s : Stt} {lv many met : Int} {path : List Int} {k : Nat} {a b c : Option Vl} (h : s.Okx many k) (h0 : 0 <= lv) (h3 : lv < 3) (hp : path.length <= 2 * lv.toNat + 1) (hn : 4 - (lv + 1).toNat <= n) :
  loop (.tp [8, 9]) (eR (dA n)) (bL 0 (bls s.blocks)) [a, some (.dat (.int lv)), some (.dat (.int many)), b, some (.dat (.int met)), c, some (.dat s.d), some (.dat (tupI path)), none, none, none] S =
   match Ax lv path s met with
   | .fault p m => .ret (.dat (.tup [tupI p, .int m])) S
   | .okk m => .next [a, some (.dat (.int lv)), some (.dat (.int many)), b, some (.dat (.int m)), c, some (.dat s.d), some (.dat (tupI path)), none, none, none] S := by
 have turn : ∀ {l : List Stt} {met : Int} {i : Int}, xM many l (k - 1) -> dA n [.dat (.lst (bB l)), .dat (.int (lv + 1)), .dat (.int many), .dat (tupI (path ++ [i])), .dat (.int met)] S = .ok (.dat (sJ (lv + 1) (path ++ [i]) 0 l met).d) S := fun hl => ih hl (by omega) (by omega) (by simp; omega) hn
 have one : ∀ {l : List Stt} {r : List D} {met : Int} {i : Int}, xM many l (k - 1) -> loop (.tp [8, 9]) (eR (dA n)) (.tup [.int i, .lst (bB l)] :: r) [a, some (.dat (.int lv)), some (.dat (.int many)), b, some (.dat (.int met)), c, some (.dat s.d), some (.dat (tupI path)), none, none, none] S =
   match sJ (lv + 1) (path ++ [i]) 0 l met with
   | .fault p m => .ret (.dat (.tup [tupI p, .int m])) S
   | .okk m => loop (.tp [8, 9]) (eR (dA n)) r [a, some (.dat (.int lv)), some (.dat (.int many)), b, some (.dat (.int m)), c, some (.dat s.d), some (.dat (tupI path)), none, none, none] S := fun {l r met i} hl => by
  have e := turn (met := met) (i := i) hl;rw [loop];simp only [lP, jW, aM, bM, if_true, aR, aP];rw [eR];simp! [iC (show path.length <= 100 by omega), e]
  cases q : sJ (lv + 1) (path ++ [i]) 0 l met with
  | fault p m => simp! [FR.d, CZ]
  | okk m => simp! [FR.d, CZ]
 cases s with
 | cmd c => simp only [Stt.blocks, bls, aW, bL, loop, Ax]
 | fin w => simp only [Stt.blocks, bls, aW, bL, loop, Ax]
 | bad => simp only [Stt.blocks, bls, aW, bL, loop, Ax]
 | odd w => simp only [Stt.blocks, bls, aW, bL, loop, Ax]
 | keep x =>
  simp only [Stt.blocks, bls, aW, aN, bL, Ax, nY, dU, uF];rw [one h.2];cases sJ (lv + 1) (path ++ [0]) 0 x met <;> rfl
 | again x =>
  simp only [Stt.blocks, bls, aW, aN, bL, Ax, nY, dU, uF];rw [one h.2];cases sJ (lv + 1) (path ++ [0]) 0 x met <;> rfl
 | either x y =>
  simp only [Stt.blocks, bls, aW, aN, bL, Ax, nY, dU, uF];rw [one h.2.1];cases sJ (lv + 1) (path ++ [0]) 0 x met with
  | fault p m => rfl
  | okk m =>
   simp only [FR.then_okk];rw [one h.2.2];cases sJ (lv + 1) (path ++ [1]) 0 y m <;> rfl
 | call g f x y =>
  simp only [Stt.blocks, bls, aW, aN, bL, Ax, nY, dU, uF];rw [one h.2.1];cases sJ (lv + 1) (path ++ [0]) 0 x met with
  | fault p m => rfl
  | okk m =>
   simp only [FR.then_okk];rw [one h.2.2];cases sJ (lv + 1) (path ++ [1]) 0 y m <;> rfl
theorem II {n : Nat} (ih : Bv n) {S : aO} {lv many : Int} {path : List Int} {k : Nat} {a : Option Vl} (h0 : 0 <= lv) (h3 : lv <= 3) (hp : path.length <= 2 * lv.toNat) (hn : 4 - (lv + 1).toNat <= n) :
  ∀ (l : List Stt) (at_ : Nat) (met : Int), xM many l k -> loop (.tp [5, 6]) (jC (dA n)) (bL at_ (bB l)) [a, some (.dat (.int lv)), some (.dat (.int many)), some (.dat (tupI path)), some (.dat (.int met)), none, none, none, none, none, none] S =
   match sJ lv path (at_ : Nat) l met with
   | .fault p m => .ret (.dat (.tup [tupI p, .int m])) S
   | .okk m => .next [a, some (.dat (.int lv)), some (.dat (.int many)), some (.dat (tupI path)), some (.dat (.int m)), none, none, none, none, none, none] S
 | [], at_, met, _ => rfl
 | s :: r, at_, met, h => by
  have rest := II ih (S := S) (many := many) (k := k) (a := a) h0 h3 hp hn r (at_ + 1);simp only [bB, bL];rw [loop];simp only [lP, jW, aM, bM, if_true, aR, aP];rw [jC];simp! [iC (show path.length <= 100 by omega)]
  by_cases h8 : ((at_ : Nat) : Int) = 8
  ·simp! [decide_eq_true h8]
   unfold sJ;rw [if_pos (.inl h8)]
  ·simp! [decide_eq_false h8]
   by_cases hm : met = 12
   ·simp! [decide_eq_true hm]
    unfold sJ;rw [if_pos (.inr (.inl hm))]
   ·simp! [decide_eq_false hm, C2 h.1]
    cases hw : s.wf lv with
    | false =>
     simp! [if_true];unfold sJ;rw [if_pos (.inr (.inr hw))]
    | true =>
     have hlv : Ax lv (path ++ [((at_ : Nat) : Int)]) s (met + 1) = .okk (met + 1) /\ s.blocks = [] \/ lv < 3 := by
      cases s with
      | cmd c => exact .inl ⟨rfl, rfl⟩
      | fin w => exact .inl ⟨rfl, rfl⟩
      | bad => cases hw
      | odd x => cases hw
      | keep b => refine .inr ?_; simp [Stt.wf] at hw; omega
      | again b => refine .inr ?_; simp [Stt.wf] at hw; omega
      | either a b => refine .inr ?_; simp [Stt.wf] at hw; omega
      | call g f a b => refine .inr ?_; simp [Stt.wf] at hw; omega
     have ea : ∀ x y z : Option Vl, HB (fun x y => x + y) 4 (mC (.int 1)) [a, some (.dat (.int lv)), some (.dat (.int many)), some (.dat (tupI path)), some (.dat (.int met)), x, y, z, none, none, none] S = .next [a, some (.dat (.int lv)), some (.dat (.int many)), some (.dat (tupI path)), some (.dat (.int (met + 1))), x, y, z, none, none, none] S := fun _ _ _ => rfl
     have e2 : sJ lv path ((at_ : Nat) : Int) (s :: r) met = (Ax lv (path ++ [((at_ : Nat) : Int)]) s (met + 1)).then (sJ lv path (((at_ + 1 : Nat) : Int)) r) := by
      rw [sJ, if_neg (by rintro (h | h | h) <;> first | exact h8 h | exact hm h | (rw [hw] at h; cases h))]
      rfl
     rw [e2];have ho : s.isOdd = false := by cases s <;> first | rfl | (cases hw; done)
     simp! [ea, lC ho];rcases hlv with ⟨q1, q2⟩ | hlv
     ·rw [q1, q2]
      simp! [bls, aW, bL, loop, FR.then_okk];exact rest (met + 1) h.2
     ·rw [ff_in ih h.1 h0 hlv (by simp; omega) hn]
      cases q : Ax lv (path ++ [((at_ : Nat) : Int)]) s (met + 1) with
      | fault p m => simp! [FR.then_fault]
      | okk m =>
       simp! [FR.then_okk];exact rest m h.2
theorem IL (n : Nat) : Bv n := by
 induction n with
 | zero =>
  intro S l lv many met path k hl h0 h3 hp hn;omega
 | succ n ih =>
  intro S l lv many met path k hl h0 h3 hp hn;rw [show dA (n + 1) [.dat (.lst (bB l)), .dat (.int lv), .dat (.int many), .dat (tupI path), .dat (.int met)] S = cS (lL (dA n) [some (.dat (.lst (bB l))), some (.dat (.int lv)), some (.dat (.int many)), some (.dat (tupI path)), some (.dat (.int met)), none, none, none, none, none, none] S) from rfl]
  unfold lL;have e := II ih (S := S) (a := some (.dat (.lst (bB l)))) h0 h3 hp (by omega) l 0 met hl
  rw [dU] at e;simp! [e];cases q : sJ lv path 0 l met with
  | fault p m => simp! [if_true]; rfl
  | okk m => simp! [if_true]; rfl
theorem CN {α : Type} {t : Tg} {e : FE} {ρ : Ev} {S : aO} {f g : α -> D} : ∀ {xs : List α}, (∀ x ∈ xs, ∃ ρ1, lP t (.dat (f x)) ρ = some ρ1 /\ e ρ1 S = .ok (.dat (g x)) S) -> kX t lS e ρ (xs.map f) S = .ok (xs.map g) S
 | [], _ => rfl
 | x :: xs, h => by
  obtain ⟨ρ1, h1, h2⟩ := h x (aL ..);have ih := CN (xs := xs) fun y hy => h y (aK _ hy)
  rw [aN, kX];simp only [h1, LO, h2, if_true, ih, aN]
theorem iM {α : Type} {cl : Bool} {t : Tg} {e : FE} {ρ : Ev} {S : aO} {f g : α -> D} {xs : List α} {vs : List Nat} (hl : xs.length <= sizeLine) (h : ∀ x ∈ xs, ∃ ρ1, lP t (.dat (f x)) (wipeE ρ vs) = some ρ1 /\ e ρ1 S = .ok (.dat (g x)) S) : uD cl t lS e ρ vs (xs.map f) S = newL cl (xs.map g) S := by
 unfold uD;rw [bE, if_pos hl, CN h]
theorem nA : ∀ l : List Stt, bB l = l.map Stt.d
 | [] => rfl
 | s :: r => by rw [bB, nA r]; rfl
theorem iP {many : Int} {s : Stt} {k : Nat} (h : s.Ok many k) : ∀ b ∈ s.blocks, 0 < k /\ OkL many b (k - 1) := by
 intro b hb;cases s with
 | cmd c => cases hb
 | fin w => cases hb
 | bad => cases hb
 | odd x => cases hb
 | keep x => simp [Stt.blocks] at hb; subst hb; exact h
 | again x => simp [Stt.blocks] at hb; subst hb; exact h
 | either x y => simp [Stt.blocks] at hb; rcases hb with rfl | rfl; exact ⟨h.1, h.2.1⟩; exact ⟨h.1, h.2.2⟩
 | call g f x y => simp [Stt.blocks] at hb; rcases hb with rfl | rfl; exact ⟨h.1.1, h.2.1⟩; exact ⟨h.1.1, h.2.2⟩
theorem OkL.mem {many : Int} : ∀ {l : List Stt} {k : Nat}, OkL many l k -> ∀ s ∈ l, s.Ok many k
 | [], _, _, s, hs => by cases hs
 | x :: r, k, h, s, hs => by
  rcases bN.mp hs with rfl | hs
  ·exact h.1.1
  ·exact OkL.mem h.2 s hs
theorem nC {s : Stt} : s.blocks.length <= 2 := by cases s <;> simp [Stt.blocks]
def NN (n : Nat) : Prop := (∀ {S : aO} {many : Int} {s : Stt} {k : Nat}, s.Ok many k -> 2 * k + 1 <= n -> gA n [.dat s.d] S = .ok (.dat s.d) S) /\ ∀ {S : aO} {many : Int} {l : List Stt} {k : Nat}, OkL many l k -> 2 * k + 2 <= n -> dY n [.dat (.lst (bB l))] S = .ok (.dat (.lst (bB l))) S
theorem Kh (n : Nat) : NN n := by
 induction n with
 | zero => exact ⟨fun _ h => by omega, fun _ h => by omega⟩
 | succ n ih =>
  constructor
  ·intro S many s k h hn
   rw [show gA (n + 1) [.dat s.d] S = cS (gI (dY n) [some (.dat s.d), none] S) from rfl]
   unfold gI;simp! [lC h.no];rw [show bls s.blocks = s.blocks.map (fun b => .lst (bB b)) from rfl, iM (g := fun b => .lst (bB b)) (sz (by have := nC (s := s); omega)) fun b hb => ⟨_, rfl, ?_⟩]
   ·simp! [show s.blocks.map (fun b => D.lst (bB b)) = bls s.blocks from rfl, C1 h.no]
    rfl
   ·obtain ⟨h1, h2⟩ := iP h b hb
    simp! [ih.2 h2 (by omega)]
  ·intro S many l k h hn
   rw [show dY (n + 1) [.dat (.lst (bB l))] S = cS (kP (gA n) [some (.dat (.lst (bB l))), none] S) from rfl]
   unfold kP;simp! [nA];rw [iM (g := Stt.d) (sz (by have := h.len; omega)) fun s hs => ⟨_, rfl, ?_⟩]
   ·rfl
   ·simp! [ih.1 (h.mem s hs) (by omega)]
theorem A7 {s : Stt} {S : aO} (ho : s.isOdd = false) : jM [.dat s.d] S = .ok (.dat (.lst (bls s.blocks))) S := by
 rw [show jM [.dat s.d] S = cS (qC [some (.dat s.d), none] S) from rfl]
 unfold qC;cases s with
 | cmd c => cases c <;> (simp! [Stt.d, Cmd.d, dH, sA, uD, kX, lP, sz]; rfl)
 | fin w => simp! [Stt.d, dH, sA, uD, kX, lP, sz]; rfl
 | keep b => simp! [Stt.d, dH, sA, uD, kX, lP, sz]; rfl
 | again b => simp! [Stt.d, dH, sA, uD, kX, lP, sz]; rfl
 | either a b => simp! [Stt.d, dH, sA, uD, kX, lP, sz]; rfl
 | call g s a b => simp! [Stt.d, dH, Jj]; rfl
 | bad => simp! [Stt.d, dH, sA, uD, kX, lP, sz]; rfl
 | odd x => cases ho
theorem cut_3 {a b c d : D} : cutD [a, b, c, d] none (some 3) = [a, b, c] := rfl
theorem NL {s : Stt} {S : aO} (ho : s.isOdd = false) : lR [.dat s.d, .dat (.lst (bls s.blocks))] S = .ok (.dat s.d) S := by
 rw [show lR [.dat s.d, .dat (.lst (bls s.blocks))] S = cS (oX [some (.dat s.d), some (.dat (.lst (bls s.blocks)))] S) from rfl]
 unfold oX;cases s with
 | cmd c => cases c <;> (simp! [Stt.d, Cmd.d, Stt.blocks, bls, aW, dH]; rfl)
 | fin w => simp! [Stt.d, Stt.blocks, bls, aW, dH]; rfl
 | keep b => simp! [Stt.d, Stt.blocks, bls, aN, aW, dH]; rfl
 | again b => simp! [Stt.d, Stt.blocks, bls, aN, aW, dH]; rfl
 | either a b => simp! [Stt.d, Stt.blocks, bls, aN, aW, dH]; rfl
 | call g s a b => simp! [Stt.d, Stt.blocks, bls, aN, aW, dH, cut_3]; rfl
 | bad => simp! [Stt.d, Stt.blocks, bls, aW, dH]; rfl
 | odd x => cases ho
theorem NM {many : Int} (n : Nat) : ∀ {S : aO} {l : List Stt} {k : Nat}, OkL many l k -> k + 1 <= n -> oS n [.dat (.lst (bB l))] S = .ok (.dat (.lst (bB l))) S := by
 induction n with
 | zero => intro S l k h hn; omega
 | succ n ih =>
  intro S l k h hn;rw [show oS (n + 1) [.dat (.lst (bB l))] S = cS (uV (oS n) [some (.dat (.lst (bB l))), none, none] S) from rfl]
  unfold uV;simp! [nA];rw [iM (g := Stt.d) (sz (by have := h.len; omega)) fun s hs => ⟨_, rfl, ?_⟩]
  ·rfl
  ·unfold tM
   simp! [A7 (h.mem s hs).no];rw [show bls s.blocks = s.blocks.map (fun b => .lst (bB b)) from rfl, iM (g := fun b => .lst (bB b)) (sz (by have := nC (s := s); omega)) fun b hb => ⟨_, rfl, ?_⟩]
   ·simp! [show s.blocks.map (fun b => D.lst (bB b)) = bls s.blocks from rfl, NL (h.mem s hs).no]
   ·obtain ⟨h1, h2⟩ := iP (h.mem s hs) b hb
    simp! [ih h2 (by omega)]
theorem Iq {many : Int} {bs : List (List Stt)} {S : aO} {k : Nat} (hb : ∀ b ∈ bs, OkL many b k) (hk : k <= 9) (hl : bs.length <= 10) : pO [.dat (.lst (bls bs))] S = .ok (.dat (.lst (bls bs))) S := by
 rw [show pO [.dat (.lst (bls bs))] S = cS (qA [some (.dat (.lst (bls bs))), none] S) from rfl]
 unfold qA;simp! [if_true];rw [show bls bs = bs.map (fun b => .lst (bB b)) from rfl, iM (g := fun b => .lst (bB b)) (sz (by omega)) fun b hb' => ⟨_, rfl, ?_⟩]
 ·rfl
 ·simp! [NM 10 (hb b hb') (by omega)]
def uM (p : Int) : List (List Stt) -> Option (Int × List Int)
 | [] => none
 | b :: r => match sJ 0 [] 0 b 0 with
  | .fault q _ => some (p, q)
  | .okk _ => uM (p + 1) r
def Dg (i : Int) (q : List Int) : Er := ⟨"NoBook", ["path", "procedure"], [tupI q, .int i]⟩
theorem Aq {S : aO} {many : Int} {k : Nat} {a : Option Vl} {bs0 : List D} (hm : many = (bs0.length : Int)) : ∀ (bs : List (List Stt)) (p : Nat), (∀ b ∈ bs, OkL many b k) ->
  match uM (p : Nat) bs with
  | none => loop (.tp [2, 3]) dP (bL p (bls bs)) [a, some (.dat (.lst bs0)), none, none, none, none] S = .next [a, some (.dat (.lst bs0)), none, none, none, none] S
  | some (i, q) => ∃ ρ', loop (.tp [2, 3]) dP (bL p (bls bs)) [a, some (.dat (.lst bs0)), none, none, none, none] S = .err (Dg i q) ρ' S
 | [], p, _ => rfl
 | b :: r, p, h => by
  have ih := Aq (S := S) (k := k) (a := a) hm r (p + 1) fun b hb => h b (aK _ hb)
  have hb := h b (aL ..);have e1 : dA 10 [.dat (.lst (bB b)), .dat (.int 0), .dat (.int (bs0.length : Int)), .dat (.tup []), .dat (.int 0)] S = .ok (.dat (sJ 0 [] 0 b 0).d) S := by
   rw [<- hm];exact IL 10 (path := []) hb.x (by omega) (by omega) (by simp) (by simp)
  have el : loop (.tp [2, 3]) dP (bL p (bls (b :: r))) [a, some (.dat (.lst bs0)), none, none, none, none] S = (match dP [a, some (.dat (.lst bs0)), some (.dat (.int (p : Nat))), some (.dat (.lst (bB b))), none, none] S with
   | .next ρ2 S2 => loop (.tp [2, 3]) dP (bL (p + 1) (bls r)) ρ2 S2
   | .cnt ρ2 S2 => loop (.tp [2, 3]) dP (bL (p + 1) (bls r)) ρ2 S2
   | .brk ρ2 S2 => .next ρ2 S2
   | .ret d S2 => .ret d S2
   | .err e ρ2 S2 => .err e ρ2 S2
   | .stuck => .stuck) := rfl
  rw [el, dP];simp! [e1];rw [uM];cases q : sJ 0 [] 0 b 0 with
  | fault pp mm =>
   simp! [FR.d, CZ];exact ⟨_, rfl⟩
  | okk mm =>
   simp! [FR.d, CZ];rw [<- dP];exact ih
def cD (bs : List (List Stt)) : D := .ins "Book" ["own"] [.lst (bls bs)]
theorem HE {d : Vl} : ∀ {ρ : Ev} {i : Nat}, i < ρ.length -> lk (ρ.set i (some d)) i = some d
 | [], i, h => by simp at h
 | x :: r, 0, h => rfl
 | x :: r, i + 1, h => HE (ρ := r) (by simpa using h)
theorem FB {ρ : Ev} {i : Nat} : (wipeE ρ [i]).length = ρ.length := by simp [wipeE]
theorem tD {cl : Bool} {S : aO} {many : Int} {k i : Nat} {bs : List (List Stt)} {ρ : Ev} (hb : ∀ b ∈ bs, OkL many b k) (hk : k <= 9) (hl : bs.length <= 10) (h : i < ρ.length) : uD cl (.nm i) lS (bA (dY 20) (aB (aD i) aJ)) ρ [i] (bls bs) S = newL cl (bls bs) S := by
 rw [show bls bs = bs.map (fun b => .lst (bB b)) from rfl, iM (g := fun b => .lst (bB b)) (sz (by omega)) fun b hb' => ?_]
 have e2 := HE (d := .dat (.lst (bB b))) (ρ := wipeE ρ [i]) (i := i) (by rw [FB]; exact h)
 refine ⟨(wipeE ρ [i]).set i (some (.dat (.lst (bB b)))), rfl, ?_⟩
 simp (config := { implicitDefEqProofs := false }) only [IC, I6, LP, e2, As, Em, LQ, El];exact (Kh 20).2 (hb b hb') (by omega)
theorem Jq {S : aO} {many : Int} {k n : Nat} {bs : List (List Stt)} (hb : ∀ b ∈ bs, OkL many b k) (hk : k <= 9) (hm : many = (bs.length : Int)) (h1 : 1 <= bs.length) (h3 : bs.length <= 3) (hn : S[n]? = some (.ins "Book" [])) :
  hY [.cel n, .dat (.lst (bls bs))] S = match uM 0 bs with
   | none => .ok (.dat .non) (S.set n (.ins "Book" [("own", .dat (.lst (bls bs)))]))
   | some (i, q) => .err (Dg i q) S := by
 rw [show hY [.cel n, .dat (.lst (bls bs))] S = cS (nX [some (.cel n), some (.dat (.lst (bls bs))), none, none, none, none] S) from rfl]
 unfold nX;have hl : (bls bs).length = bs.length := by simp [bls]
 have e := Aq (S := S) (a := some (.cel n)) (bs0 := bls bs) (by rw [hl]; exact hm) bs 0 hb
 rw [dU] at e;simp! [hl, decide_eq_true (show (1 : Int) <= (bs.length : Int) by omega), decide_eq_true (show (bs.length : Int) <= 3 by omega)]
 cases q : uM 0 bs with
 | none =>
  rw [q] at e;simp! [e, tD hb hk (show bs.length <= 10 by omega), Hn hn (by simp)]
  rfl
 | some x =>
  obtain ⟨i, p⟩ := x;rw [q] at e;obtain ⟨ρ', e⟩ := e;simp! [e];rfl
theorem BF {S : aO} {many : Int} {k : Nat} {bs : List (List Stt)} (hb : ∀ b ∈ bs, OkL many b k) (hk : k <= 9) (hl : bs.length <= 10) : iW [.dat (cD bs)] S = .ok (.dat (.lst (bls bs))) S := by
 rw [show iW [.dat (cD bs)] S = cS (lM [some (.dat (cD bs)), none] S) from rfl]
 unfold lM cD;simp! [wJ, gK, tD hb hk hl];rfl
theorem Jb {S : aO} {many : Int} {k : Nat} {bs : List (List Stt)} (ls : LS S) (hb : ∀ b ∈ bs, OkL many b k) (hk : k <= 9) (hm : many = (bs.length : Int)) (h1 : 1 <= bs.length) (h3 : bs.length <= 3) :
  Ef false "Book" hY [.dat (.lst (bls bs))] S = match uM 0 bs with
   | none => .ok (.dat (cD bs)) S
   | some (i, q) => .err (Dg i q) S := by
 have t : ((S ++ [Cell.ins "Book" []]).take S.length) = S := by simp
 have ls' := ls.take (n := S.length) (m := S.length);rw [mA] at ls';unfold Ef;rw [Jq hb hk hm h1 h3 (by simp)]
 cases q : uM 0 bs with
 | none =>
  dsimp only [made];rw [List.set_append_right _ _ (bG _), Nat.sub_self];simp [BI, cD, ls']
 | some x =>
  obtain ⟨i, p⟩ := x;dsimp only [made];rw [t, if_pos ls']
end PH
namespace PH
open PySem PySem.Spec PyProof PyProof.Rows L2
mutual
/-- the height -/
def D.ht : D -> Nat
 | .lst xs => D.hts xs + 1
 | .tup xs => D.hts xs + 1
 | _ => 0
def D.hts : List D -> Nat
 | [] => 0
 | x :: r => max (D.ht x) (D.hts r)
end
mutual
/-- no instances, no dicts; texts that may be compared -/
def D.Pl : D -> Prop
 | .lst xs => xs.length <= 1000 /\ D.Pls xs
 | .tup xs => xs.length <= 1000 /\ D.Pls xs
 | .str x => PyData.strOk x = true
 | .ins _ _ _ => False
 | .dct => False
 | .opq _ => False
 | _ => True
def D.Pls : List D -> Prop
 | [] => True
 | x :: r => D.Pl x /\ D.Pls r
end
mutual
theorem wN : ∀ d : D, d.Pl -> ∃ p, d.py = some p /\ p.canLay0 = true /\ p.depth = d.ht
 | .non, _ => ⟨_, rfl, rfl, rfl⟩
 | .bl b, _ => ⟨_, rfl, rfl, rfl⟩
 | .int i, _ => ⟨_, rfl, rfl, rfl⟩
 | .str x, h => ⟨_, rfl, h, rfl⟩
 | .lst xs, h => by
  obtain ⟨ps, e1, e2, e3⟩ := zA xs h.2;refine ⟨.list ps, ?_, e2, ?_⟩
  ·simp only [D.py, e1]
  ·simp only [PyData.depth, D.ht, e3]
 | .tup xs, h => by
  obtain ⟨ps, e1, e2, e3⟩ := zA xs h.2;refine ⟨.tuple ps, ?_, e2, ?_⟩
  ·simp only [D.py, e1]
  ·simp only [PyData.depth, D.ht, e3]
 | .ins _ _ _, h => h.elim
 | .dct, h => h.elim
 | .opq _, h => h.elim
theorem zA : ∀ ds : List D, D.Pls ds -> ∃ ps, D.pys ds = some ps /\ PyData.canLayAll0 ps = true /\ PyData.depthAll ps = D.hts ds
 | [], _ => ⟨_, rfl, rfl, rfl⟩
 | d :: r, h => by
  obtain ⟨p, e1, e2, e3⟩ := wN d h.1;obtain ⟨ps, f1, f2, f3⟩ := zA r h.2;refine ⟨p :: ps, ?_, ?_, ?_⟩
  ·simp only [D.pys, e1, f1]
  ·simp only [PyData.canLayAll0, e2, f2, DD]
  ·simp only [PyData.depthAll, D.hts, e3, f3]
end
theorem vK {d : D} {p : PyData} (h : d.Pl) (hd : d.ht <= 64) (e : d.py = some p) : SeqAt.shaped p = true := by
 obtain ⟨p', e1, e2, e3⟩ := wN d h;rw [e] at e1;cases e1;unfold SeqAt.shaped;rw [e2, e3, decide_eq_true hd];rfl
mutual
theorem Stt.plain {many : Int} : ∀ (s : Stt) (k : Nat), s.Ok many k -> s.d.Pl /\ s.d.ht <= 3 * k + 1
 | .cmd c, k, h => by cases c <;> exact ⟨⟨by simp, by simp only [D.Pl, D.Pls, and_true]; decide +kernel⟩, by simp [Stt.d, Cmd.d, D.ht, D.hts]⟩
 | .fin w, k, h => ⟨⟨by simp, by simp only [D.Pl, D.Pls, and_true]; decide +kernel⟩, by simp [Stt.d, D.ht, D.hts]⟩
 | .bad, k, h => ⟨⟨by simp, by simp only [D.Pl, D.Pls, and_true]; decide +kernel⟩, by simp [Stt.d, D.ht, D.hts]⟩
 | .odd x, k, h => h.elim
 | .keep b, k, h => by
  obtain ⟨h1, h2⟩ := iA b (k - 1) h.2;have l1 := h.2.len;have := h.1;exact ⟨⟨by simp, by show PyData.strOk _ = true; decide +kernel, ⟨by rw [cH]; omega, h1⟩, trivial⟩, by simp [Stt.d, D.ht, D.hts]; omega⟩
 | .again b, k, h => by
  obtain ⟨h1, h2⟩ := iA b (k - 1) h.2;have l1 := h.2.len;have := h.1;exact ⟨⟨by simp, by show PyData.strOk _ = true; decide +kernel, ⟨by rw [cH]; omega, h1⟩, trivial⟩, by simp [Stt.d, D.ht, D.hts]; omega⟩
 | .either a b, k, h => by
  obtain ⟨h1, h2⟩ := iA a (k - 1) h.2.1;obtain ⟨h3, h4⟩ := iA b (k - 1) h.2.2;have l1 := h.2.1.len;have l2 := h.2.2.len;have := h.1;exact ⟨⟨by simp, by show PyData.strOk _ = true; decide +kernel, ⟨by rw [cH]; omega, h1⟩, ⟨by rw [cH]; omega, h3⟩, trivial⟩, by simp [Stt.d, D.ht, D.hts]; omega⟩
 | .call g f a b, k, h => by
  obtain ⟨h1, h2⟩ := iA a (k - 1) h.2.1;obtain ⟨h3, h4⟩ := iA b (k - 1) h.2.2;have l1 := h.2.1.len;have l2 := h.2.2.len;have := h.1.1;exact ⟨⟨by simp, by show PyData.strOk _ = true; decide +kernel, trivial, trivial, ⟨by simp, ⟨by rw [cH]; omega, h1⟩, ⟨by rw [cH]; omega, h3⟩, trivial⟩, trivial⟩, by simp [Stt.d, D.ht, D.hts]; omega⟩
theorem iA {many : Int} : ∀ (l : List Stt) (k : Nat), OkL many l k -> D.Pls (bB l) /\ D.hts (bB l) <= 3 * k + 1
 | [], k, _ => ⟨trivial, by simp [bB, D.hts]⟩
 | s :: r, k, h => by
  obtain ⟨h1, h2⟩ := Stt.plain s k h.1.1;obtain ⟨h3, h4⟩ := iA r k h.2;exact ⟨⟨h1, h3⟩, by simp [bB, D.hts]; omega⟩
end
theorem Bc : ∀ p : List Int, D.pys (p.map D.int) = some (p.map PyData.int)
 | [] => rfl
 | i :: r => by simp only [aN, D.pys, D.py, Bc r]
theorem xW : ∀ p : List Int, D.Pls (p.map D.int) /\ D.hts (p.map D.int) = 0
 | [] => ⟨trivial, rfl⟩
 | i :: r => ⟨⟨trivial, (xW r).1⟩, by simp [D.hts, D.ht, (xW r).2]⟩
theorem Do : ∀ {xs : List D} {x : D}, x ∈ xs -> x.ht <= D.hts xs
 | y :: r, x, h => by
  rcases bN.mp h with rfl | h
  ·simp [D.hts]; omega
  ·have := Do h; simp [D.hts]; omega
theorem DY : ∀ {xs : List D} {x : D}, D.Pls xs -> x ∈ xs -> x.Pl
 | y :: r, x, hp, h => by
  rcases bN.mp h with rfl | h
  ·exact hp.1
  ·exact DY hp.2 h
theorem all_true {α : Type} {S : aO} (xs : List α) : AL (.dat (.lst (xs.map fun _ => D.bl true))) S = .ok (.dat (.bl true)) S := by
 have : ∀ xs : List α, A3 (xs.map fun _ => D.bl true) = some (xs.map fun _ => true) := fun xs => by
  induction xs with
  | nil => rfl
  | cons x r ih => simp only [aN, A3, ih]
 simp only [AL, kU, this]
 congr 3
 simp
theorem KZ {S : aO} : gR (.dat .non) (.dat .non) S = .ok (.dat (.bl true)) S := by
 show (if Iv .none .none = true then Res.ok (Vl.dat (D.bl (PyData.eqv .none .none))) S else .stuck) = _
 rw [if_pos (by decide +kernel)]
 rfl
theorem ET {n : Nat} {xs : List D} {S : aO} {f : FD} {i : Nat} {x y : D} (hx : xs[i]? = some x) (ex : cL (.dat y) (.dat (.int (0 + (i : Int)))) S = .ok (.dat x) S) (h : f [.dat x, .dat x] S = .ok (.dat (.bl true)) S) : pX f [some (.dat y), some (.dat y), some (.dat (.int (0 + (i : Int))))] S = .ok (.dat (.bl true)) S := by
 unfold pX;simp! [ex, h]
theorem tU (n : Nat) : ∀ {S : aO} {d : D}, d.Pl -> d.ht < n -> kF n [.dat d, .dat d] S = .ok (.dat (.bl true)) S := by
 induction n with
 | zero => intro S d _ h; omega
 | succ n ih =>
  intro S d hp hd;rw [show kF (n + 1) [.dat d, .dat d] S = cS (uQ (kF n) [some (.dat d), some (.dat d), none] S) from rfl]
  unfold uQ;cases d with
  | non => simp! [KZ]; rfl
  | bl b => simp! [if_true]; rfl
  | int i => simp! [if_true]; rfl
  | str x => simp! [if_true]; rfl
  | ins _ _ _ => exact hp.elim
  | dct => exact hp.elim
  | opq _ => exact hp.elim
  | lst xs =>
   have hl := hp.1;simp! [gG (show -(2 ^ 62) <= (xs.length : Int) by omega) (show (xs.length : Int) < 2 ^ 62 by omega), gN, cG]
   rw [iM (g := fun _ => D.bl true) (sz (by simp; omega)) fun i hi => ⟨_, rfl, ?_⟩]
   ·simp! [if_true]
    rw [all_true];rfl
   ·have hi' : i < xs.length := tR.mp hi
    have hx : xs[i]? = some xs[i] := cA hi';have hm : xs[i] ∈ xs := eO hi';have := Do hm;have hd' : D.hts xs + 1 < n + 1 := hd;exact ET (n := n) hx (iX (by rw [dM (n := i) (by omega), hx])) (ih (DY hp.2 hm) (by omega))
  | tup xs =>
   have hl := hp.1;simp! [gG (show -(2 ^ 62) <= (xs.length : Int) by omega) (show (xs.length : Int) < 2 ^ 62 by omega), gN, cG]
   rw [iM (g := fun _ => D.bl true) (sz (by simp; omega)) fun i hi => ⟨_, rfl, ?_⟩]
   ·simp! [if_true]
    rw [all_true];rfl
   ·have hi' : i < xs.length := tR.mp hi
    have hx : xs[i]? = some xs[i] := cA hi';have hm : xs[i] ∈ xs := eO hi';have := Do hm;have hd' : D.hts xs + 1 < n + 1 := hd;exact ET (n := n) hx (CV (by rw [dM (n := i) (by omega), hx])) (ih (DY hp.2 hm) (by omega))
theorem kD {lo : Int} {n : Nat} : gN lo (n + 1) = .int lo :: gN (lo + 1) n := by
 unfold gN;rw [EK, aN, gV]
 congr 1
 ·simp
 ·apply jR
  intro k _;simp only [Function.comp]
  congr 1
  omega
abbrev rm (S : aO) (q : Nat) (m : Int) : aO := S.set q (.lst [.int m])
theorem mQ {bs : List (List Stt)} : (bls bs).length = bs.length := by simp [bls]
theorem IX {ns : List Int} {lo hi : Option Int} : ∃ ms : List Int, cutD (ns.map D.int) lo hi = ms.map D.int /\ ms.length <= ns.length := by
 refine ⟨(ns.drop (HT.sIx (ns.map D.int).length 0 lo)).take (HT.sIx (ns.map D.int).length (ns.map D.int).length hi - HT.sIx (ns.map D.int).length 0 lo), ?_, ?_⟩
 ·simp only [cutD, DE, List.map_drop]
 ·simp; omega
theorem JN {ns : List Int} {S : aO} (hn : ns.length <= 63) : ∃ ks : List Int, uB [.scr ns] S = .ok (.cel S.length) (S ++ [PL ks]) /\ 2 <= ks.length := by
 obtain ⟨ms, e, hl⟩ := IX (ns := ns) (lo := none) (hi := some 63);rw [show uB [.scr ns] S = cS (uR [some (.scr ns), none] S) from rfl]
 unfold uR;simp! [e];rw [iM (g := D.int) (sz (by omega)) fun i hi => ⟨_, rfl, ?_⟩]
 ·cases ms with
  | nil =>
   refine ⟨[0, 0], ?_, by simp⟩
   simp! [aW, List.isEmpty_nil, jO (show [D.int 0].length + [D.int 0].length <= sizeLine from sz (by simp))]
   rfl
  | cons i r =>
   refine ⟨0 :: i :: r, ?_, by simp⟩
   simp! [aN, List.isEmpty_cons, jO (show [D.int 0].length + (D.int i :: r.map D.int).length <= sizeLine from sz (by simp at *; omega))]
   rfl
 ·simp! [if_true]
theorem GP {T : aO} {d : D} : trunc 0 (.ok (.dat d) T) = .ok (.dat d) [] := by simp [trunc, Vl.below]
theorem BG {many : Int} : ∀ {bs : List (List Stt)} {k : Nat}, (∀ b ∈ bs, OkL many b k) -> D.Pls (bls bs) /\ D.hts (bls bs) <= 3 * k + 2
 | [], k, _ => ⟨trivial, by simp [bls, D.hts]⟩
 | b :: r, k, h => by
  obtain ⟨h1, h2⟩ := BG (bs := r) (k := k) fun b hb => h b (aK _ hb)
  have hb := h b (aL ..);obtain ⟨h3, h4⟩ := iA b k hb;have := hb.len;refine ⟨⟨⟨by rw [cH]; omega, h3⟩, h1⟩, ?_⟩
  simp only [bls] at h2;simp only [bls, aN, D.hts, D.ht];omega
structure Dr (p q c N : Nat) (many : Int) (S : aO) (r l : Int) : Prop where
 ls : LS S
 n2 : 2 <= N
 pool : ∃ ks, S[p]? = some (PL ks) /\ ks.length = N
 room : S[q]? = some (PL [r])
 call : S[c]? = some (PL [l, many])
 pq : p ≠ q
 pc : p ≠ c
 qc : q ≠ c
def Sam (Z : List Nat) (S S' : aO) : Prop := S'.length = S.length /\ ∀ i : Nat, i ∉ Z -> S'[i]? = S[i]?
theorem Sam.refl {Z : List Nat} {S : aO} : Sam Z S S := ⟨rfl, fun _ _ => rfl⟩
theorem Sam.trans {Z : List Nat} {S S1 S2 : aO} (a : Sam Z S S1) (b : Sam Z S1 S2) : Sam Z S S2 := ⟨by rw [b.1, a.1], fun i h => by rw [b.2 i h, a.2 i h]⟩
theorem Sam.set {Z : List Nat} {S : aO} {k : Nat} {x : Cell} (h : k ∈ Z) : Sam Z S (S.set k x) := ⟨by simp, fun i hi => by
 rw [bD, if_neg (show ¬ k = i from fun e => hi (by rw [<- e]; exact h))]⟩
section
variable {p q c N : Nat} {many r l : Int} {S : aO}
theorem jK {S : aO} {i j : Nat} {x : Cell} (h : i ≠ j) : (S.set i x)[j]? = S[j]? := by rw [bD, if_neg h]
theorem Dr.setp {ks : List Int} (D : Dr p q c N many S r l) (h : ks.length = N) : Dr p q c N many (S.set p (PL ks)) r l := by
 obtain ⟨k0, h0, _⟩ := D.pool;exact ⟨D.ls.set, D.n2, ⟨ks, fO h0, h⟩, by rw [jK D.pq]; exact D.room, by rw [jK D.pc]; exact D.call, D.pq, D.pc, D.qc⟩
theorem Dr.setq {r' : Int} (D : Dr p q c N many S r l) : Dr p q c N many (S.set q (PL [r'])) r' l := by
 obtain ⟨k0, h0, h1⟩ := D.pool;exact ⟨D.ls.set, D.n2, ⟨k0, by rw [jK (Ne.symm D.pq)]; exact h0, h1⟩, fO D.room, by rw [jK D.qc]; exact D.call, D.pq, D.pc, D.qc⟩
theorem Dr.setc {l' : Int} (D : Dr p q c N many S r l) : Dr p q c N many (S.set c (PL [l', many])) r l' := by
 obtain ⟨k0, h0, h1⟩ := D.pool;exact ⟨D.ls.set, D.n2, ⟨k0, by rw [jK (Ne.symm D.pc)]; exact h0, h1⟩, by rw [jK (Ne.symm D.qc)]; exact D.room, fO D.call, D.pq, D.pc, D.qc⟩
theorem Dr.draw {k : Int} (D : Dr p q c N many S r l) (h0 : 0 < k) (h1 : k < 1073741824) : ∃ (d : Int) (S' : aO), bU [.cel p, .dat (.int k)] S = .ok (.dat (.int d)) S' /\ 0 <= d /\ d < k /\ Dr p q c N many S' r l /\ Sam [p, q, c] S S' := by
 obtain ⟨ks, hk, hl⟩ := D.pool;obtain ⟨d, ks', e, h2, h3, l⟩ := eN (S := S) (p := p) (ks := ks) ⟨hk, by rw [hl]; exact D.n2⟩ h0 h1
 exact ⟨d, _, e, h2, h3, D.setp (by omega), Sam.set (by simp)⟩
theorem Dr.ixq (D : Dr p q c N many S r l) : cL (.cel q) (.dat (.int 0)) S = .ok (.dat (.int r)) S := sH (k := 0) (n := 0) D.room rfl rfl
theorem Dr.ixc0 (D : Dr p q c N many S r l) : cL (.cel c) (.dat (.int 0)) S = .ok (.dat (.int l)) S := sH (k := 0) (n := 0) D.call rfl rfl
theorem Dr.ixc1 (D : Dr p q c N many S r l) : cL (.cel c) (.dat (.int 1)) S = .ok (.dat (.int many)) S := sH (k := 1) (n := 1) D.call rfl rfl
theorem Dr.augq {w : Int} {g : Int -> Int -> Int} {o i e : FE} {ρ : Ev} (D : Dr p q c N many S r l) (ho : o ρ S = .ok (.cel q) S) (hi : i ρ S = .ok (.dat (.int 0)) S) (he : e ρ S = .ok (.dat (.int w)) S) : kI g o i e ρ S = .next ρ (S.set q (PL [g r w])) := A1 (k := 0) (n := 0) ho hi he D.room rfl rfl
theorem Dr.augc {w : Int} {g : Int -> Int -> Int} {o i e : FE} {ρ : Ev} (D : Dr p q c N many S r l) (ho : o ρ S = .ok (.cel c) S) (hi : i ρ S = .ok (.dat (.int 0)) S) (he : e ρ S = .ok (.dat (.int w)) S) : kI g o i e ρ S = .next ρ (S.set c (PL [g l w, many])) := A1 (k := 0) (n := 0) ho hi he D.call rfl rfl
end
section
variable {S : aO} {cl : Bool} {a b c d e f g h i j : D}
theorem kLst4 : BZ cl [.dat a, .dat b, .dat c, .dat d] S = newL cl [a, b, c, d] S := rfl
theorem kLst5 : BZ cl [.dat a, .dat b, .dat c, .dat d, .dat e] S = newL cl [a, b, c, d, e] S := rfl
theorem kLst9 : BZ cl [.dat a, .dat b, .dat c, .dat d, .dat e, .dat f, .dat g, .dat h, .dat i] S = newL cl [a, b, c, d, e, f, g, h, i] S := rfl
theorem kTup8 : kTup [.dat a, .dat b, .dat c, .dat d, .dat e, .dat f, .dat g, .dat h] S = .ok (.dat (.tup [a, b, c, d, e, f, g, h])) S := rfl
end
def menus : List (List Int) := [[0, 0, 0, 1, 1], [0, 0, 2, 3, 1], [0, 6, 7, 8, 8], [0, 4, 5, 6, 7], [0, 1, 3, 6, 8], [0, 1, 2, 3, 4, 5, 6, 7, 8], [1, 1, 2, 3, 4], [5, 6, 7, 8, 8]]
def H7 : List D := menus.map fun ks => .lst (ks.map D.int)
theorem Ja {mood : Int} {S : aO} (h0 : 0 <= mood) (h1 : mood <= 7) : ∃ ks : List Int, cL (.dat (.lst H7)) (.dat (.int mood)) S = .ok (.dat (.lst (ks.map D.int))) S /\ 0 < ks.length /\ ks.length <= 9 /\ ∀ k ∈ ks, 0 <= k /\ k <= 8 := by
 rcases (by omega : mood = 0 \/ mood = 1 \/ mood = 2 \/ mood = 3 \/ mood = 4 \/ mood = 5 \/ mood = 6 \/ mood = 7) with rfl | rfl | rfl | rfl | rfl | rfl | rfl | rfl
 ·exact ⟨[0, 0, 0, 1, 1], rfl, by decide, by decide, by decide⟩
 ·exact ⟨[0, 0, 2, 3, 1], rfl, by decide, by decide, by decide⟩
 ·exact ⟨[0, 6, 7, 8, 8], rfl, by decide, by decide, by decide⟩
 ·exact ⟨[0, 4, 5, 6, 7], rfl, by decide, by decide, by decide⟩
 ·exact ⟨[0, 1, 3, 6, 8], rfl, by decide, by decide, by decide⟩
 ·exact ⟨[0, 1, 2, 3, 4, 5, 6, 7, 8], rfl, by decide, by decide, by decide⟩
 ·exact ⟨[1, 1, 2, 3, 4], rfl, by decide, by decide, by decide⟩
 ·exact ⟨[5, 6, 7, 8, 8], rfl, by decide, by decide, by decide⟩
theorem Ji {ks : List Int} {d : Int} {S : aO} (h0 : 0 <= d) (h1 : d < (ks.length : Int)) : ∃ k ∈ ks, cL (.dat (.lst (ks.map D.int))) (.dat (.int d)) S = .ok (.dat (.int k)) S := by
 have hd : d.toNat < ks.length := by omega
 refine ⟨ks[d.toNat], eO hd, iX ?_⟩
 rw [dM (n := d.toNat) (by omega)]
 simp [hd]
theorem HU {d : Int} {S : aO} (h0 : 0 <= d) (h1 : d < 8) : ∃ k : Int, cL (.dat (.tup [.int (-1), .int (-1), .int (-1), .int 1, .int 1, .int 0, .int 2, .int (-3)])) (.dat (.int d)) S = .ok (.dat (.int k)) S /\ -3 <= k /\ k <= 3 := by
 rcases (by omega : d = 0 \/ d = 1 \/ d = 2 \/ d = 3 \/ d = 4 \/ d = 5 \/ d = 6 \/ d = 7) with rfl | rfl | rfl | rfl | rfl | rfl | rfl | rfl
 ·exact ⟨-1, rfl, by decide, by decide⟩
 ·exact ⟨-1, rfl, by decide, by decide⟩
 ·exact ⟨-1, rfl, by decide, by decide⟩
 ·exact ⟨1, rfl, by decide, by decide⟩
 ·exact ⟨1, rfl, by decide, by decide⟩
 ·exact ⟨0, rfl, by decide, by decide⟩
 ·exact ⟨2, rfl, by decide, by decide⟩
 ·exact ⟨-3, rfl, by decide, by decide⟩
theorem MO {d a : Int} {S : aO} (h0 : 0 <= d) (h1 : d < 4) (ha : -9 <= a) (hb : a <= 9) : ∃ k : Int, cL (.dat (.lst [.int a, .int 2, .int (a % 3 - 1), .int 1])) (.dat (.int d)) S = .ok (.dat (.int k)) S /\ -9 <= k /\ k <= 9 := by
 have := fF a (show (3 : Int) ≠ 0 by decide)
 have := eT a (show (0 : Int) < 3 by decide)
 rcases (by omega : d = 0 \/ d = 1 \/ d = 2 \/ d = 3) with rfl | rfl | rfl | rfl
 ·exact ⟨a, rfl, ha, hb⟩
 ·exact ⟨2, rfl, by decide, by decide⟩
 ·exact ⟨a % 3 - 1, rfl, by omega, by omega⟩
 ·exact ⟨1, rfl, by decide, by decide⟩
theorem EB {S : aO} {p : Nat} {ks : List Int} {mood : Int} (hP : PoolAt S p ks) (h0 : 0 <= mood) (h7 : mood <= 7) : ∃ (c : Cmd) (ks' : List Int), hX [.cel p, .dat (.int mood)] S = .ok (.dat c.d) (S.set p (PL ks')) /\ c.Ok /\ ks'.length = ks.length := by
 obtain ⟨ms, e0, m1, m2, m3⟩ := Ja (mood := mood) (S := S) h0 h7;obtain ⟨d, k1, e1, d0, d1, l1⟩ := eN hP (k := (ms.length : Int)) (by omega) (by omega)
 have P1 := hP.next l1;obtain ⟨kd, hk, ei⟩ := Ji (ks := ms) (d := d) (S := S.set p (PL k1)) d0 d1;obtain ⟨hk0, hk8⟩ := m3 kd hk;have eE : hX [.cel p, .dat (.int mood)] S = cS (nW [some (.cel p), some (.dat (.int mood)), none, none, none, none] S) := rfl;rw [eE];unfold nW;have em : ∀ S, cZ false (.dat (.lst [.lst [.int 0, .int 0, .int 0, .int 1, .int 1], .lst [.int 0, .int 0, .int 2, .int 3, .int 1], .lst [.int 0, .int 6, .int 7, .int 8, .int 8], .lst [.int 0, .int 4, .int 5, .int 6, .int 7], .lst [.int 0, .int 1, .int 3, .int 6, .int 8]])) (.dat (.lst [.lst [.int 0, .int 1, .int 2, .int 3, .int 4, .int 5, .int 6, .int 7, .int 8], .lst [.int 1, .int 1, .int 2, .int 3, .int 4], .lst [.int 5, .int 6, .int 7, .int 8, .int 8]])) S = .ok (.dat (.lst H7)) S := fun S => rfl
 simp! [kLst5, kLst9, em, e0, bE, e1, ei];obtain ⟨d2, k2, e2, h2, h3, l2⟩ := eN P1 (k := 19) (by decide) (by decide)
 obtain ⟨d3, k3, e3, h4, h5, l3⟩ := eN P1 (k := 3) (by decide) (by decide)
 obtain ⟨d4, k4, e4, h6, h7, l4⟩ := eN P1 (k := 8) (by decide) (by decide)
 obtain ⟨d5, k5, e5, h8, h9, l5⟩ := eN (P1.next l2) (k := 19) (by decide) (by decide)
 obtain ⟨d6, k6, e6, h10, h11, l6⟩ := eN (P1.next l2) (k := 4) (by decide) (by decide)
 simp only [jB] at e2 e3 e4 e5 e6;rcases (by omega : kd = 0 \/ kd = 1 \/ kd = 2 \/ kd = 3 \/ kd = 4 \/ kd = 5 \/ kd = 6 \/ kd = 7 \/ kd = 8) with rfl | rfl | rfl | rfl | rfl | rfl | rfl | rfl | rfl
 ·obtain ⟨v, ev, v1, v2⟩ := MO (a := d2 - 9) (S := S.set p (PL k6)) h10 h11 (by omega) (by omega)
  simp! [e2, kLst4, e6, mX (show (0 : Int) < 3 by decide), ev]
  exact ⟨.go v, k6, rfl, ⟨v1, v2⟩, by omega⟩
 ·simp! [e3]
  exact ⟨.turn (1 + d3), k3, rfl, ⟨by omega, by omega⟩, by omega⟩
 ·simp! [if_true]
  exact ⟨.mirror, k1, rfl, trivial, l1⟩
 ·obtain ⟨v, ev, v1, v2⟩ := HU (S := S.set p (PL k4)) h6 h7
  simp! [kTup8, e4, ev];exact ⟨.scale v, k4, rfl, ⟨v1, v2⟩, by omega⟩
 ·simp! [dH, e2, e5]
  exact ⟨.aim (d2 - 9) (d5 - 9), k5, rfl, ⟨⟨by omega, by omega⟩, by omega, by omega⟩, by omega⟩
 ·simp! [pT, e2, e5]
  exact ⟨.place (d2 - 9) (d5 - 9), k5, rfl, ⟨⟨by omega, by omega⟩, by omega, by omega⟩, by omega⟩
 ·simp! [dH]
  exact ⟨.mark, k1, rfl, trivial, l1⟩
 ·simp! [pT]
  exact ⟨.ret, k1, rfl, trivial, l1⟩
 ·simp! [CP]
  exact ⟨.exch, k1, rfl, trivial, l1⟩
theorem JO {S : aO} {p : Nat} {ks : List Int} {mood : Int} (hP : PoolAt S p ks) : ∃ (c c' : Cmd) (ks' : List Int), oQ [.cel p, .dat (.int mood)] S = .ok (.dat (.lst [c.d, c'.d])) (S.set p (PL ks')) /\ c.Ok /\ c'.Ok /\ ks'.length = ks.length := by
 obtain ⟨d, k1, e1, d0, d1, l1⟩ := eN hP (k := 3) (by decide) (by decide)
 have P1 := hP.next l1;obtain ⟨d2, k2, e2, h2, h3, l2⟩ := eN P1 (k := 4) (by decide) (by decide)
 simp only [jB] at e2;have eE : oQ [.cel p, .dat (.int mood)] S = cS (uS [some (.cel p), some (.dat (.int mood)), none, none, none] S) := rfl;rw [eE];unfold uS;have fin : ∀ (x : Int) (S : aO), 0 <= x -> x < 4 -> ∃ c c' : Cmd, cL (.dat (.lst ([.lst [.tup [.str "go", .int (1 + d)], .tup [.str "go", .int (-(1 + d))]], .lst [.tup [.str "turn", .int (1 + d)], .tup [.str "turn", .int (4 - (1 + d))]], .lst [.tup [.str "mirror"], .tup [.str "mirror"]]] ++ [.lst [.tup [.str "exchange"], .tup [.str "exchange"]]]))) (.dat (.int x)) S = .ok (.dat (.lst [c.d, c'.d])) S /\ c.Ok /\ c'.Ok := fun x S h0 h1 => by
  rcases (by omega : x = 0 \/ x = 1 \/ x = 2 \/ x = 3) with rfl | rfl | rfl | rfl
  ·exact ⟨.go (1 + d), .go (-(1 + d)), rfl, ⟨by omega, by omega⟩, ⟨by omega, by omega⟩⟩
  ·exact ⟨.turn (1 + d), .turn (4 - (1 + d)), rfl, ⟨by omega, by omega⟩, ⟨by omega, by omega⟩⟩
  ·exact ⟨.mirror, .mirror, rfl, trivial, trivial⟩
  ·exact ⟨.exch, .exch, rfl, trivial, trivial⟩
 simp! [e1, e2]
 by_cases hm : mood = 6
 ·subst hm
  have := fF d2 (show (2 : Int) ≠ 0 by decide)
  have := eT d2 (show (0 : Int) < 2 by decide)
  obtain ⟨c, c', e, o1, o2⟩ := fin (1 + d2 % 2) (S.set p (PL k2)) (by omega) (by omega)
  simp! [mX (show (0 : Int) < 2 by decide), jO, sz, e]
  exact ⟨c, c', k2, rfl, o1, o2, by omega⟩
 ·by_cases h7 : mood = 7
  ·subst h7
   obtain ⟨c, c', e, o1, o2⟩ := fin 3 (S.set p (PL k2)) (by omega) (by omega)
   simp! [jO, sz, e];exact ⟨c, c', k2, rfl, o1, o2, by omega⟩
  ·obtain ⟨c, c', e, o1, o2⟩ := fin d2 (S.set p (PL k2)) (by omega) (by omega)
   simp! [decide_eq_false hm, decide_eq_false h7, jO, sz, e];exact ⟨c, c', k2, rfl, o1, o2, by omega⟩
mutual
def Stt.Gd (many : Int) : Stt -> Nat -> Prop
 | .cmd c, _ => c.Ok
 | .fin w, _ => 0 <= w /\ w <= 1
 | .keep b, n => 0 < n /\ GdL many b (n - 1)
 | .again b, n => 0 < n /\ GdL many b (n - 1)
 | .either a b, n => 0 < n /\ GdL many a (n - 1) /\ GdL many b (n - 1)
 | .call g _ a b, n => (0 < n /\ 0 <= g /\ g < many) /\ GdL many a (n - 1) /\ GdL many b (n - 1)
 | .bad, _ => False
 | .odd _, _ => False
def GdL (many : Int) : List Stt -> Nat -> Prop
 | [], _ => True
 | s :: r, n => s.Gd many n /\ GdL many r n
end
mutual
def Stt.size : Stt -> Nat
 | .keep b => bH b + 1
 | .again b => bH b + 1
 | .either a b => bH a + bH b + 1
 | .call _ _ a b => bH a + bH b + 1
 | _ => 1
def bH : List Stt -> Nat
 | [] => 0
 | s :: r => s.size + bH r
end
theorem size_pos (s : Stt) : 1 <= s.size := by cases s <;> simp [Stt.size]
theorem iH : ∀ l : List Stt, l.length <= bH l
 | [] => bG _
 | s :: r => by have := iH r; have := size_pos s; simp [bH]; omega
theorem fM : ∀ l m : List Stt, bH (l ++ m) = bH l + bH m
 | [], m => by simp [bH]
 | s :: r, m => by simp [bH, fM r m]; omega
theorem GdL.app {many : Int} : ∀ {l m : List Stt} {n : Nat}, GdL many l n -> GdL many m n -> GdL many (l ++ m) n
 | [], m, n, _, h => h
 | s :: r, m, n, h, h' => ⟨h.1, GdL.app h.2 h'⟩
mutual
theorem Stt.Gd.ok {many : Int} : ∀ {s : Stt} {n : Nat}, s.Gd many n -> s.size <= 11 -> s.Ok many n
 | .cmd c, n, h, _ => h
 | .fin w, n, h, _ => h
 | .keep b, n, h, hs => ⟨h.1, GdL.ok h.2 (by simp [Stt.size] at hs; omega)⟩
 | .again b, n, h, hs => ⟨h.1, GdL.ok h.2 (by simp [Stt.size] at hs; omega)⟩
 | .either a b, n, h, hs => ⟨h.1, GdL.ok h.2.1 (by simp [Stt.size] at hs; omega), GdL.ok h.2.2 (by simp [Stt.size] at hs; omega)⟩
 | .call g _ a b, n, h, hs => ⟨h.1, GdL.ok h.2.1 (by simp [Stt.size] at hs; omega), GdL.ok h.2.2 (by simp [Stt.size] at hs; omega)⟩
 | .bad, n, h, _ => h.elim
 | .odd _, n, h, _ => h.elim
theorem GdL.ok {many : Int} : ∀ {l : List Stt} {n : Nat}, GdL many l n -> bH l <= 10 -> OkL many l n
 | [], n, _, _ => trivial
 | s :: r, n, h, hs => by
  have := iH r;have := size_pos s;simp only [bH] at hs;exact ⟨⟨Stt.Gd.ok h.1 (by omega), by omega⟩, GdL.ok h.2 (by omega)⟩
end
mutual
theorem Cg {many : Int} : ∀ {s : Stt} {n : Nat} {lv met : Int} {here : List Int}, s.Gd many n -> 0 <= lv -> lv + n <= 3 -> s.size <= 9 -> met + s.size <= 13 -> 0 <= met -> Ax lv here s met = .okk (met + s.size - 1)
 | .cmd c, n, lv, met, here, h, h0, h3, h9, h12, hm => by simp [Ax, Stt.size]
 | .fin c, n, lv, met, here, h, h0, h3, h9, h12, hm => by simp [Ax, Stt.size]
 | .bad, n, lv, met, here, h, h0, h3, h9, h12, hm => h.elim
 | .odd _, n, lv, met, here, h, h0, h3, h9, h12, hm => h.elim
 | .keep b, n, lv, met, here, h, h0, h3, h9, h12, hm => by
  have := h.1;simp only [Stt.size] at h9 h12;rw [Ax, mZ (n := n - 1) h.2 (by omega) (by omega) (by omega) (by omega) hm (by omega), Stt.size]
  congr 1
  omega
 | .again b, n, lv, met, here, h, h0, h3, h9, h12, hm => by
  have := h.1;simp only [Stt.size] at h9 h12;rw [Ax, mZ (n := n - 1) h.2 (by omega) (by omega) (by omega) (by omega) hm (by omega), Stt.size]
  congr 1
  omega
 | .either a b, n, lv, met, here, h, h0, h3, h9, h12, hm => by
  have := h.1;simp only [Stt.size] at h9 h12;rw [Ax, mZ (n := n - 1) h.2.1 (by omega) (by omega) (by omega) (by omega) hm (by omega), FR.then_okk, mZ (n := n - 1) h.2.2 (by omega) (by omega) (by omega) (by omega) (by omega) (by omega), Stt.size]
  congr 1
  omega
 | .call g f a b, n, lv, met, here, h, h0, h3, h9, h12, hm => by
  have := h.1.1;simp only [Stt.size] at h9 h12;rw [Ax, mZ (n := n - 1) h.2.1 (by omega) (by omega) (by omega) (by omega) hm (by omega), FR.then_okk, mZ (n := n - 1) h.2.2 (by omega) (by omega) (by omega) (by omega) (by omega) (by omega), Stt.size]
  congr 1
  omega
theorem mZ {many : Int} : ∀ {l : List Stt} {n : Nat} {lv at_ met : Int} {path : List Int}, GdL many l n -> 0 <= lv -> lv + n <= 3 -> at_ + bH l <= 8 -> met + bH l <= 12 -> 0 <= met -> 0 <= at_ -> sJ lv path at_ l met = .okk (met + bH l)
 | [], n, lv, at_, met, path, h, h0, h3, h8, h12, hm, ha => by simp [sJ, bH]
 | s :: r, n, lv, at_, met, path, h, h0, h3, h8, h12, hm, ha => by
  have hp := size_pos s;simp only [bH] at h8 h12;have hw : s.wf lv = true := by
   cases s with
   | cmd c => rfl
   | fin c => rfl
   | bad => exact h.1.elim
   | odd x => exact h.1.elim
   | keep b => have := h.1.1; simp [Stt.wf]; omega
   | again b => have := h.1.1; simp [Stt.wf]; omega
   | either a b => have := h.1.1; simp [Stt.wf]; omega
   | call g f a b => have := h.1.1.1; simp [Stt.wf]; omega
  rw [sJ, if_neg (by rintro (e | e | e) <;> first | omega | (rw [hw] at e; cases e)), Cg (n := n) h.1 h0 h3 (by omega) (by omega) (by omega), FR.then_okk, mZ (n := n) h.2 h0 h3 (by omega) (by omega) (by omega) (by omega), bH]
  congr 1
  omega
end
section
variable {p q c N : Nat} {many : Int}
theorem Dr.command {S : aO} {r l mood : Int} (D : Dr p q c N many S r l) (h0 : 0 <= mood) (h7 : mood <= 7) : ∃ (cm : Cmd) (S' : aO), hX [.cel p, .dat (.int mood)] S = .ok (.dat cm.d) S' /\ cm.Ok /\ Dr p q c N many S' r l /\ Sam [p, q, c] S S' := by
 obtain ⟨ks, hk, hl⟩ := D.pool;obtain ⟨cm, ks', e, ho, l⟩ := EB (S := S) (p := p) (ks := ks) ⟨hk, by rw [hl]; exact D.n2⟩ h0 h7
 exact ⟨cm, _, e, ho, D.setp (by omega), Sam.set (by simp)⟩
theorem Dr.pair {S : aO} {r l mood : Int} (D : Dr p q c N many S r l) : ∃ (cm cm' : Cmd) (S' : aO), oQ [.cel p, .dat (.int mood)] S = .ok (.dat (.lst [cm.d, cm'.d])) S' /\ cm.Ok /\ cm'.Ok /\ Dr p q c N many S' r l /\ Sam [p, q, c] S S' := by
 obtain ⟨ks, hk, hl⟩ := D.pool;obtain ⟨cm, cm', ks', e, ho, ho', l⟩ := JO (S := S) (p := p) (ks := ks) (mood := mood) ⟨hk, by rw [hl]; exact D.n2⟩
 exact ⟨cm, cm', _, e, ho, ho', D.setp (by omega), Sam.set (by simp)⟩
structure Left (p q c N : Nat) (many : Int) (S : aO) (r : Int) (n : Nat) (ls : List Stt) (S' : aO) (r' l' : Int) : Prop where
 dr : Dr p q c N many S' r' l'
 sam : Sam [p, q, c] S S'
 r0 : 0 <= r'
 sz : (bH ls : Int) + r' <= r
 gd : GdL many ls n
end
def Bx (n : Nat) : Prop := ∀ {p q c N : Nat} {many : Int} {S : aO} {r l mood lv low : Int}, Dr p q c N many S r l -> 0 <= mood -> mood <= 7 -> 0 <= lv -> lv <= 3 -> 0 <= low -> 0 <= r -> r <= 8 -> many <= 3 -> 2 * (3 - lv.toNat) + r.toNat + 2 <= n ->
 ∃ (ls : List Stt) (S' : aO) (r' l' : Int), sG n [.cel p, .dat (.int mood), .dat (.int lv), .cel q, .cel c, .dat (.int low)] S = .ok (.dat (.lst (bB ls))) S' /\ Left p q c N many S r (3 - lv.toNat) ls S' r' l'
def uZ (n : Nat) : Prop := ∀ {p q c N : Nat} {many : Int} {S : aO} {r l mood lv low : Int}, Dr p q c N many S r l -> 0 <= mood -> mood <= 7 -> 0 <= lv -> lv <= 3 -> 0 <= low -> 0 < r -> r <= 8 -> many <= 3 -> 2 * (3 - lv.toNat) + r.toNat + 1 <= n ->
 ∃ (ls : List Stt) (S' : aO) (r' l' : Int), jX n [.cel p, .dat (.int mood), .dat (.int lv), .cel q, .cel c, .dat (.int low)] S = .ok (.dat (.lst (bB ls))) S' /\ Left p q c N many S r (3 - lv.toNat) ls S' r' l'
theorem tO {n : Nat} (ih : uZ n) {p q c N : Nat} {many mood lv low : Int} (h0 : 0 <= mood) (h7 : mood <= 7) (l0 : 0 <= lv) (l3 : lv <= 3) (lo : 0 <= low) (hm : many <= 3) :
  ∀ (is : List D) (ls : List Stt) (S : aO) (r l : Int), Dr p q c N many S r l -> 0 <= r -> (bH ls : Int) + r <= 8 -> 2 * (3 - lv.toNat) + r.toNat + 1 <= n -> GdL many ls (3 - lv.toNat) -> ∃ (ls' : List Stt) (S' : aO) (r' l' : Int),
   loop (.nm 7) (jS (jX n)) is [some (.cel p), some (.dat (.int mood)), some (.dat (.int lv)), some (.cel q), some (.cel c), some (.dat (.int low)), some (.dat (.lst (bB ls))), none] S =
    .next [some (.cel p), some (.dat (.int mood)), some (.dat (.int lv)), some (.cel q), some (.cel c), some (.dat (.int low)), some (.dat (.lst (bB ls'))), none] S' /\ Left p q c N many S (bH ls + r) (3 - lv.toNat) ls' S' r' l'
 | [], ls, S, r, l, D, r0, r8, hn, g => ⟨ls, S, r, l, rfl, D, Sam.refl, r0, tS _, g⟩
 | i :: is, ls, S, r, l, D, r0, r8, hn, g => by
  rw [loop];simp only [lP, aR, aP];rw [jS];simp! [D.ixq]
  by_cases hr : 0 < r
  ·obtain ⟨l1, S1, r1, c1, e1, L1⟩ := ih D h0 h7 l0 l3 lo hr (by omega) hm hn
   have hl := iH ls;have hl1 := iH l1;have hsz := L1.sz;have hr1 := L1.r0;simp! [decide_eq_true hr, e1, jO (show (bB ls).length + (bB l1).length <= sizeLine by rw [cH, cH]; exact PH.sz (by omega))]
   rw [<- jS, <- iB];obtain ⟨l2, S2, r2, c2, e2, L2⟩ := tO ih (p := p) (q := q) (c := c) (N := N) h0 h7 l0 l3 lo hm is (ls ++ l1) S1 r1 c1 L1.dr hr1 (by rw [fM]; omega) (by omega) (g.app L1.gd)
   have := L2.sz;rw [fM] at this;exact ⟨l2, S2, r2, c2, e2, L2.dr, L1.sam.trans L2.sam, L2.r0, by omega, L2.gd⟩
  ·simp! [decide_eq_false hr]
   rw [<- jS];exact tO ih h0 h7 l0 l3 lo hm is ls S r l D r0 r8 hn g
theorem Ie {n : Nat} (ih : uZ n) : Bx (n + 1) := by
 intro p q c N many S r l mood lv low D h0 h7 l0 l3 lo r0 r8 hm hn;rw [show sG (n + 1) [.cel p, .dat (.int mood), .dat (.int lv), .cel q, .cel c, .dat (.int low)] S = cS (sQ (jX n) [some (.cel p), some (.dat (.int mood)), some (.dat (.int lv)), some (.cel q), some (.cel c), some (.dat (.int low)), none, none] S) from rfl]
 unfold sQ;obtain ⟨d, S1, e1, d0, d1, D1, s1⟩ := D.draw (k := 3) (by decide) (by decide)
 obtain ⟨l2, S2, r2, c2, e2, L2⟩ := tO ih h0 h7 l0 l3 lo hm (gN 0 d.toNat) [] S1 r l D1 r0 (by simp [bH]; omega) (by omega) trivial
 simp! [e1, gG (show -(2 ^ 62) <= d by omega) (show d < 2 ^ 62 by omega)]
 rw [show ([] : List PH.D) = bB [] from rfl, e2]
 simp! [if_true];have := L2.sz;simp only [bH] at this;exact ⟨l2, S2, r2, c2, rfl, L2.dr, s1.trans L2.sam, L2.r0, by omega, L2.gd⟩
theorem LX {a b : PH.D} : cutD [a, b] none (some 1) = [a] := rfl
theorem Gv {n : Nat} (ihB : Bx n) (ihP : uZ n) : uZ (n + 1) := by
 intro p q c N many S r l mood lv low D h0 h7 l0 l3 lo r0 r8 hm hn;rw [show jX (n + 1) [.cel p, .dat (.int mood), .dat (.int lv), .cel q, .cel c, .dat (.int low)] S = cS (sN (sG n) (jX n) [some (.cel p), some (.dat (.int mood)), some (.dat (.int lv)), some (.cel q), some (.cel c), some (.dat (.int low)), none, none, none, none, none, none] S) from rfl]
 unfold sN;obtain ⟨d, S1, e1, d0, d1, D1, s1⟩ := D.draw (k := 17) (by decide) (by decide)
 have ea : ∀ z : Option Vl, kI (fun x y => x - y) (aD 3) (mC (.int 0)) (mC (.int 1)) [some (.cel p), some (.dat (.int mood)), some (.dat (.int lv)), some (.cel q), some (.cel c), some (.dat (.int low)), z, none, none, none, none, none] S1 = .next [some (.cel p), some (.dat (.int mood)), some (.dat (.int lv)), some (.cel q), some (.cel c), some (.dat (.int low)), z, none, none, none, none, none] (S1.set q (PL [r - 1])) := fun z => D1.augq rfl rfl rfl
 have D2 := D1.setq (r' := r - 1);have s2 : Sam [p, q, c] S (S1.set q (PL [r - 1])) := s1.trans (Sam.set (by simp))
 generalize S1.set q (PL [r - 1]) = S2 at ea D2 s2;obtain ⟨cm, S3, e2, c2, D3, s3⟩ := D2.command h0 h7;have LC : Left p q c N many S r (3 - lv.toNat) [.cmd cm] S3 (r - 1) l := ⟨D3, s2.trans s3, by omega, by simp [bH, Stt.size]; omega, c2, trivial⟩
 have oc : ∃ (ls : List Stt) (S' : aO) (r' l' : Int), cS (Out.ret (.dat (.lst [cm.d])) S3) = .ok (.dat (.lst (bB ls))) S' /\ Left p q c N many S r (3 - lv.toNat) ls S' r' l' := ⟨_, _, _, _, rfl, LC⟩;rcases (by omega : d < 6 \/ d = 6 \/ (7 <= d /\ d < 15 /\ 2 < lv) \/ (7 <= d /\ d < 9 /\ lv <= 2) \/ (d = 9 /\ lv <= 2) \/ (d = 10 /\ lv <= 2) \/ (11 <= d /\ d < 15 /\ lv <= 2) \/ (15 <= d)) with hd | hd | ⟨ha, hb, hl⟩ | ⟨ha, hb, hl⟩ | ⟨hd, hl⟩ | ⟨hd, hl⟩ | ⟨ha, hb, hl⟩ | hd
 ·simp! [e1, decide_eq_false (show ¬ (6 : Int) < d by omega), decide_eq_false (show ¬ d = 6 by omega), decide_eq_false (show ¬ (10 : Int) < d by omega), ea, decide_eq_true hd, e2]
  exact oc
 ·subst hd
  by_cases hr : r < 2
  ·simp! [e1, D1.ixq, decide_eq_true hr, ea, e2]
   exact oc
  ·have eb : ∀ z : Option Vl, kI (fun x y => x - y) (aD 3) (mC (.int 0)) (mC (.int 1)) [some (.cel p), some (.dat (.int mood)), some (.dat (.int lv)), some (.cel q), some (.cel c), some (.dat (.int low)), z, none, none, none, none, none] S2 = .next [some (.cel p), some (.dat (.int mood)), some (.dat (.int lv)), some (.cel q), some (.cel c), some (.dat (.int low)), z, none, none, none, none, none] (S2.set q (PL [r - 1 - 1])) := fun z => D2.augq rfl rfl rfl
   have D4 := D2.setq (r' := r - 1 - 1);have s4 : Sam [p, q, c] S (S2.set q (PL [r - 1 - 1])) := s2.trans (Sam.set (by simp))
   generalize S2.set q (PL [r - 1 - 1]) = S4 at eb D4 s4;obtain ⟨ca, cb, S5, e5, oa, ob, D5, s5⟩ := D4.pair (mood := mood)
   by_cases hr2 : 0 < r - 1 - 1
   ·obtain ⟨l6, S6, r6, c6, e6, L6⟩ := ihP D5 h0 h7 l0 l3 lo hr2 (by omega) hm (by omega)
    have hs := L6.sz;have := L6.r0;have hl6 := iH l6;simp! [e1, D1.ixq, decide_eq_false hr, ea, eb, e5, D5.ixq, decide_eq_true hr2, e6, LX, sA, jO (show [ca.d].length + (bB l6).length <= sizeLine from sz (by rw [cH]; simp; omega)), jO (show ([ca.d] ++ bB l6).length + [cb.d].length <= sizeLine from sz (by simp [cH]; omega))]
    refine ⟨[.cmd ca] ++ l6 ++ [.cmd cb], S6, r6, c6, ?_, L6.dr, s4.trans (s5.trans L6.sam), L6.r0, ?_, ?_⟩
    ·rw [iB, iB]; rfl
    ·rw [fM, fM]; simp only [bH, Stt.size]; omega
    ·exact GdL.app (GdL.app (l := [.cmd ca]) ⟨oa, trivial⟩ L6.gd) ⟨ob, trivial⟩
   ·simp! [e1, D1.ixq, decide_eq_false hr, ea, eb, e5, D5.ixq, decide_eq_false hr2, LX, sA, jO, sz, dD, List.cons_append, dC]
    refine ⟨[.cmd ca, .cmd cb], S5, r - 1 - 1, l, rfl, D5, s4.trans s5, by omega, ?_, oa, ob, trivial⟩
    simp only [bH, Stt.size]; omega
 ·have h1 := fF d (show (6 : Int) ≠ 0 by decide)
  have h2 := eT d (show (0 : Int) < 6 by decide)
  simp! [e1, decide_eq_true (show (6 : Int) < d by omega), decide_eq_true hb, decide_eq_true hl, mX (show (0 : Int) < 6 by decide), decide_eq_false (show ¬ d % 6 = 6 by omega), decide_eq_false (show ¬ (10 : Int) < d % 6 by omega), ea, decide_eq_true (show d % 6 < 6 by omega), e2]
  exact oc
 ·have e54 : 3 - (lv + 1).toNat = 3 - lv.toNat - 1 := by omega
  obtain ⟨la, Sa, ra, ca, ea1, La⟩ := ihB (lv := lv + 1) (low := 0) D2 h0 h7 (by omega) (by omega) (by omega) (by omega) (by omega) hm (by omega)
  obtain ⟨lb, Sb, rb, cb, eb1, Lb⟩ := ihB (lv := lv + 1) (low := low) La.dr h0 h7 (by omega) (by omega) lo La.r0 (by have := La.sz; omega) hm (by have := La.sz; have := La.r0; omega)
  have := La.sz;have := Lb.sz;have ga := La.gd;have gb := Lb.gd;rw [e54] at ga gb;simp! [e1, decide_eq_true (show (6 : Int) < d by omega), decide_eq_true (show d < 15 by omega), decide_eq_false (show ¬ (2 : Int) < lv by omega), decide_eq_false (show ¬ d = 6 by omega), decide_eq_false (show ¬ (10 : Int) < d by omega), ea, decide_eq_false (show ¬ d < 6 by omega), decide_eq_true hb, ea1, eb1]
  refine ⟨[.either la lb], Sb, rb, cb, rfl, Lb.dr, s2.trans (La.sam.trans Lb.sam), Lb.r0, ?_, ⟨by omega, ga, gb⟩, trivial⟩
  simp only [bH, Stt.size]; omega
 ·subst hd
  have e54 : 3 - (lv + 1).toNat = 3 - lv.toNat - 1 := by omega
  obtain ⟨la, Sa, ra, ca, ea1, La⟩ := ihB (lv := lv + 1) (low := 0) D2 h0 h7 (by omega) (by omega) (by omega) (by omega) (by omega) hm (by omega)
  have := La.sz;have ga := La.gd;rw [e54] at ga;simp! [e1, decide_eq_false (show ¬ (2 : Int) < lv by omega), ea, ea1]
  refine ⟨[.again la], Sa, ra, ca, rfl, La.dr, s2.trans La.sam, La.r0, ?_, ⟨by omega, ga⟩, trivial⟩
  simp only [bH, Stt.size]; omega
 ·subst hd
  have e54 : 3 - (lv + 1).toNat = 3 - lv.toNat - 1 := by omega
  obtain ⟨la, Sa, ra, ca, ea1, La⟩ := ihB (lv := lv + 1) (low := low) D2 h0 h7 (by omega) (by omega) (by omega) (by omega) (by omega) hm (by omega)
  have := La.sz;have ga := La.gd;rw [e54] at ga;simp! [e1, decide_eq_false (show ¬ (2 : Int) < lv by omega), ea, ea1]
  refine ⟨[.keep la], Sa, ra, ca, rfl, La.dr, s2.trans La.sam, La.r0, ?_, ⟨by omega, ga⟩, trivial⟩
  simp only [bH, Stt.size]; omega
 ·by_cases hc : l < 1
  ·simp! [e1, decide_eq_true (show (6 : Int) < d by omega), decide_eq_true hb, decide_eq_false (show ¬ (2 : Int) < lv by omega), decide_eq_false (show ¬ d = 6 by omega), decide_eq_true (show (10 : Int) < d by omega), D1.ixc0, decide_eq_true hc, ea, e2]
   exact oc
  ·by_cases hlo : many <= low
   ·simp! [e1, decide_eq_true (show (6 : Int) < d by omega), decide_eq_true hb, decide_eq_false (show ¬ (2 : Int) < lv by omega), decide_eq_false (show ¬ d = 6 by omega), decide_eq_true (show (10 : Int) < d by omega), D1.ixc0, decide_eq_false hc, D1.ixc1, decide_eq_true hlo, ea, e2]
    exact oc
   ·have e54 : 3 - (lv + 1).toNat = 3 - lv.toNat - 1 := by omega
    have ec : ∀ z : Option Vl, kI (fun x y => x - y) (aD 4) (mC (.int 0)) (mC (.int 1)) [some (.cel p), some (.dat (.int mood)), some (.dat (.int lv)), some (.cel q), some (.cel c), some (.dat (.int low)), z, none, none, none, none, none] S2 = .next [some (.cel p), some (.dat (.int mood)), some (.dat (.int lv)), some (.cel q), some (.cel c), some (.dat (.int low)), z, none, none, none, none, none] (S2.set c (PL [l - 1, many])) := fun z => D2.augc rfl rfl rfl
    have D4 := D2.setc (l' := l - 1);have s4 : Sam [p, q, c] S (S2.set c (PL [l - 1, many])) := s2.trans (Sam.set (by simp))
    generalize S2.set c (PL [l - 1, many]) = S4 at ec D4 s4;obtain ⟨g, S5, e5, g0, g1, D5, s5⟩ := D4.draw (k := many - low) (by omega) (by omega)
    obtain ⟨f, S6, e6, f0, f1, D6, s6⟩ := D5.draw (k := 3) (by decide) (by decide)
    obtain ⟨la, Sa, ra, ca, ea1, La⟩ := ihB (lv := lv + 1) (low := low) D6 h0 h7 (by omega) (by omega) lo (by omega) (by omega) hm (by omega)
    obtain ⟨lb, Sb, rb, cb, eb1, Lb⟩ := ihB (lv := lv + 1) (low := low) La.dr h0 h7 (by omega) (by omega) lo La.r0 (by have := La.sz; omega) hm (by have := La.sz; have := La.r0; omega)
    have := La.sz;have := Lb.sz;have ga := La.gd;have gb := Lb.gd;rw [e54] at ga gb;simp! [e1, decide_eq_true (show (6 : Int) < d by omega), decide_eq_true hb, decide_eq_false (show ¬ (2 : Int) < lv by omega), decide_eq_false (show ¬ d = 6 by omega), decide_eq_true (show (10 : Int) < d by omega), D1.ixc0, decide_eq_false hc, D1.ixc1, decide_eq_false hlo, ea, decide_eq_false (show ¬ d < 6 by omega), decide_eq_false (show ¬ d < 9 by omega), decide_eq_false (show ¬ d = 9 by omega), decide_eq_false (show ¬ d = 10 by omega), decide_eq_false (show ¬ (14 : Int) < d by omega), ec, D4.ixc1, e5, e6, ea1, eb1]
    refine ⟨[.call (low + g) (decide (f = 0)) la lb], Sb, rb, cb, rfl, Lb.dr, s4.trans (s5.trans (s6.trans (La.sam.trans Lb.sam))), Lb.r0, ?_, ⟨⟨by omega, by omega, by omega⟩, ga, gb⟩, trivial⟩
    simp only [bH, Stt.size]; omega
 ·obtain ⟨w, S4, e4, w0, w1, D4, s4⟩ := D2.draw (k := 2) (by decide) (by decide)
  simp! [e1, decide_eq_true (show (6 : Int) < d by omega), decide_eq_false (show ¬ d < 15 by omega), decide_eq_false (show ¬ d = 6 by omega), decide_eq_true (show (10 : Int) < d by omega), ea, decide_eq_false (show ¬ d < 6 by omega), decide_eq_false (show ¬ d < 9 by omega), decide_eq_false (show ¬ d = 9 by omega), decide_eq_false (show ¬ d = 10 by omega), decide_eq_true (show (14 : Int) < d by omega), e4]
  refine ⟨[.fin w], S4, r - 1, l, rfl, D4, s2.trans s4, by omega, ?_, ⟨w0, by omega⟩, trivial⟩
  simp only [bH, Stt.size]; omega
theorem uH : ∀ n, Bx n /\ uZ n
 | 0 => ⟨fun _ _ _ _ _ _ _ _ _ h => by omega, fun _ _ _ _ _ _ _ _ _ h => by omega⟩
 | n + 1 => ⟨Ie (uH n).2, Gv (uH n).1 (uH n).2⟩
theorem Fz {p q c N : Nat} {many : Int} {S : aO} {r l mood : Int} (D : Dr p q c N many S r l) (h0 : 0 <= mood) (h7 : mood <= 7) (hr : 3 < r) (m1 : 1 <= many) (m3 : many <= 3) :
  ∃ (ls : List Stt) (S' : aO) (r' l' : Int), pQ [.cel p, .dat (.int mood), .cel q, .cel c] S = .ok (.dat (.lst (bB ls))) S' /\ Left p q c N many S r 3 ls S' r' l' := by
 rw [show pQ [.cel p, .dat (.int mood), .cel q, .cel c] S = cS (qD [some (.cel p), some (.dat (.int mood)), some (.cel q), some (.cel c), none, none, none, none, none] S) from rfl]
 unfold qD;have ea : kI (fun x y => x - y) (aD 2) (mC (.int 0)) (mC (.int 4)) [some (.cel p), some (.dat (.int mood)), some (.cel q), some (.cel c), none, none, none, none, none] S = .next [some (.cel p), some (.dat (.int mood)), some (.cel q), some (.cel c), none, none, none, none, none] (S.set q (PL [r - 4])) := D.augq rfl rfl rfl
 have D1 := D.setq (r' := r - 4);have s1 : Sam [p, q, c] S (S.set q (PL [r - 4])) := Sam.set (by simp)
 generalize S.set q (PL [r - 4]) = S1 at ea D1 s1;have eb : kI (fun x y => x - y) (aD 3) (mC (.int 0)) (mC (.int 1)) [some (.cel p), some (.dat (.int mood)), some (.cel q), some (.cel c), none, none, none, none, none] S1 = .next [some (.cel p), some (.dat (.int mood)), some (.cel q), some (.cel c), none, none, none, none, none] (S1.set c (PL [l - 1, many])) := D1.augc rfl rfl rfl
 have D2 := D1.setc (l' := l - 1);have s2 : Sam [p, q, c] S1 (S1.set c (PL [l - 1, many])) := Sam.set (by simp)
 generalize S1.set c (PL [l - 1, many]) = S2 at eb D2 s2;obtain ⟨g, S3, e3, g0, g1, D3, s3⟩ := D2.draw (k := many) (by omega) (by omega)
 obtain ⟨f, S4, e4, f0, f1, D4, s4⟩ := D3.draw (k := 3) (by decide) (by decide)
 obtain ⟨a, S5, e5, a0, a1, D5, s5⟩ := D4.draw (k := 2) (by decide) (by decide)
 obtain ⟨ca, S6, e6, oa, D6, s6⟩ := D5.command h0 h7;obtain ⟨cb, S7, e7, ob, D7, s7⟩ := D6.command h0 h7;obtain ⟨b, S8, e8, b0, b1, D8, s8⟩ := D7.draw (k := 2) (by decide) (by decide)
 have s18 : Sam [p, q, c] S S8 := s1.trans (s2.trans (s3.trans (s4.trans (s5.trans (s6.trans (s7.trans s8))))));have fin : ∀ (x y : Cmd) (T : aO), x.Ok -> y.Ok -> Dr p q c N many T (r - 4) (l - 1) -> Sam [p, q, c] S T -> ∃ (ls : List Stt) (S' : aO) (r' l' : Int), cS (((cL (.dat (.lst [.lst [], .lst [x.d, .tup [.str "call", .int g, .bl (decide (f = 0)), .lst [.lst [], .lst []]], y.d]])) (.dat (.int a)) T).bind fun u T1 => ((cL (.dat (.lst [.lst [], .lst [x.d, .tup [.str "call", .int g, .bl (decide (f = 0)), .lst [.lst [], .lst []]], y.d]])) (.dat (.int (1 - a))) T1).bind fun v T2 => kTup [.dat (.str "either"), u, v] T2)).toS [] fun w T3 => (BZ false [w] T3).toS [] MF) = .ok (.dat (.lst (bB ls))) S' /\ Left p q c N many S r 3 ls S' r' l' := fun x y T ox oy DT sT => by
  have sz : ∀ (u v : List Stt), bH u + bH v = 3 -> (bH [.either u v] : Int) + (r - 4) <= r := fun u v h => by simp only [bH, Stt.size]; omega
  have hc : GdL many [.cmd x, .call g (decide (f = 0)) [] [], .cmd y] 2 := ⟨ox, ⟨⟨by omega, g0, g1⟩, trivial, trivial⟩, oy, trivial⟩
  rcases (by omega : a = 0 \/ a = 1) with rfl | rfl
  ·exact ⟨[.either [] [.cmd x, .call g (decide (f = 0)) [] [], .cmd y]], T, r - 4, l - 1, rfl, DT, sT, by omega, sz _ _ rfl, ⟨by omega, trivial, hc⟩, trivial⟩
  ·exact ⟨[.either [.cmd x, .call g (decide (f = 0)) [] [], .cmd y] []], T, r - 4, l - 1, rfl, DT, sT, by omega, sz _ _ rfl, ⟨by omega, hc, trivial⟩, trivial⟩
 simp! [ea, eb, D2.ixc1, e3, e4, e5, e6, e7, e8]
 by_cases hb : b = 0
 ·obtain ⟨cx, cy, S9, e9, ox, oy, D9, s9⟩ := D8.pair (mood := mood)
  simp! [decide_eq_true hb, e9, Bb, HV];obtain ⟨ls, S', r', l', e, L⟩ := fin cx cy S9 ox oy D9 (s18.trans s9);refine ⟨ls, S', r', l', ?_, L⟩
  rw [<- e];rcases (by omega : a = 0 \/ a = 1) with rfl | rfl <;> rfl
 ·simp! [decide_eq_false hb, Bb, HV]
  obtain ⟨ls, S', r', l', e, L⟩ := fin ca cb S8 oa ob D8 s18;refine ⟨ls, S', r', l', ?_, L⟩
  rw [<- e];rcases (by omega : a = 0 \/ a = 1) with rfl | rfl <;> rfl
theorem wH {p q c N : Nat} {many mood low : Int} {z8 : Option Vl} {z5 : Option Vl} (h0 : 0 <= mood) (h7 : mood <= 7) (lo : 0 <= low) (hm : many <= 3) :
  ∀ (is : List D) (ls : List Stt) (S : aO) (r l : Int), Dr p q c N many S r l -> 0 <= r -> (bH ls : Int) + r <= 8 -> GdL many ls 3 -> ∃ (ls' : List Stt) (S' : aO) (r' l' : Int),
   loop (.nm 7) jJ is [some (.cel p), some (.dat (.int mood)), some (.cel q), some (.cel c), some (.dat (.int low)), z5, some (.dat (.lst (bB ls))), none, z8] S =
    .next [some (.cel p), some (.dat (.int mood)), some (.cel q), some (.cel c), some (.dat (.int low)), z5, some (.dat (.lst (bB ls'))), none, z8] S' /\ Left p q c N many S (bH ls + r) 3 ls' S' r' l'
 | [], ls, S, r, l, D, r0, r8, g => ⟨ls, S, r, l, rfl, D, Sam.refl, r0, tS _, g⟩
 | i :: is, ls, S, r, l, D, r0, r8, g => by
  rw [loop];simp only [lP, aR, aP];rw [jJ];simp! [D.ixq]
  by_cases hr : 0 < r
  ·obtain ⟨l1, S1, r1, c1, e1, L1⟩ := (uH 30).2 (lv := 0) D h0 h7 (by omega) (by omega) lo hr (by omega) hm (by simp; omega)
   have hl := iH ls;have hl1 := iH l1;have hsz := L1.sz;have hr1 := L1.r0;simp! [decide_eq_true hr, e1, jO (show (bB ls).length + (bB l1).length <= sizeLine by rw [cH, cH]; exact PH.sz (by omega))]
   rw [<- jJ, <- iB];obtain ⟨l2, S2, r2, c2, e2, L2⟩ := wH (p := p) (q := q) (c := c) (N := N) (z8 := z8) (z5 := z5) h0 h7 lo hm is (ls ++ l1) S1 r1 c1 L1.dr hr1 (by rw [fM]; omega) (g.app L1.gd)
   have := L2.sz;rw [fM] at this;exact ⟨l2, S2, r2, c2, e2, L2.dr, L1.sam.trans L2.sam, L2.r0, by omega, L2.gd⟩
  ·simp! [decide_eq_false hr]
   rw [<- jJ];exact wH h0 h7 lo hm is ls S r l D r0 r8 g
def Ck : Stt := .either [.fin 1] []
theorem Km {p q c N : Nat} {many : Int} {S : aO} {r l mood low : Int} (D : Dr p q c N many S r l) (h0 : 0 <= mood) (h7 : mood <= 7) (lo : 0 <= low) (r0 : 0 <= r) (r8 : r <= 8) (m1 : 1 <= many) (m3 : many <= 3) :
  ∃ (ls : List Stt) (S' : aO) (r' l' : Int), oT [.cel p, .dat (.int mood), .cel q, .cel c, .dat (.int low)] S = .ok (.dat (.lst (bB ls))) S' /\ Left p q c N many S (r + 2) 3 ls S' r' l' := by
 rw [show oT [.cel p, .dat (.int mood), .cel q, .cel c, .dat (.int low)] S = cS (uW [some (.cel p), some (.dat (.int mood)), some (.cel q), some (.cel c), some (.dat (.int low)), none, none, none, none] S) from rfl]
 unfold uW;obtain ⟨d, S1, e1, d0, d1, D1, s1⟩ := D.draw (k := 6) (by decide) (by decide)
 obtain ⟨a, S2, e2, a0, a1, D2, s2⟩ := D1.draw (k := 2) (by decide) (by decide)
 -- behind the loop
 have fin : ∀ (ls : List Stt) (T : aO) (r1 l1 : Int), Dr p q c N many T r1 l1 -> Sam [p, q, c] S T -> 0 <= r1 -> (bH ls : Int) + r1 <= r -> GdL many ls 3 -> ∃ (ls' : List Stt) (S' : aO) (r' l' : Int), cS (aT (kW (kH (bC (cZ false) (mC (.int 1)) (bA bU (aB (aD 0) (aB (mC (.int 4)) aJ))))) (.nm 7) jJ)
 (aT (bS (cM false (aB (cM false (aB (bW (aB (mC (.str "either")) (aB (cM false (aB (bW (aB (mC (.str "end")) (aB (mC (.int 1)) aJ))) aJ)) (aB (cM false aJ) aJ)))) aJ)) (aB (cM false (aB (bW (aB (mC (.str "end")) (aB (mC (.int 1)) aJ))) aJ)) aJ))) (.nm 8))
 (aT (cN (uC (mB (bC gR (aD 5) (mC (.int 1)))) (mB (bC gR (aD 5) (mC (.int 3))))) (cC (bC (cZ false) (aD 6) (bC cL (aD 8) (bC qK (aD 5) (mC (.int 2)))))) bP)
 (aT (cN (mB (bC gR (aD 5) (mC (.int 2)))) (cC (bC (cZ false) (bC cL (aD 8) (mC (.int 0))) (aD 6))) bP)
 (cC (aD 6))))) [some (.cel p), some (.dat (.int mood)), some (.cel q), some (.cel c), some (.dat (.int low)), some (.dat (.int d)), some (.dat (.lst (bB ls))), none, none] T) = .ok (.dat (.lst (bB ls'))) S' /\ Left p q c N many S (r + 2) 3 ls' S' r' l' := fun ls T r1 l1 DT sT r10 hsz g => by
  obtain ⟨x, T1, e3, x0, x1, D3, s3⟩ := DT.draw (k := 4) (by decide) (by decide)
  obtain ⟨l4, T4, r4, c4, e4, L4⟩ := wH (z8 := none) (z5 := some (.dat (.int d))) h0 h7 lo m3 (gN 0 (1 + x).toNat) ls T1 r1 l1 D3 r10 (by omega) g
  have hs4 := L4.sz;have hr4 := L4.r0;have hl4 := iH l4;have s4 := sT.trans (s3.trans L4.sam);simp! [e3, gG (show -(2 ^ 62) <= 1 + x by omega) (show 1 + x < 2 ^ 62 by omega), e4]
  have hA : GdL many [Ck] 3 := ⟨⟨by omega, ⟨⟨by omega, by omega⟩, trivial⟩, trivial⟩, trivial⟩
  have hB : GdL many [.fin 1] 3 := ⟨⟨by omega, by omega⟩, trivial⟩
  have a1 : (bB l4).length + (bB [Ck]).length <= sizeLine := sz (by rw [cH, cH]; simp; omega)
  have a2 : (bB l4).length + (bB [.fin 1]).length <= sizeLine := sz (by rw [cH, cH]; simp; omega)
  have a3 : (bB [Ck]).length + (bB l4).length <= sizeLine := sz (by rw [cH, cH]; simp; omega)
  have q1 : ∀ T, cL (.dat (.lst [.lst [.tup [.str "either", .lst [.tup [.str "end", .int 1]], .lst []]], .lst [.tup [.str "end", .int 1]]])) (.dat (.int 0)) T = .ok (.dat (.lst (bB [Ck]))) T := fun T => rfl
  have q2 : ∀ T, cL (.dat (.lst [.lst [.tup [.str "either", .lst [.tup [.str "end", .int 1]], .lst []]], .lst [.tup [.str "end", .int 1]]])) (.dat (.int 1)) T = .ok (.dat (.lst (bB [.fin 1]))) T := fun T => rfl
  rcases (by omega : d = 0 \/ d = 1 \/ d = 2 \/ d = 3 \/ d = 4 \/ d = 5) with rfl | rfl | rfl | rfl | rfl | rfl
  ·simp! [if_true]
   exact ⟨l4, T4, r4, c4, rfl, L4.dr, s4, hr4, by omega, L4.gd⟩
  ·have f1 : ∀ T, qK (.dat (.int 1)) (.dat (.int 2)) T = .ok (.dat (.int 0)) T := fun T => rfl
   simp! [f1, q1, jO a1];refine ⟨l4 ++ [Ck], T4, r4, c4, by rw [iB]; rfl, L4.dr, s4, hr4, ?_, L4.gd.app hA⟩
   rw [fM]; simp only [bH, Ck, Stt.size]; omega
  ·simp! [q1, jO a3]
   refine ⟨[Ck] ++ l4, T4, r4, c4, by rw [iB]; rfl, L4.dr, s4, hr4, ?_, hA.app L4.gd⟩
   rw [fM]; simp only [bH, Ck, Stt.size]; omega
  ·have f1 : ∀ T, qK (.dat (.int 3)) (.dat (.int 2)) T = .ok (.dat (.int 1)) T := fun T => rfl
   simp! [f1, q2, jO a2];refine ⟨l4 ++ [.fin 1], T4, r4, c4, by rw [iB]; rfl, L4.dr, s4, hr4, ?_, L4.gd.app hB⟩
   rw [fM]; simp only [bH, Stt.size]; omega
  ·simp! [if_true]
   exact ⟨l4, T4, r4, c4, rfl, L4.dr, s4, hr4, by omega, L4.gd⟩
  ·simp! [if_true]
   exact ⟨l4, T4, r4, c4, rfl, L4.dr, s4, hr4, by omega, L4.gd⟩
 have fin0 := fin [] S2 r l D2 (s1.trans s2) r0 (by simp [bH]) trivial
 rw [Hh] at fin0
 by_cases ha : a = 0
 ·by_cases hr : 3 < r
  ·by_cases hl : 0 < l
   ·obtain ⟨la, Sa, ra, ca, ea, La⟩ := Fz D2 h0 h7 hr m1 m3
    have := La.sz;have f := fin la Sa ra ca La.dr (s1.trans (s2.trans La.sam)) La.r0 (by omega) La.gd
    rw [Hh] at f;simp! [e1, e2, decide_eq_true ha, D2.ixq, decide_eq_true hr, D2.ixc0, decide_eq_true hl, ea] at f ⊢;exact f
   ·simp! [e1, e2, decide_eq_true ha, D2.ixq, decide_eq_true hr, D2.ixc0, decide_eq_false hl] at fin0 ⊢
    exact fin0
  ·simp! [e1, e2, decide_eq_true ha, D2.ixq, decide_eq_false hr] at fin0 ⊢
   exact fin0
 ·simp! [e1, e2, decide_eq_false ha] at fin0 ⊢
  exact fin0
structure Bk (p n N : Nat) (S0 : aO) (many l : Int) (bs : List (List Stt)) (T : aO) : Prop where
 ls : LS T
 n2 : 2 <= N
 hp : p < n
 len : n + 2 <= T.length
 pool : ∃ ks, T[p]? = some (PL ks) /\ ks.length = N
 call : T[n]? = some (PL [l, many])
 bod : T[n + 1]? = some (.lst (bls bs))
 old : ∀ i, i < n -> i ≠ p -> T[i]? = S0[i]?
theorem oI {T : aO} {c : Cell} {i : Nat} (h : i < T.length) : (T ++ [c])[i]? = T[i]? := aQ h
theorem BE {p n N : Nat} {S0 T : aO} {many l mood low rm : Int} {bs : List (List Stt)} (B : Bk p n N S0 many l bs T) (h0 : 0 <= mood) (h7 : mood <= 7) (lo : 0 <= low) (r0 : 0 <= rm) (r8 : rm <= 8) (m1 : 1 <= many) (m3 : many <= 3) (hb : bs.length <= 3) :
  ∃ (b : List Stt) (T2 : aO) (l' : Int), oT [.cel p, .dat (.int mood), .cel T.length, .cel n, .dat (.int low)] (T ++ [PL [rm]]) = .ok (.dat (.lst (bB b))) T2 /\ T2[n + 1]? = some (.lst (bls bs)) /\ GdL many b 3 /\ (bH b : Int) <= rm + 2 /\ Bk p n N S0 many l' (bs ++ [b]) (T2.set (n + 1) (.lst (bls bs ++ [.lst (bB b)]))) := by
 obtain ⟨ks, hk, hkl⟩ := B.pool;have hlen := B.len;have hp := B.hp;have D : Dr p T.length n N many (T ++ [PL [rm]]) rm l := ⟨B.ls.app, B.n2, ⟨ks, by rw [oI (by omega)]; exact hk, hkl⟩, by simp, by rw [oI (by omega)]; exact B.call, by omega, by omega, by omega⟩
 obtain ⟨b, T2, r', l', e, L⟩ := Km D h0 h7 lo r0 r8 m1 m3;have hsz := L.sz;have hr := L.r0;have h1 : T2[n + 1]? = some (.lst (bls bs)) := by
  rw [L.sam.2 (n + 1) (by simp; omega), oI (by omega)]
  exact B.bod
 have hl2 : T2.length = T.length + 1 := by rw [L.sam.1]; simp
 refine ⟨b, T2, l', e, h1, L.gd, by omega, L.dr.ls.set, B.n2, B.hp, by simp; omega, ?_, by rw [jK (by omega)]; exact L.dr.call, ?_, fun i hi hip => ?_⟩
 ·obtain ⟨ks', hk', hkl'⟩ := L.dr.pool
  exact ⟨ks', by rw [jK (by omega)]; exact hk', hkl'⟩
 ·rw [fO h1]
  simp [bls]
 ·rw [jK (by omega), L.sam.2 i (by simp; omega), oI (by omega)]
  exact B.old i hi hip
theorem wG {p n N : Nat} {S0 : aO} {many mood most size : Int} {wild : Bool} (h0 : 0 <= mood) (h7 : mood <= 7) (m1 : 1 <= many) (m3 : many <= 3) (z3 : 3 <= size) (z8 : size <= 8) :
  ∀ (j : Nat) (i : Int) (bs : List (List Stt)) (T : aO) (l : Int), Bk p n N S0 many l bs T -> 0 <= i -> bs.length + j <= 3 -> (∀ b ∈ bs, GdL many b 3 /\ (bH b : Int) <= size) -> ∃ (bs' : List (List Stt)) (T' : aO) (l' : Int),
   loop (.nm 8) mU (gN i j) [some (.cel p), some (.dat (.int most)), some (.dat (.int size)), some (.dat (.int mood)), some (.dat (.bl wild)), some (.dat (.int many)), some (.cel n), some (.cel (n + 1)), none, none, none] T =
    .next [some (.cel p), some (.dat (.int most)), some (.dat (.int size)), some (.dat (.int mood)), some (.dat (.bl wild)), some (.dat (.int many)), some (.cel n), some (.cel (n + 1)), none, none, none] T' /\ Bk p n N S0 many l' bs' T' /\ (∀ b ∈ bs', GdL many b 3 /\ (bH b : Int) <= size) /\ bs'.length = bs.length + j
 | 0, i, bs, T, l, B, _, _, g => ⟨bs, T, l, rfl, B, g, rfl⟩
 | j + 1, i, bs, T, l, B, hi, hj, g => by
  have hlen := B.len;have hrm : 0 <= size - 2 - (if decide ((2 : Int) < many) = true then 1 else 0) /\ size - 2 - (if decide ((2 : Int) < many) = true then 1 else 0) <= size - 2 := by split <;> omega
  generalize hR : (size - 2 - (if decide ((2 : Int) < many) = true then (1 : Int) else 0)) = R at hrm
  obtain ⟨b1, T1, l1, e1, a1, g1, s1, B1⟩ := BE (rm := R) (mood := mood) (low := 0) B h0 h7 (by omega) (by omega) (by omega) m1 m3 (by omega)
  obtain ⟨b2, T2, l2, e2, a2, g2, s2, B2⟩ := BE (rm := R) (mood := mood) (low := i + 1) B h0 h7 (by omega) (by omega) (by omega) m1 m3 (by omega)
  have hat : (T ++ [PL [R]])[n + 1]? = some (.lst (bls bs)) := by rw [oI (by omega)]; exact B.bod
  have hsl : (bls bs).length < sizeLine := by rw [mQ]; exact eU (show bs.length <= 3 by omega) (by decide)
  rw [show PL [R] = .lst [.int R] from rfl] at e1 e2 hat
  rw [kD, loop];simp only [lP, aR, aP];rw [mU];cases wild with
  | true =>
   simp! [hR, lA hat, e1, lZ a1 hsl];rw [<- mU];obtain ⟨bs', T', l', e, B', g', n'⟩ := wG (most := most) h0 h7 m1 m3 z3 z8 j (i + 1) (bs ++ [b1]) _ l1 B1 (by omega) (by simp; omega) (fun b hb => by
    rcases bF.mp hb with hb | hb
    ·exact g b hb
    ·rw [bK.mp hb]; exact ⟨g1, by omega⟩)
   exact ⟨bs', T', l', e, B', g', by rw [n']; simp; omega⟩
  | false =>
   simp! [hR, lA hat, e2, lZ a2 hsl];rw [<- mU];obtain ⟨bs', T', l', e, B', g', n'⟩ := wG (most := most) h0 h7 m1 m3 z3 z8 j (i + 1) (bs ++ [b2]) _ l2 B2 (by omega) (by simp; omega) (fun b hb => by
    rcases bF.mp hb with hb | hb
    ·exact g b hb
    ·rw [bK.mp hb]; exact ⟨g2, by omega⟩)
   exact ⟨bs', T', l', e, B', g', by rw [n']; simp; omega⟩
structure Good (bs : List (List Stt)) : Prop where
 l1 : 1 <= bs.length
 l3 : bs.length <= 3
 gd : ∀ b ∈ bs, GdL (bs.length : Int) b 3 /\ bH b <= 8
inductive Bd where
 | blk (b : List Stt) | no (x : D)
theorem JB {a o i : FE} {ρ : Ev} {S S1 : aO} {d : D} {n j : Nat} {k : Int} {ds : List D} (ha : a ρ S = .ok (.dat d) S1) (ho : o ρ S1 = .ok (.cel n) S1) (hi : i ρ S1 = .ok (.dat (.int k)) S1) (h : S1[n]? = some (.lst ds)) (hk : k = (j : Int)) (hj : j < ds.length) : zI a o i ρ S = .next ρ (S1.set n (.lst (ds.set j d))) := by
 subst hk;simp only [zI, ha, ho, hi, zN, setC, h];rw [if_pos ⟨by omega, by simpa using hj⟩]
 simp
def pre (i : Int) (p : List Int × Stt) : List Int × Stt := (i :: p.1, p.2)
mutual
def relS : Stt -> List (List Int × Stt)
 | .keep b => (eD 0 b).map (pre 0)
 | .again b => (eD 0 b).map (pre 0)
 | .either a b => (eD 0 a).map (pre 0) ++ (eD 0 b).map (pre 1)
 | .call _ _ a b => (eD 0 a).map (pre 0) ++ (eD 0 b).map (pre 1)
 | _ => []
def eD (at_ : Int) : List Stt -> List (List Int × Stt)
 | [] => []
 | s :: r => ([at_], s) :: ((relS s).map (pre at_) ++ eD (at_ + 1) r)
end
def hQ (i : Int) : List (List Stt) -> List (List Int × Stt)
 | [] => []
 | b :: r => (eD 0 b).map (pre i) ++ hQ (i + 1) r
theorem EV {s : Stt} : relS s = hQ 0 s.blocks := by
 cases s <;> simp [relS, hQ, Stt.blocks]
def pL (path : List Int) (ps : List (List Int × Stt)) : List D := ps.map fun p => .tup [tupI (path ++ p.1), p.2.d]
theorem xS {path : List Int} {ps qs : List (List Int × Stt)} : pL path (ps ++ qs) = pL path ps ++ pL path qs := by simp [pL]
theorem xR {path : List Int} {i : Int} {ps : List (List Int × Stt)} : pL path (ps.map (pre i)) = pL (path ++ [i]) ps := by
 simp [pL, pre]
mutual
theorem yY : ∀ s : Stt, (relS s).length + 1 = s.size
 | .cmd c => rfl
 | .fin c => rfl
 | .bad => rfl
 | .odd x => rfl
 | .keep b => by simp [relS, Stt.size, dQ 0 b]
 | .again b => by simp [relS, Stt.size, dQ 0 b]
 | .either a b => by simp [relS, Stt.size, dQ 0 a, dQ 0 b]
 | .call _ _ a b => by simp [relS, Stt.size, dQ 0 a, dQ 0 b]
theorem dQ : ∀ (i : Int) (l : List Stt), (eD i l).length = bH l
 | i, [] => rfl
 | i, s :: r => by
  have := yY s;have := dQ (i + 1) r;simp [eD, bH];omega
end
theorem pK {path : List Int} {ps : List (List Int × Stt)} : (pL path ps).length = ps.length := by simp [pL]
structure On (S T : aO) : Prop where
 ls : LS T
 len : S.length <= T.length
 tak : T.take S.length = S
theorem On.refl {S : aO} (h : LS S) : On S S := ⟨h, bG _, by simp⟩
theorem On.app {S T : aO} {ds : List D} (h : On S T) : On S (T ++ [.lst ds]) := ⟨h.ls.app, by have := h.len; simp; omega, by rw [gT h.len]; exact h.tak⟩
theorem take_set {T : aO} {n c : Nat} {x : Cell} (h : n <= c) : (T.set c x).take n = T.take n := by
 apply lE
 intro i;rw [dO, dO]
 by_cases hi : i < n
 ·rw [if_pos hi, if_pos hi, jK (by omega)]
 ·rw [if_neg hi, if_neg hi]
theorem On.set {S T : aO} {c : Nat} {ds : List D} (h : On S T) (hc : S.length <= c) : On S (T.set c (.lst ds)) := ⟨h.ls.set, by have := h.len; simp; omega, by rw [take_set hc]; exact h.tak⟩
theorem On.kill {S T : aO} {c : Nat} (h : On S T) (hc : S.length <= c) : On S (T.set c .dead) := ⟨fun x hx n => by
 rcases Bz hx with hx | hx
 ·exact h.ls x hx n
 ·rw [hx]; rfl, by have := h.len; simp; omega, by rw [take_set hc]; exact h.tak⟩
theorem On.trunc {S T : aO} {d : D} (h : On S T) (ls : LS S) : PH.trunc S.length (.ok (.dat d) T) = .ok (.dat d) S := by
 dsimp only [PH.trunc];rw [h.tak];have : (S.all fun c => c.below S.length) = true := bZ.mpr fun c hc => ls c hc _
 simp only [Vl.below, this, DD, if_true]
def A5 (n : Nat) : Prop := ∀ {S : aO} {many : Int} {l : List Stt} {k : Nat} {path : List Int}, LS S -> OkL many l k -> bH l <= 100 -> path.length + 2 * k <= 90 -> k + 1 <= n -> dX n [.dat (.lst (bB l)), .dat (tupI path)] S = .ok (.dat (.lst (pL path (eD 0 l)))) S
theorem Cb {S : aO} {n : Nat} {cl : Bool} {xs ys : List D} (h : S[n]? = some (.lst xs)) (hl : xs.length + ys.length <= sizeLine) : cZ cl (.cel n) (.dat (.lst ys)) S = newL cl (xs ++ ys) S := by simp only [cZ, kU, h, hl, if_true]
theorem Ag {n : Nat} (ih : A5 n) {S : aO} {many : Int} {k : Nat} {here : List Int} {a0 a1 a3 a4 : Option Vl} (hp : here.length + 1 + 2 * k <= 90) (hk : k + 1 <= n) :
  ∀ (bs : List (List Stt)) (i : Nat) (T : aO) (c : Nat) (acc : List D), (∀ b ∈ bs, OkL many b k) -> On S T -> S.length <= c -> T[c]? = some (.lst acc) -> acc.length + (hQ (i : Int) bs).length <= 200 -> (hQ (i : Int) bs).length <= 100 ->
   ∃ (T' : aO) (c' : Nat), loop (.tp [6, 7]) (eY (dX n)) (bL i (bls bs)) [a0, a1, some (.cel c), a3, a4, some (.dat (tupI here)), none, none] T = .next [a0, a1, some (.cel c'), a3, a4, some (.dat (tupI here)), none, none] T' /\ On S T' /\ S.length <= c' /\ T'[c']? = some (.lst (acc ++ pL here (hQ (i : Int) bs)))
 | [], i, T, c, acc, _, on, hc, hat, _, _ => ⟨T, c, rfl, on, hc, by simpa [hQ, pL] using hat⟩
 | b :: r, i, T, c, acc, ho, on, hc, hat, hl, hl2 => by
  have hb := ho b (aL ..);have hlen : (hQ (i : Int) (b :: r)).length = bH b + (hQ ((i + 1 : Nat) : Int) r).length := by
   simp [hQ, dQ]
  rw [hlen] at hl hl2;have e1 := ih (path := here ++ [(i : Int)]) on.ls hb (by omega) (by simp; omega) hk
  have el : loop (.tp [6, 7]) (eY (dX n)) (bL i (bls (b :: r))) [a0, a1, some (.cel c), a3, a4, some (.dat (tupI here)), none, none] T = (match eY (dX n) [a0, a1, some (.cel c), a3, a4, some (.dat (tupI here)), some (.dat (.int (i : Nat))), some (.dat (.lst (bB b)))] T with
   | .next ρ2 S2 => loop (.tp [6, 7]) (eY (dX n)) (bL (i + 1) (bls r)) ρ2 S2
   | .cnt ρ2 S2 => loop (.tp [6, 7]) (eY (dX n)) (bL (i + 1) (bls r)) ρ2 S2
   | .brk ρ2 S2 => .next ρ2 S2
   | .ret d S2 => .ret d S2
   | .err e ρ2 S2 => .err e ρ2 S2
   | .stuck => .stuck) := rfl
  rw [el, eY];simp! [iC (show here.length <= 100 by omega), e1, Cb hat (show acc.length + (pL (here ++ [(i : Int)]) (eD 0 b)).length <= sizeLine from sz (by rw [pK, dQ]; omega))]
  rw [<- eY];obtain ⟨T', c', e, on', hc', hat'⟩ := Ag ih (S := S) (many := many) (a0 := a0) (a1 := a1) (a3 := a3) (a4 := a4) hp hk r (i + 1) (T ++ [.lst (acc ++ pL (here ++ [(i : Int)]) (eD 0 b))]) T.length (acc ++ pL (here ++ [(i : Int)]) (eD 0 b)) (fun b hb => ho b (aK _ hb)) on.app on.len (by simp) (by rw [bO, pK, dQ]; omega) (by omega)
  refine ⟨T', c', e, on', hc', ?_⟩
  rw [hat', show hQ (i : Int) (b :: r) = (eD 0 b).map (pre i) ++ hQ ((i + 1 : Nat) : Int) r from rfl, xS, xR, iF]
theorem zB {n : Nat} (ih : A5 n) {S : aO} {many : Int} {k : Nat} {path : List Int} {a0 : Option Vl} (hp : path.length + 2 * k <= 90) (hk : k <= n) :
  ∀ (l : List Stt) (i : Nat) (T : aO) (c : Nat) (acc : List D), OkL many l k -> On S T -> S.length <= c -> T[c]? = some (.lst acc) -> acc.length + bH l <= 100 ->
   ∃ (T' : aO) (c' : Nat), loop (.tp [3, 4]) (fV (dX n)) (bL i (bB l)) [a0, some (.dat (tupI path)), some (.cel c), none, none, none, none, none] T = .next [a0, some (.dat (tupI path)), some (.cel c'), none, none, none, none, none] T' /\ On S T' /\ S.length <= c' /\ T'[c']? = some (.lst (acc ++ pL path (eD (i : Int) l)))
 | [], i, T, c, acc, _, on, hc, hat, _ => ⟨T, c, rfl, on, hc, by simpa [eD, pL] using hat⟩
 | s :: r, i, T, c, acc, ho, on, hc, hat, hl => by
  have hs := yY s;simp only [bH] at hl;have el : loop (.tp [3, 4]) (fV (dX n)) (bL i (bB (s :: r))) [a0, some (.dat (tupI path)), some (.cel c), none, none, none, none, none] T = (match fV (dX n) [a0, some (.dat (tupI path)), some (.cel c), some (.dat (.int (i : Nat))), some (.dat s.d), none, none, none] T with
   | .next ρ2 S2 => loop (.tp [3, 4]) (fV (dX n)) (bL (i + 1) (bB r)) ρ2 S2
   | .cnt ρ2 S2 => loop (.tp [3, 4]) (fV (dX n)) (bL (i + 1) (bB r)) ρ2 S2
   | .brk ρ2 S2 => .next ρ2 S2
   | .ret d S2 => .ret d S2
   | .err e ρ2 S2 => .err e ρ2 S2
   | .stuck => .stuck) := rfl
  rw [el, fV];have hset : T.set c (.lst (acc ++ [.tup [tupI (path ++ [(i : Int)]), s.d]])) = T.set c (.lst (acc ++ [.tup [tupI (path ++ [(i : Int)]), s.d]])) := rfl;have bn := EV (s := s);obtain ⟨T', c', e, on', hc', hat'⟩ : ∃ (T' : aO) (c' : Nat), loop (.tp [6, 7]) (eY (dX n)) (bL 0 (bls s.blocks)) [a0, some (.dat (tupI path)), some (.cel c), some (.dat (.int (i : Nat))), some (.dat s.d), some (.dat (tupI (path ++ [(i : Int)]))), none, none] (T.set c (.lst (acc ++ [.tup [tupI (path ++ [(i : Int)]), s.d]]))) = .next [a0, some (.dat (tupI path)), some (.cel c'), some (.dat (.int (i : Nat))), some (.dat s.d), some (.dat (tupI (path ++ [(i : Int)]))), none, none] T' /\ On S T' /\ S.length <= c' /\ T'[c']? = some (.lst (acc ++ [.tup [tupI (path ++ [(i : Int)]), s.d]] ++ pL (path ++ [(i : Int)]) (relS s))) := by
   by_cases hb0 : s.blocks = []
   ·rw [hb0]
    refine ⟨_, c, rfl, on.set hc, hc, ?_⟩
    rw [bn, hb0, fO hat];simp [hQ, pL]
   ·have hk0 : 0 < k := by
     cases q : s.blocks with
     | nil => exact absurd q hb0
     | cons b bs => exact (iP ho.1.1 b (by rw [q]; exact aL ..)).1
    have := Ag ih (S := S) (many := many) (k := k - 1) (here := path ++ [(i : Int)]) (a0 := a0) (a1 := some (.dat (tupI path))) (a3 := some (.dat (.int (i : Nat)))) (a4 := some (.dat s.d)) (by simp; omega) (by omega) s.blocks 0 _ c (acc ++ [.tup [tupI (path ++ [(i : Int)]), s.d]]) (fun b hb => (iP ho.1.1 b hb).2) (on.set hc) hc (fO hat) (by rw [dU, <- bn]; simp; omega) (by rw [dU, <- bn]; omega)
    rw [dU, <- bn] at this;exact this
  simp! [iC (show path.length <= 100 by omega), lA hat, lZ hat (show acc.length < sizeLine from eU (show acc.length <= 100 by omega) (by decide)), lC ho.1.1.no, e]
  rw [<- fV];obtain ⟨T2, c2, e2, on2, hc2, hat2⟩ := zB ih (S := S) (many := many) (k := k) (path := path) (a0 := a0) hp hk r (i + 1) T' c' _ ho.2 on' hc' hat' (by simp [pK]; omega)
  refine ⟨T2, c2, e2, on2, hc2, ?_⟩
  rw [hat2, show eD (i : Int) (s :: r) = ([(i : Int)], s) :: ((relS s).map (pre i) ++ eD ((i + 1 : Nat) : Int) r) from rfl]
  rw [show pL path (([(i : Int)], s) :: ((relS s).map (pre i) ++ eD ((i + 1 : Nat) : Int) r)) = .tup [tupI (path ++ [(i : Int)]), s.d] :: pL path ((relS s).map (pre i) ++ eD ((i + 1 : Nat) : Int) r) from rfl, xS, xR]
  simp
theorem FX (n : Nat) : A5 n := by
 induction n with
 | zero => intro S many l k path _ _ _ _ h; omega
 | succ n ih =>
  intro S many l k path ls ho hl hp hk;rw [show dX (n + 1) [.dat (.lst (bB l)), .dat (tupI path)] S = trunc S.length (cS (uO (dX n) [some (.dat (.lst (bB l))), some (.dat (tupI path)), none, none, none, none, none, none] S)) from rfl]
  unfold uO;obtain ⟨T, c, e, on, hc, hat⟩ := zB ih (S := S) (many := many) (k := k) (path := path) (a0 := some (.dat (.lst (bB l)))) hp (by omega) l 0 (S ++ [.lst []]) S.length [] ho ((On.refl ls).app) (bG _) (by simp) (by simpa using hl)
  rw [dC, dU] at hat;simp! [e, pW hat];exact (on.kill hc).trunc ls
theorem G3 {cl : Bool} {p : List Int} {i j : Int} {S : aO} (h : p.length <= 100) : cZ cl (.dat (tupI p)) (.dat (.tup [.int i, .int j])) S = .ok (.dat (tupI (p ++ [i, j]))) S := by
 rw [ID (sz (by simp; omega))]
 simp [tupI]
def wI (n : Nat) : Prop := ∀ {S : aO} {many : Int} {l : List Stt} {k : Nat} {path : List Int}, LS S -> OkL many l k -> bH l <= 100 -> path.length + 2 * k <= 90 -> k + 1 <= n -> cW n [.dat (.lst (bB l)), .dat (tupI path)] S = .ok (.dat (.lst (pL path (eD 0 l)))) S
theorem zK {n : Nat} (ih : wI n) {S : aO} {many : Int} {k : Nat} {path : List Int} {at_ : Int} {a0 : Option Vl} {bs0 : List (List Stt)} (hp : path.length + 2 + 2 * k <= 90) (hk : k + 1 <= n) :
  ∀ (bs : List (List Stt)) (i : Nat) (T : aO) (c : Nat) (acc : List D), (∀ j, bs0[i + j]? = bs[j]?) -> (∀ b ∈ bs, OkL many b k) -> On S T -> S.length <= c -> T[c]? = some (.lst acc) -> acc.length + (hQ (i : Int) bs).length <= 200 -> (hQ (i : Int) bs).length <= 100 ->
   ∃ (T' : aO) (c' : Nat), loop (.nm 5) (dW (cW n)) (gN (i : Int) bs.length) [a0, some (.dat (tupI path)), some (.cel c), some (.dat (.int at_)), some (.dat (.lst (bls bs0))), none] T = .next [a0, some (.dat (tupI path)), some (.cel c'), some (.dat (.int at_)), some (.dat (.lst (bls bs0))), none] T' /\ On S T' /\ S.length <= c' /\ T'[c']? = some (.lst (acc ++ pL (path ++ [at_]) (hQ (i : Int) bs)))
 | [], i, T, c, acc, _, _, on, hc, hat, _, _ => ⟨T, c, rfl, on, hc, by simpa [hQ, pL] using hat⟩
 | b :: r, i, T, c, acc, hj, ho, on, hc, hat, hl, hl2 => by
  have hb := ho b (aL ..);have hlen : (hQ (i : Int) (b :: r)).length = bH b + (hQ ((i + 1 : Nat) : Int) r).length := by
   simp [hQ, dQ]
  rw [hlen] at hl hl2;have hix : atI (bls bs0) (i : Int) = some (.lst (bB b)) := by
   have := hj 0;rw [sS] at this;rw [dM (n := i) rfl];simp [bls, this]
  have e1 := ih (path := path ++ [at_, (i : Int)]) on.ls hb (by omega) (by simp; omega) hk
  have el : loop (.nm 5) (dW (cW n)) (gN (i : Int) (b :: r).length) [a0, some (.dat (tupI path)), some (.cel c), some (.dat (.int at_)), some (.dat (.lst (bls bs0))), none] T = (match dW (cW n) [a0, some (.dat (tupI path)), some (.cel c), some (.dat (.int at_)), some (.dat (.lst (bls bs0))), some (.dat (.int (i : Int)))] T with
   | .next ρ2 S2 => loop (.nm 5) (dW (cW n)) (gN ((i + 1 : Nat) : Int) r.length) ρ2 S2
   | .cnt ρ2 S2 => loop (.nm 5) (dW (cW n)) (gN ((i + 1 : Nat) : Int) r.length) ρ2 S2
   | .brk ρ2 S2 => .next ρ2 S2
   | .ret d S2 => .ret d S2
   | .err e ρ2 S2 => .err e ρ2 S2
   | .stuck => .stuck) := by
   rw [aM, kD, loop]; rfl
  rw [el, dW];simp! [G3 (show path.length <= 100 by omega), iX hix, e1, Cb hat (show acc.length + (pL (path ++ [at_, (i : Int)]) (eD 0 b)).length <= sizeLine from sz (by rw [pK, dQ]; omega))]
  rw [<- dW];have hj' : ∀ j, bs0[i + 1 + j]? = r[j]? := fun j => by
   have := hj (j + 1);rw [show i + 1 + j = i + (j + 1) by omega, this]
   rfl
  obtain ⟨T', c', e, on', hc', hat'⟩ := zK ih (S := S) (many := many) (at_ := at_) (a0 := a0) (bs0 := bs0) hp hk r (i + 1) (T ++ [.lst (acc ++ pL (path ++ [at_, (i : Int)]) (eD 0 b))]) T.length (acc ++ pL (path ++ [at_, (i : Int)]) (eD 0 b)) hj' (fun b hb => ho b (aK _ hb)) on.app on.len (by simp) (by rw [bO, pK, dQ]; omega) (by omega)
  refine ⟨T', c', e, on', hc', ?_⟩
  rw [hat', show hQ (i : Int) (b :: r) = (eD 0 b).map (pre i) ++ hQ ((i + 1 : Nat) : Int) r from rfl, xS, xR]
  simp
theorem wQ {n : Nat} (ih : wI n) {S : aO} {many : Int} {k : Nat} {path : List Int} {l0 : List Stt} (hp : path.length + 2 * k <= 90) (hk : k <= n) :
  ∀ (l : List Stt) (i : Nat) (T : aO) (c : Nat) (acc : List D), (∀ j, l0[i + j]? = l[j]?) -> OkL many l k -> On S T -> S.length <= c -> T[c]? = some (.lst acc) -> acc.length + bH l <= 100 ->
   ∃ (T' : aO) (c' : Nat), loop (.nm 3) (eC (cW n)) (gN (i : Int) l.length) [some (.dat (.lst (bB l0))), some (.dat (tupI path)), some (.cel c), none, none, none] T = .next [some (.dat (.lst (bB l0))), some (.dat (tupI path)), some (.cel c'), none, none, none] T' /\ On S T' /\ S.length <= c' /\ T'[c']? = some (.lst (acc ++ pL path (eD (i : Int) l)))
 | [], i, T, c, acc, _, _, on, hc, hat, _ => ⟨T, c, rfl, on, hc, by simpa [eD, pL] using hat⟩
 | s :: r, i, T, c, acc, hj, ho, on, hc, hat, hl => by
  have hs := yY s;simp only [bH] at hl;have hix : atI (bB l0) (i : Int) = some s.d := by
   have := hj 0;rw [sS] at this;rw [dM (n := i) rfl, nA, cY, this];rfl
  have el : loop (.nm 3) (eC (cW n)) (gN (i : Int) (s :: r).length) [some (.dat (.lst (bB l0))), some (.dat (tupI path)), some (.cel c), none, none, none] T = (match eC (cW n) [some (.dat (.lst (bB l0))), some (.dat (tupI path)), some (.cel c), some (.dat (.int (i : Int))), none, none] T with
   | .next ρ2 S2 => loop (.nm 3) (eC (cW n)) (gN ((i + 1 : Nat) : Int) r.length) ρ2 S2
   | .cnt ρ2 S2 => loop (.nm 3) (eC (cW n)) (gN ((i + 1 : Nat) : Int) r.length) ρ2 S2
   | .brk ρ2 S2 => .next ρ2 S2
   | .ret d S2 => .ret d S2
   | .err e ρ2 S2 => .err e ρ2 S2
   | .stuck => .stuck) := by
   rw [aM, kD, loop]; rfl
  rw [el, eC];have bn := EV (s := s);have hf := nC (s := s);obtain ⟨T', c', e, on', hc', hat'⟩ : ∃ (T' : aO) (c' : Nat), loop (.nm 5) (dW (cW n)) (gN 0 s.blocks.length) [some (.dat (.lst (bB l0))), some (.dat (tupI path)), some (.cel c), some (.dat (.int (i : Int))), some (.dat (.lst (bls s.blocks))), none] (T.set c (.lst (acc ++ [.tup [tupI (path ++ [(i : Int)]), s.d]]))) = .next [some (.dat (.lst (bB l0))), some (.dat (tupI path)), some (.cel c'), some (.dat (.int (i : Int))), some (.dat (.lst (bls s.blocks))), none] T' /\ On S T' /\ S.length <= c' /\ T'[c']? = some (.lst (acc ++ [.tup [tupI (path ++ [(i : Int)]), s.d]] ++ pL (path ++ [(i : Int)]) (relS s))) := by
   by_cases hb0 : s.blocks = []
   ·rw [hb0]
    refine ⟨_, c, rfl, on.set hc, hc, ?_⟩
    rw [bn, hb0, fO hat];simp [hQ, pL]
   ·have hk0 : 0 < k := by
     cases q : s.blocks with
     | nil => exact absurd q hb0
     | cons b bs => exact (iP ho.1.1 b (by rw [q]; exact aL ..)).1
    have := zK ih (S := S) (many := many) (k := k - 1) (path := path) (at_ := (i : Int)) (a0 := some (.dat (.lst (bB l0)))) (bs0 := s.blocks) (by omega) (by omega) s.blocks 0 _ c (acc ++ [.tup [tupI (path ++ [(i : Int)]), s.d]]) (by simp) (fun b hb => (iP ho.1.1 b hb).2) (on.set hc) hc (fO hat) (by rw [dU, <- bn]; simp; omega) (by rw [dU, <- bn]; omega)
    rw [dU, <- bn] at this;exact this
  simp! [iC (show path.length <= 100 by omega), iX hix, lA hat, lZ hat (show acc.length < sizeLine from eU (show acc.length <= 100 by omega) (by decide)), A7 ho.1.1.no, mQ, gG (show -(2 ^ 62) <= (s.blocks.length : Int) by omega) (show (s.blocks.length : Int) < 2 ^ 62 by omega), cG, e]
  rw [<- eC];have hj' : ∀ j, l0[i + 1 + j]? = r[j]? := fun j => by
   have := hj (j + 1);rw [show i + 1 + j = i + (j + 1) by omega, this]
   rfl
  obtain ⟨T2, c2, e2, on2, hc2, hat2⟩ := wQ ih (S := S) (many := many) (k := k) (path := path) (l0 := l0) hp hk r (i + 1) T' c' _ hj' ho.2 on' hc' hat' (by simp [pK]; omega)
  refine ⟨T2, c2, e2, on2, hc2, ?_⟩
  rw [hat2, show eD (i : Int) (s :: r) = ([(i : Int)], s) :: ((relS s).map (pre i) ++ eD ((i + 1 : Nat) : Int) r) from rfl]
  rw [show pL path (([(i : Int)], s) :: ((relS s).map (pre i) ++ eD ((i + 1 : Nat) : Int) r)) = .tup [tupI (path ++ [(i : Int)]), s.d] :: pL path ((relS s).map (pre i) ++ eD ((i + 1 : Nat) : Int) r) from rfl, xS, xR]
  simp
theorem Cz (n : Nat) : wI n := by
 induction n with
 | zero => intro S many l k path _ _ _ _ h; omega
 | succ n ih =>
  intro S many l k path ls ho hl hp hk;rw [EI];unfold pZ;have hlen := ho.len;obtain ⟨T, c, e, on, hc, hat⟩ := wQ ih (S := S) (many := many) (k := k) (path := path) (l0 := l) hp (by omega) l 0 (S ++ [.lst []]) S.length [] (by simp) ho ((On.refl ls).app) (bG _) (by simp) (by simpa using hl)
  rw [dC, dU] at hat;rw [dU] at e;simp! [cH, gG (show -(2 ^ 62) <= (l.length : Int) by omega) (show (l.length : Int) < 2 ^ 62 by omega), cG, e, pW hat]
  exact (on.kill hc).trunc ls
def eB (p : Int) : List (List Stt) -> List (Int × List Int × Stt)
 | [] => []
 | b :: r => (eD 0 b).map (fun x => (p, x.1, x.2)) ++ eB (p + 1) r
def xK (ps : List (Int × List Int × Stt)) : List D := ps.map fun x => .tup [.int x.1, tupI x.2.1, x.2.2.d]
theorem F3 {S : aO} {p : Int} {a0 : Option Vl} : ∀ (ps : List (List Int × Stt)) (T : aO) (c : Nat) (acc : List D), On S T -> S.length <= c -> T[c]? = some (.lst acc) -> acc.length + ps.length <= 1000 -> ∃ T', loop (.nm 3) fK (pL [] ps) [a0, some (.cel c), some (.dat (.int p)), none] T = .next [a0, some (.cel c), some (.dat (.int p)), none] T' /\ On S T' /\ T'[c]? = some (.lst (acc ++ xK (ps.map fun x => (p, x.1, x.2))))
 | [], T, c, acc, on, hc, hat, hl => ⟨T, rfl, on, by simpa [xK] using hat⟩
 | x :: r, T, c, acc, on, hc, hat, hl => by
  rw [show pL [] (x :: r) = .tup [tupI x.1, x.2.d] :: pL [] r from rfl, loop]
  simp only [lP, aR, aP];rw [fK];simp only [aM] at hl;simp! [lA hat, dH, pT, lZ hat (show acc.length < sizeLine from eU (show acc.length <= 1000 by omega) (by decide))]
  rw [<- fK];obtain ⟨T', e, on', hat'⟩ := F3 (S := S) (p := p) (a0 := a0) r _ c (acc ++ [.tup [.int p, tupI x.1, x.2.d]]) (on.set hc) hc (fO hat) (by rw [bO]; simp only [aM, bM]; omega)
  exact ⟨T', e, on', by rw [hat']; simp [xK]⟩
theorem Cs {S : aO} {many : Int} {bs0 : List (List Stt)} {k : Nat} (hk : k <= 9) : ∀ (bs : List (List Stt)) (i : Nat) (T : aO) (c : Nat) (acc : List D), (∀ j, bs0[i + j]? = bs[j]?) -> (∀ b ∈ bs, OkL many b k /\ bH b <= 12) -> bs.length <= 3 -> On S T -> S.length <= c -> T[c]? = some (.lst acc) -> acc.length + 12 * bs.length <= 100 -> ∃ T', loop (.nm 2) fJ (gN (i : Int) bs.length) [some (.dat (.lst (bls bs0))), some (.cel c), none, none] T = .next [some (.dat (.lst (bls bs0))), some (.cel c), none, none] T' /\ On S T' /\ T'[c]? = some (.lst (acc ++ xK (eB (i : Int) bs)))
 | [], i, T, c, acc, _, _, _, on, hc, hat, hl => ⟨T, rfl, on, by simpa [xK, eB] using hat⟩
 | b :: r, i, T, c, acc, hj, ho, h3, on, hc, hat, hl => by
  obtain ⟨hb, hs⟩ := ho b (aL ..);have hix : atI (bls bs0) (i : Int) = some (.lst (bB b)) := by
   have := hj 0;rw [sS] at this;rw [dM (n := i) rfl];simp [bls, this]
  simp only [aM] at hl h3;have e1 := Cz 10 (path := []) on.ls hb (by omega) (by simp; omega) (by omega)
  rw [show tupI [] = D.tup [] from rfl] at e1
  obtain ⟨T1, e2, on1, hat1⟩ := F3 (p := (i : Int)) (a0 := some (.dat (.lst (bls bs0)))) (eD 0 b) T c acc on hc hat (by rw [dQ]; omega)
  rw [aM, kD, loop];simp only [lP, aR, aP];rw [fJ];simp! [iX hix, e1, e2];rw [<- fJ];have hj' : ∀ j, bs0[i + 1 + j]? = r[j]? := fun j => by
   have := hj (j + 1);rw [show i + 1 + j = i + (j + 1) by omega, this]
   rfl
  obtain ⟨T', e, on', hat'⟩ := Cs (S := S) (many := many) (bs0 := bs0) hk r (i + 1) T1 c _ hj' (fun b hb => ho b (aK _ hb)) (by omega) on1 hc hat1 (by simp [xK, dQ]; omega)
  refine ⟨T', e, on', ?_⟩
  rw [hat', show eB (i : Int) (b :: r) = (eD 0 b).map (fun x => ((i : Int), x.1, x.2)) ++ eB ((i + 1 : Nat) : Int) r from rfl]
  simp [xK]
theorem Bu {S : aO} {many : Int} {bs : List (List Stt)} {k : Nat} (ls : LS S) (hk : k <= 9) (ho : ∀ b ∈ bs, OkL many b k /\ bH b <= 12) (h3 : bs.length <= 3) : kG [.dat (.lst (bls bs))] S = .ok (.dat (.lst (xK (eB 0 bs)))) S := by
 rw [A9];unfold kQ;obtain ⟨T, e, on, hat⟩ := Cs (S := S) (many := many) (bs0 := bs) hk bs 0 (S ++ [.lst []]) S.length [] (by simp) ho h3 ((On.refl ls).app) (bG _) (by simp) (by simp; omega)
 rw [dC, dU] at hat;rw [dU] at e;simp! [mQ, gG (show -(2 ^ 62) <= (bs.length : Int) by omega) (show (bs.length : Int) < 2 ^ 62 by omega), cG, e, pW hat]
 exact (on.kill (bG _)).trunc ls
theorem Ep {many : Int} : ∀ {l : List Stt} {n : Nat} {lv at_ met : Int} {path : List Int}, GdL many l n -> (∀ s ∈ l, s.size <= 9) -> 0 <= lv -> lv + n <= 3 -> at_ + l.length <= 8 -> met + bH l <= 12 -> 0 <= met -> 0 <= at_ -> sJ lv path at_ l met = .okk (met + bH l)
 | [], n, lv, at_, met, path, h, _, h0, h3, h8, h12, hm, ha => by simp [sJ, bH]
 | s :: r, n, lv, at_, met, path, h, h9, h0, h3, h8, h12, hm, ha => by
  have hp := size_pos s;have hs9 := h9 s (aL ..);simp only [bH, aM] at h8 h12;have hw : s.wf lv = true := by
   cases s with
   | cmd c => rfl
   | fin c => rfl
   | bad => exact h.1.elim
   | odd x => exact h.1.elim
   | keep b => have := h.1.1; simp [Stt.wf]; omega
   | again b => have := h.1.1; simp [Stt.wf]; omega
   | either a b => have := h.1.1; simp [Stt.wf]; omega
   | call g f a b => have := h.1.1.1; simp [Stt.wf]; omega
  rw [sJ, if_neg (by rintro (e | e | e) <;> first | omega | (rw [hw] at e; cases e)), Cg (n := n) h.1 h0 h3 hs9 (by omega) (by omega), FR.then_okk, Ep (n := n) h.2 (fun s hs => h9 s (aK _ hs)) h0 h3 (by omega) (by omega) (by omega) (by omega), bH]
  congr 1
  omega
theorem GdL.okTop {many : Int} : ∀ {l : List Stt} {n : Nat}, GdL many l n -> (∀ s ∈ l, s.size <= 9) -> l.length <= 10 -> OkL many l n
 | [], n, _, _, _ => trivial
 | s :: r, n, h, h9, hl => by
  simp only [aM] at hl;exact ⟨⟨Stt.Gd.ok h.1 (by have := h9 s (aL ..); omega), by omega⟩, GdL.okTop h.2 (fun s hs => h9 s (aK _ hs)) (by omega)⟩
structure Good2 (bs : List (List Stt)) : Prop where
 l1 : 1 <= bs.length
 l3 : bs.length <= 3
 gd : ∀ b ∈ bs, GdL (bs.length : Int) b 3 /\ b.length <= 8 /\ bH b <= 12 /\ ∀ s ∈ b, s.size <= 9
theorem C4 : ∀ {l : List Stt} {s : Stt}, s ∈ l -> s.size <= bH l
 | x :: r, s, h => by
  rcases bN.mp h with rfl | h
  ·simp [bH]
  ·have := C4 h; simp [bH]; omega
theorem Good.two {bs : List (List Stt)} (h : Good bs) : Good2 bs := ⟨h.l1, h.l3, fun b hb => by
 obtain ⟨h1, h2⟩ := h.gd b hb;have := iH b;exact ⟨h1, by omega, by omega, fun s hs => by have := C4 hs; omega⟩⟩
theorem Good2.ok {bs : List (List Stt)} (h : Good2 bs) : ∀ b ∈ bs, OkL (bs.length : Int) b 3 := fun b hb => by
 obtain ⟨h1, h2, h3, h4⟩ := h.gd b hb;exact h1.okTop h4 (by omega)
theorem good2_none : ∀ {bs : List (List Stt)} {p many : Int}, (∀ b ∈ bs, GdL many b 3 /\ b.length <= 8 /\ bH b <= 12 /\ ∀ s ∈ b, s.size <= 9) -> uM p bs = none
 | [], p, many, _ => rfl
 | b :: r, p, many, h => by
  obtain ⟨h1, h2, h3, h4⟩ := h b (aL ..);rw [uM, Ep (n := 3) h1 h4 (by omega) (by omega) (by omega) (by omega) (by omega) (by omega)]
  exact good2_none fun b hb => h b (aK _ hb)
theorem zH {S : aO} {bs : List (List Stt)} (ls : LS S) (h : Good2 bs) : Ef false "Book" hY [.dat (.lst (bls bs))] S = .ok (.dat (cD bs)) S := by
 rw [Jb ls h.ok (by omega) rfl h.l1 h.l3, good2_none h.gd]
def Stt.isCall : Stt -> Bool
 | .call _ _ _ _ => true
 | _ => false
def Cmd.word : Cmd -> Str
 | .go _ => "go"
 | .turn _ => "turn"
 | .mirror => "mirror"
 | .scale _ => "scale"
 | .aim _ _ => "aim"
 | .place _ _ => "place"
 | .mark => "mark"
 | .ret => "return"
 | .exch => "exchange"
def Stt.word : Stt -> Str
 | .cmd c => c.word
 | .fin _ => "end"
 | .keep _ => "keep"
 | .again _ => "again"
 | .either _ _ => "either"
 | .call _ _ _ _ => "call"
 | _ => "bad"
theorem uE {s : Stt} {S : aO} (h : s.isOdd = false) : cL (.dat s.d) (.dat (.int 0)) S = .ok (.dat (.str s.word)) S := by
 cases s with
 | cmd c => cases c <;> rfl
 | odd x => cases h
 | _ => rfl
theorem AV {s : Stt} {S : aO} : gR (.dat (.str s.word)) (.dat (.str "call")) S = .ok (.dat (.bl s.isCall)) S := by
 cases s with
 | cmd c => cases c <;> rfl
 | _ => rfl
theorem pA {s : Stt} : decide (s.word = Str.ofString "call") = s.isCall := by
 cases s with
 | cmd c => cases c <;> rfl
 | _ => rfl
def DH (ps : List (Int × List Int × Stt)) : List D := (ps.filter fun x => x.2.2.isCall).map fun x => .tup [.int x.1, tupI x.2.1]
theorem Ki {ps : List (Int × List Int × Stt)} : (DH ps).length <= ps.length := by
 unfold DH; rw [bE]; exact iD ..
theorem Kj {ps qs : List (Int × List Int × Stt)} : DH (ps ++ qs) = DH ps ++ DH qs := by simp [DH]
theorem uX : ∀ {bs : List (List Stt)} {p : Int} {n : Nat}, (∀ b ∈ bs, bH b <= n) -> (eB p bs).length <= n * bs.length
 | [], p, n, _ => by simp [eB]
 | b :: r, p, n, h => by
  have := uX (p := p + 1) fun b hb => h b (aK _ hb)
  have := h b (aL ..);simp only [eB, bO, bE, dQ, aM, Nat.mul_add];omega
mutual
theorem JJ {many : Int} : ∀ (s : Stt) (k : Nat), s.Ok many k -> ∀ x ∈ relS s, ∃ j, j <= k /\ x.2.Ok many j
 | .cmd c, k, h, x, hx => by cases hx
 | .fin c, k, h, x, hx => by cases hx
 | .bad, k, h, x, hx => by cases hx
 | .odd _, k, h, x, hx => by cases hx
 | .keep b, k, h, x, hx => by
  obtain ⟨y, hy, rfl⟩ := aU.mp hx;obtain ⟨j, h1, h2⟩ := mH 0 b (k - 1) h.2 y hy;exact ⟨j, by omega, h2⟩
 | .again b, k, h, x, hx => by
  obtain ⟨y, hy, rfl⟩ := aU.mp hx;obtain ⟨j, h1, h2⟩ := mH 0 b (k - 1) h.2 y hy;exact ⟨j, by omega, h2⟩
 | .either a b, k, h, x, hx => by
  rcases bF.mp hx with hx | hx
  ·obtain ⟨y, hy, rfl⟩ := aU.mp hx
   obtain ⟨j, h1, h2⟩ := mH 0 a (k - 1) h.2.1 y hy;exact ⟨j, by omega, h2⟩
  ·obtain ⟨y, hy, rfl⟩ := aU.mp hx
   obtain ⟨j, h1, h2⟩ := mH 0 b (k - 1) h.2.2 y hy;exact ⟨j, by omega, h2⟩
 | .call g f a b, k, h, x, hx => by
  rcases bF.mp hx with hx | hx
  ·obtain ⟨y, hy, rfl⟩ := aU.mp hx
   obtain ⟨j, h1, h2⟩ := mH 0 a (k - 1) h.2.1 y hy;exact ⟨j, by omega, h2⟩
  ·obtain ⟨y, hy, rfl⟩ := aU.mp hx
   obtain ⟨j, h1, h2⟩ := mH 0 b (k - 1) h.2.2 y hy;exact ⟨j, by omega, h2⟩
theorem mH {many : Int} : ∀ (i : Int) (l : List Stt) (k : Nat), OkL many l k -> ∀ x ∈ eD i l, ∃ j, j <= k /\ x.2.Ok many j
 | i, [], k, h, x, hx => by cases hx
 | i, s :: r, k, h, x, hx => by
  rcases bN.mp hx with rfl | hx
  ·exact ⟨k, bG _, h.1.1⟩
  ·rcases bF.mp hx with hx | hx
   ·obtain ⟨y, hy, rfl⟩ := aU.mp hx
    exact JJ s k h.1.1 y hy
   ·exact mH (i + 1) r k h.2 x hx
end
def stZ : List Int -> List Stt -> Option Stt
 | [], _ => none
 | [i], l => if 0 <= i then l[i.toNat]? else none
 | i :: j :: r, l => if 0 <= i /\ 0 <= j then (match l[i.toNat]? with
  | some s => (match s.blocks[j.toNat]? with
   | some b => stZ r b
   | none => none)
  | none => none) else none
theorem Kn {S : aO} {a0 a1 : Option Vl} {many : Int} : ∀ (m : Nat) (π : List Int) (l : List Stt) (k n : Nat) (x : Vl) (s : Stt), π.length <= m -> OkL many l k -> n % 2 = 0 -> stZ π l = some s ->
  ∃ (b : Vl), loop (.tp [4, 5]) iG (bL n (π.map D.int)) [a0, a1, some x, some (.dat (.lst (bB l))), none, none] S = .next [a0, a1, some (.dat s.d), some b, none, none] S /\ ∃ j, j <= k /\ s.Ok many j
 | m, [], l, k, n, x, s, _, _, _, h => by cases h
 | m, [i], l, k, n, x, s, hm, ho, hn, h => by
  simp only [stZ] at h;split at h
  ·rename_i hi
   have hlt : i.toNat < l.length := (aI.mp h).1;have hs := ho.mem s (eA h);have hix : atI (bB l) i = some s.d := by
    rw [dM (n := i.toNat) (by omega), nA, cY, h]
    rfl
   rw [aN, bL, loop];simp only [lP, jW, aM, bM, if_true, aR, aP];rw [iG];simp! [dZ, decide_eq_true hi, cH, decide_eq_true (show i < (l.length : Int) by omega), mX (show (0 : Int) < 2 by decide), decide_eq_true (show ((n : Nat) : Int) % 2 = 0 by omega), iX hix, lC hs.no, aW, bL, loop]
   exact ⟨_, rfl, k, bG _, hs⟩
  ·cases h
 | 0, i :: j :: r, l, k, n, x, s, hm, _, _, _ => by simp at hm
 | m + 1, i :: j :: r, l, k, n, x, s, hm, ho, hn, h => by
  simp only [stZ] at h;split at h
  ·rename_i hij
   cases q : l[i.toNat]? with
   | none => rw [q] at h; cases h
   | some t =>
    rw [q] at h;dsimp only at h;cases q2 : t.blocks[j.toNat]? with
    | none => rw [q2] at h; cases h
    | some b =>
     rw [q2] at h;dsimp only at h;have hlt : i.toNat < l.length := (aI.mp q).1;have hlt2 : j.toNat < t.blocks.length := (aI.mp q2).1;have ht := ho.mem t (eA q);obtain ⟨hk, hb⟩ := iP ht b (eA q2);have hix : atI (bB l) i = some t.d := by
      rw [dM (n := i.toNat) (by omega), nA, cY, q]
      rfl
     have hix2 : atI (bls t.blocks) j = some (.lst (bB b)) := by
      rw [dM (n := j.toNat) (by omega)]
      simp [bls, q2]
     simp only [aM] at hm;obtain ⟨c, e, j', h1, h2⟩ := Kn (S := S) (a0 := a0) (a1 := a1) m r b (k - 1) (n + 1 + 1) (.dat t.d) s (by omega) hb (by omega) h
     refine ⟨c, ?_, j', by omega, h2⟩
     rw [aN, aN, bL, loop];simp only [lP, jW, aM, bM, if_true, aR, aP];rw [iG];simp! [dZ, decide_eq_true hij.1, cH, decide_eq_true (show i < (l.length : Int) by omega), mX (show (0 : Int) < 2 by decide), decide_eq_true (show ((n : Nat) : Int) % 2 = 0 by omega), iX hix, lC ht.no]
     rw [bL, loop];simp only [lP, jW, aM, bM, if_true, aR, aP];simp! [dZ, decide_eq_true hij.2, mQ, decide_eq_true (show j < (t.blocks.length : Int) by omega), mX (show (0 : Int) < 2 by decide), decide_eq_false (show ¬ ((n + 1 : Nat) : Int) % 2 = 0 by omega), iX hix2]
     rw [<- iG];exact e
  ·cases h
theorem A0 {S : aO} {many : Int} {p : Int} {a0 a3 : Option Vl} {w : FS} (hw : w = fL) : ∀ (ps : List (List Int × Stt)) (T : aO) (c : Nat) (acc : List D), (∀ x ∈ ps, ∃ j, x.2.Ok many j) -> On S T -> S.length <= c -> T[c]? = some (.lst acc) -> acc.length + ps.length <= 1000 -> ∃ T', loop (.tp [4, 5]) w (pL [] ps) [a0, some (.cel c), some (.dat (.int p)), a3, none, none] T = .next [a0, some (.cel c), some (.dat (.int p)), a3, none, none] T' /\ On S T' /\ T'[c]? = some (.lst (acc ++ DH (ps.map fun x => (p, x.1, x.2))))
 | [], T, c, acc, _, on, hc, hat, hl => ⟨T, rfl, on, by simpa [DH] using hat⟩
 | x :: r, T, c, acc, ho, on, hc, hat, hl => by
  obtain ⟨j, hx⟩ := ho x (aL ..);rw [show pL [] (x :: r) = .tup [tupI x.1, x.2.d] :: pL [] r from rfl, loop]
  simp only [lP, jW, aM, bM, if_true, aR, aP];rw [hw, fL];simp only [aM] at hl;simp! [uE hx.no, pA];cases hq : x.2.isCall with
  | true =>
   simp! [lA hat, lZ hat (show acc.length < sizeLine from eU (show acc.length <= 1000 by omega) (by decide))]
   rw [<- fL];obtain ⟨T', e, on', hat'⟩ := A0 (S := S) (many := many) (p := p) (a0 := a0) (a3 := a3) rfl r _ c (acc ++ [.tup [.int p, tupI x.1]]) (fun x hx => ho x (aK _ hx)) (on.set hc) hc (fO hat) (by rw [bO]; simp only [aM, bM]; omega)
   exact ⟨T', e, on', by rw [hat']; simp [DH, hq]⟩
  | false =>
   simp! [if_true];rw [<- fL];obtain ⟨T', e, on', hat'⟩ := A0 (S := S) (many := many) (p := p) (a0 := a0) (a3 := a3) rfl r T c acc (fun x hx => ho x (aK _ hx)) on hc hat (by omega)
   exact ⟨T', e, on', by rw [hat']; simp [DH, hq]⟩
theorem BD {S : aO} {many : Int} {k : Nat} {a0 : Option Vl} {w : FS} (hw : w = hL) (hk : k <= 9) : ∀ (bs : List (List Stt)) (i : Nat) (T : aO) (c : Nat) (acc : List D), (∀ b ∈ bs, OkL many b k /\ bH b <= 12) -> bs.length <= 3 -> On S T -> S.length <= c -> T[c]? = some (.lst acc) -> acc.length + 12 * bs.length <= 100 -> ∃ T', loop (.tp [2, 3]) w (bL i (bls bs)) [a0, some (.cel c), none, none, none, none] T = .next [a0, some (.cel c), none, none, none, none] T' /\ On S T' /\ T'[c]? = some (.lst (acc ++ DH (eB (i : Int) bs)))
 | [], i, T, c, acc, _, _, on, hc, hat, hl => ⟨T, rfl, on, by simpa [DH, eB] using hat⟩
 | b :: r, i, T, c, acc, ho, h3, on, hc, hat, hl => by
  obtain ⟨hb, hs⟩ := ho b (aL ..);simp only [aM] at hl h3;have e1 := FX 10 (path := []) on.ls hb (by omega) (by simp; omega) (by omega)
  rw [show tupI [] = D.tup [] from rfl] at e1
  obtain ⟨T1, e2, on1, hat1⟩ := A0 (p := (i : Int)) (a0 := a0) (a3 := some (.dat (.lst (bB b)))) rfl (eD 0 b) T c acc (fun x hx => by obtain ⟨j, _, h⟩ := mH 0 b k hb x hx; exact ⟨j, h⟩) on hc hat (by rw [dQ]; omega)
  rw [show bL i (bls (b :: r)) = .tup [.int (i : Nat), .lst (bB b)] :: bL (i + 1) (bls r) from rfl, loop]
  simp only [lP, jW, aM, bM, if_true, aR, aP];rw [hw, hL];simp! [e1, e2];rw [<- hL];have hcl : (DH ((eD 0 b).map fun x => ((i : Int), x.1, x.2))).length <= 12 := by
   have := Ki (ps := (eD 0 b).map fun x => ((i : Int), x.1, x.2))
   rw [bE, dQ] at this;omega
  obtain ⟨T', e, on', hat'⟩ := BD (S := S) (many := many) (a0 := a0) rfl hk r (i + 1) T1 c _ (fun b hb => ho b (aK _ hb)) (by omega) on1 hc hat1 (by rw [bO]; omega)
  refine ⟨T', e, on', ?_⟩
  rw [hat', show eB (i : Int) (b :: r) = (eD 0 b).map (fun x => ((i : Int), x.1, x.2)) ++ eB ((i + 1 : Nat) : Int) r from rfl, Kj, iF]
theorem zZ {S : aO} {many : Int} {bs : List (List Stt)} {k : Nat} (ls : LS S) (hk : k <= 9) (ho : ∀ b ∈ bs, OkL many b k /\ bH b <= 12) (h3 : bs.length <= 3) : mL [.dat (cD bs)] S = .ok (.dat (.lst (DH (eB 0 bs)))) S := by
 rw [Bw];unfold mS;obtain ⟨T, e, on, hat⟩ := BD (S := S) (many := many) (a0 := some (.dat (cD bs))) rfl hk bs 0 (S ++ [.lst []]) S.length [] ho h3 ((On.refl ls).app) (bG _) (by simp) (by simp; omega)
 rw [dC, dU] at hat;have hf : ∀ S, HM "Book" "own" (.dat (cD bs)) S = .ok (.dat (.lst (bls bs))) S := fun _ => rfl
 simp! [hf, e, pW hat];exact (on.kill (bG _)).trunc ls
mutual
theorem FU {many : Int} : ∀ (s : Stt) (k : Nat), s.Ok many k -> ∀ x ∈ relS s, x.1.length <= 2 * k
 | .cmd c, k, h, x, hx => by cases hx
 | .fin c, k, h, x, hx => by cases hx
 | .bad, k, h, x, hx => by cases hx
 | .odd _, k, h, x, hx => by cases hx
 | .keep b, k, h, x, hx => by
  obtain ⟨y, hy, rfl⟩ := aU.mp hx;have := jV 0 b (k - 1) h.2 y hy;have := h.1;simp [pre];omega
 | .again b, k, h, x, hx => by
  obtain ⟨y, hy, rfl⟩ := aU.mp hx;have := jV 0 b (k - 1) h.2 y hy;have := h.1;simp [pre];omega
 | .either a b, k, h, x, hx => by
  have := h.1;rcases bF.mp hx with hx | hx
  ·obtain ⟨y, hy, rfl⟩ := aU.mp hx
   have := jV 0 a (k - 1) h.2.1 y hy;simp [pre];omega
  ·obtain ⟨y, hy, rfl⟩ := aU.mp hx
   have := jV 0 b (k - 1) h.2.2 y hy;simp [pre];omega
 | .call g f a b, k, h, x, hx => by
  have := h.1.1;rcases bF.mp hx with hx | hx
  ·obtain ⟨y, hy, rfl⟩ := aU.mp hx
   have := jV 0 a (k - 1) h.2.1 y hy;simp [pre];omega
  ·obtain ⟨y, hy, rfl⟩ := aU.mp hx
   have := jV 0 b (k - 1) h.2.2 y hy;simp [pre];omega
theorem jV {many : Int} : ∀ (i : Int) (l : List Stt) (k : Nat), OkL many l k -> ∀ x ∈ eD i l, x.1.length <= 2 * k + 1
 | i, [], k, h, x, hx => by cases hx
 | i, s :: r, k, h, x, hx => by
  rcases bN.mp hx with rfl | hx
  ·simp
  ·rcases bF.mp hx with hx | hx
   ·obtain ⟨y, hy, rfl⟩ := aU.mp hx
    have := FU s k h.1.1 y hy;simp [pre];omega
   ·exact jV (i + 1) r k h.2 x hx
end
theorem Ct : ∀ {bs : List (List Stt)} {p : Nat} {x : Int × List Int × Stt}, x ∈ eB (p : Int) bs -> ∃ (j : Nat) (b : List Stt), x.1 = ((p + j : Nat) : Int) /\ bs[j]? = some b /\ (x.2.1, x.2.2) ∈ eD 0 b
 | [], p, x, h => by cases h
 | b :: r, p, x, h => by
  rcases bF.mp h with h | h
  ·obtain ⟨y, hy, rfl⟩ := aU.mp h
   exact ⟨0, b, by simp, rfl, hy⟩
  ·obtain ⟨j, b', h1, h2, h3⟩ := Ct (p := p + 1) (bs := r) h
   exact ⟨j + 1, b', by rw [h1]; congr 1; omega, h2, h3⟩
mutual
def repS (x : D) (k : Nat) : Stt -> Stt
 | .keep b => .keep (repL x k b)
 | .again b => .again (repL x k b)
 | .either a b => if k < bH a then .either (repL x k a) b else .either a (repL x (k - bH a) b)
 | .call g f a b => if k < bH a then .call g f (repL x k a) b else .call g f a (repL x (k - bH a) b)
 | s => s
def repL (x : D) (k : Nat) : List Stt -> List Stt
 | [] => []
 | s :: r => if k = 0 then .odd x :: r else if k < s.size then repS x (k - 1) s :: r else s :: repL x (k - s.size) r
end
def fo (P : List (List Int × Bool)) : Option (List Int) := (P.find? fun p => p.2).map (·.1)
inductive Deed where
 | cmd (c : Cmd) | op | cl
abbrev CallS := Int × Bool × List Stt × List Stt
inductive Task where
 | lst (l : List Stt) (i : Nat) | close | again (b : List Stt) | call (p : Nat) (st : Option CallS)
structure Mc where
 bs : List (List Stt)
 bits : List Int
 taken : Nat
 deeds : List Deed
 stk : List Task
 act : List (List Nat)
 ended : Int
structure Pen where
 x : Int
 y : Int
 u : Int
 v : Int
 p : Int
 q : Int
def Pen.ns (z : Pen) : List Int := [z.x, z.y, z.u, z.v, z.p, z.q]
def GO : Nat -> Int × Int -> Int × Int
 | 0, w => w
 | n + 1, w => GO n (-w.2, w.1)
def Cmd.run : Cmd -> Pen -> Pen
 | .go k, z => { z with x := z.x + k * z.u, y := z.y + k * z.v }
 | .turn k, z => { z with u := (GO k.toNat (z.u, z.v)).1, v := (GO k.toNat (z.u, z.v)).2 }
 | .mirror, z => { z with v := -z.v }
 | .scale k, z => { z with u := k * z.u, v := k * z.v }
 | .aim a b, z => { z with u := a, v := b }
 | .place a b, z => { z with x := a, y := b }
 | .mark, z => { z with p := z.x, q := z.y }
 | .ret, z => { z with x := z.p, y := z.q }
 | .exch, z => ⟨z.p, z.q, z.u, z.v, z.x, z.y⟩
def dot (f : Nat -> Int) : Nat -> Int
 | 0 => 0
 | n + 1 => dot f n + f n
def gt (M : List Int) (i : Nat) : Int := M.getD i 0
def imgAt (M : List Int) (z : Pen) (i : Nat) : Int := dot (fun j => gt M (7 * i + j) * gt ((1 : Int) :: z.ns) j) 7
def delta (i j : Nat) : Int := if i = j then 1 else 0
@[irreducible] def mx (f : Nat -> Nat -> Int) : List Int := (dG 49).map fun t => f (t / 7) (t % 7)
def rows (f : Nat -> Nat -> Int) (n : Nat) : List Int := (dG n).flatMap fun i => (dG 7).map (f i)
@[irreducible] def unitM : List Int := mx delta
def GG : Pen := ⟨0, 0, 0, 0, 0, 0⟩
def Kv (j : Nat) : Pen := ⟨delta 0 j, delta 1 j, delta 2 j, delta 3 j, delta 4 j, delta 5 j⟩
def vc (z : Pen) (i : Nat) : Int := gt ((1 : Int) :: z.ns) i
def Lv (r : Pen -> Pen) (i j : Nat) : Int := if j = 0 then vc (r GG) i else vc (r (Kv (j - 1))) i - vc (r GG) i
@[irreducible] def probeM (r : Pen -> Pen) : List Int := mx (Lv r)
def Ld (r : Pen -> Pen) (M : List Int) : Prop := M.length = 49 /\ ∀ z i, i < 7 -> vc (r z) i = imgAt M z i
structure Ps where
 pens : List Pen
 z : Pen
 stk : List Pen
inductive Ed where
 | cmd (m : List Int) (q : Nat) | bit (b : Int) (q : Nat) | unit (es : List Nat) (sv : Bool) (ts : List Nat)
structure Us where
 p : Nat
 sv : Bool
 t : Nat
structure Gr where
 ps : List (List Ed × List Us)
 st : List Nat
def exF : Option PH.D -> List (Str × Vl)
 | none => []
 | some x => [("exits", .dat x)]
def gF (n : Nat) (fx : Option PH.D) : List (Str × Vl) := ("edges", .cel (n + 1)) :: ("users", .cel (n + 2)) :: ("starts", .cel (n + 3)) :: exF fx
def hC (n : Nat) (fx : Option PH.D) (G : Gr) : List Cell :=
 [.ins "Graph" (gF n fx), .lv ((dG G.ps.length).map fun i => .cel (n + 4 + 2 * i)), .lv ((dG G.ps.length).map fun i => .cel (n + 5 + 2 * i)), .lst (G.st.map fun p : Nat => .int p)]
structure Ms where
 m : List Int
 stk : List (List Int)
inductive Chain : List (List Int) -> (Pen -> List Pen) -> Prop
 | nil : Chain [] (fun _ => [])
 | cons {P : List Int} {k : List (List Int)} {ts : Pen -> List Pen} {f : Pen -> Pen} : Ld f P -> Chain k ts -> Chain (P :: k) (fun z => f ((ts z).headD z) :: ts z)
def Inv (s : Ms) (p : Pen -> Ps) : Prop := ∃ (ts : Pen -> List Pen) (f : Pen -> Pen), Chain s.stk ts /\ Ld f s.m /\ ∀ z, (p z).stk = ts z /\ (p z).z = f ((ts z).headD z)
end PH
namespace LA
abbrev Vc := Nat -> Int
def S : Nat -> (Nat -> Int) -> Int
 | 0, _ => 0
 | n + 1, f => S n f + f n
def lin (a : Int) (v : Vc) (b : Int) (w : Vc) : Vc := fun x => a * v x + b * w x
def zv : Vc := fun _ => 0
inductive Sp (G : Vc -> Prop) : Vc -> Prop
 | gen {v : Vc} : G v -> Sp G v
 | zero : Sp G zv
 | lin {v w : Vc} (a b : Int) : Sp G v -> Sp G w -> Sp G (lin a v b w)
 | div {v : Vc} (k : Int) : k ≠ 0 -> Sp G (fun x => k * v x) -> Sp G v
end LA
namespace LA
def fn (l : List Int) : Vc := fun x => l.getD x 0
def kE : List Int -> Nat
 | [] => 0
 | x :: r => if x = 0 then kE r + 1 else 0
def MU (l : List Int) : Nat := l.foldl (fun g x => Nat.gcd g x.natAbs) 0
end LA
namespace LA
section
variable {n : Nat} {B : List (List Int)} {b c row r : List Int} {v : Vc}
def sgD (l : List Int) : Int := if fn l (kE l) < 0 then -(MU l : Int) else MU l
def CG (l : List Int) : List Int := if kE l = l.length then l else l.map fun x => Int.fdiv x (sgD l)
def combL (s : Int) (row : List Int) (f : Int) (base : List Int) : List Int := List.zipWith (fun a b => s * a - f * b) row base
def clrL (row base : List Int) : List Int := if fn row (kE base) = 0 then row else CG (combL (fn base (kE base)) row (fn row (kE base)) base)
end
end LA
namespace LA
def mulS (row base : List Int) (m : Int) : Int := if fn row (kE base) = 0 then m else Int.fdiv (m * fn base (kE base)) (MU [m, fn base (kE base)])
def mulL (B : List (List Int)) (row : List Int) : Int := B.foldl (fun m base => mulS row base m) 1
def facL (m : Int) (row base : List Int) : Int := Int.fdiv m (fn base (kE base)) * fn row (kE base)
def subL (f : Int) (rest base : List Int) : List Int := List.zipWith (fun a b => a - f * b) rest base
def redS (m : Int) (row rest base : List Int) : List Int := if facL m row base = 0 then rest else subL (facL m row base) rest base
def JM (B : List (List Int)) (row : List Int) : List Int := B.foldl (redS (mulL B row) row) (row.map fun x => mulL B row * x)
section
variable {n : Nat} {B : List (List Int)} {row : List Int}
def leP (a b : List Int) : Bool := decide (kE a <= kE b)
def Kt (B : List (List Int)) (row : List Int) : List (List Int) :=
 if kE (CG (JM B row)) = (CG (JM B row)).length then B else (B.map (fun b => clrL b (CG (JM B row))) ++ [CG (JM B row)]).mergeSort leP
end
end LA
namespace LA
def Bd (b : Nat) (r : List Int) : Prop := ∀ x ∈ r, x.natAbs < 2 ^ b
end LA
namespace LA
def Gr (R : Nat) : Nat -> List (List Int) -> Prop
 | _, [] => True
 | i, b :: B => Bd (2 ^ i * (R + 1) - 1) b /\ Gr R (i + 1) B
end LA
namespace PH
open PySem PySem.Spec PyProof PyProof.Rows L2
theorem Fd {t : Tg} {mb : FS} {d : PH.D} {r : List PH.D} {ρ ρ1 ρ2 : Ev} {S S2 : aO} (h1 : lP t (.dat d) ρ = some ρ1) (h2 : mb ρ1 S = .next ρ2 S2) : loop t mb (d :: r) ρ S = loop t mb r ρ2 S2 := by
 rw [loop, h1];dsimp only;rw [h2]
theorem DM {d e : PH.D} {p q : PyData} (h1 : d.Pl) (h2 : d.ht <= 64) (h3 : d.py = some p) (k1 : e.Pl) (k2 : e.ht <= 64) (k3 : e.py = some q) : Iv p q = true := by
 unfold Iv;rw [vK h1 h2 h3, vK k1 k2 k3];rfl
def exF2 (i n : Nat) : List (Nat × Nat) := (tQ i n).map fun i => (2 * i, 2 * i + 1)
def exs (n : Nat) : List (Nat × Nat) := exF2 0 n
structure En where
 len : Int
 bits : List Int
 mat : List Int
structure Cand where
 p : Nat
 bits : List Int
 more : List Int
 mat : List Int
abbrev Wt := List (Int × List Cand)
abbrev Wi := List (Int × Nat × List Cand)
structure SSt where
 E : List (List En)
 B : List (List (List Int))
 A : Wt
abbrev OkP := Nat -> Int -> List Int -> List Int -> Prop
def csum (f : Nat -> Nat) : Nat -> Nat
 | 0 => 0
 | n + 1 => csum f n + f n
def room (m : Nat) (C : Nat -> Nat) (E : List (List En)) : Nat := csum (fun p => C p * (m - (E.getD p []).length)) E.length
abbrev Prc := Nat -> Nat -> Int -> List Int -> List Int -> Prop
abbrev RSet := Int -> List Int -> List Int -> Prop
def Sb (F Q : RSet) : Prop := ∀ L b M, F L b M -> Q L b M
def putF (F : OkP) (p : Nat) (a : RSet) : OkP := fun q => if q = p then a else F q
def tg (af : Nat) (ex : Nat × Nat) (o : Nat) : Nat := if o = 0 then af else if o = 1 then ex.1 else ex.2
section
variable {bs : List (List Stt)}
def wayO (o : Nat) : Nat := if o = 2 then 1 else 0
end
def cE (m : Nat) : Ed -> Nat
 | .cmd _ _ => 1
 | .bit _ _ => 1
 | .unit _ _ _ => 3 * (m + 1)
def pw (m : Nat) (x : List Ed × List Us) : Nat := (x.1.map (cE m)).sum + x.2.length * (m + 1)
section
variable {S : aO}
def bkP2 (z w : Pen) : Pen := ⟨z.x, z.y, z.u, z.v, w.p, w.q⟩
end
inductive Frm where
 | blk (l : List Stt) (i : Nat) | kp (zs : List Pen) | cl (f : Bool) (zs : List Pen) (a b : List Stt) | ag (a : List Stt)
abbrev R4 := Nat × Nat × (Pen -> Pen) × List Int
abbrev EP := Nat -> List Int -> Option R4
def fol (L : Nat) (h : Pen -> Pen) : Option R4 -> Option R4 := Option.map fun r => (r.1, L + r.2.1, fun z => r.2.2.1 (h z), r.2.2.2)
def kpf (f : Bool) (h : Pen -> Pen) : Pen -> Pen := fun z => if f then bkP2 z (h z) else h z
mutual
def xcS (P : EP) : Stt -> List Int -> Option R4
 | .cmd c, b => some (0, 1, c.run, b)
 | .fin w, b => some (1 + w.toNat, 0, fun z => z, b)
 | .keep a, b => (Lf P a b).map fun r => (r.1, r.2.1, kpf true r.2.2.1, r.2.2.2)
 | .either a c, b => match b with
  | [] => none
  | x :: b' => if x = 0 then Lf P a b' else Lf P c b'
 | .call g f a c, b => match P g.toNat b with
  | none => none
  | some (w, L, h, b1) => if w = 0 then fol L (kpf f h) (Lf P a b1) else fol L (kpf f h) (Lf P c b1)
 | .again _, _ => none
 | .bad, _ => none
 | .odd _, _ => none
def Lf (P : EP) : List Stt -> List Int -> Option R4
 | [], b => some (0, 0, fun z => z, b)
 | s :: r, b => match xcS P s b with
  | none => none
  | some (o, L, h, b1) => if o = 0 then fol L h (Lf P r b1) else some (o, L, h, b1)
end
def xcP (bs : List (List Stt)) : Nat -> EP
 | 0 => fun _ _ => none
 | n + 1 => fun g b => (Lf (xcP bs n) (bs.getD g []) b).map fun r => (wayO r.1, r.2)
structure PSt where
 fs : List Frm
 zs : List Pen
 u : Nat
 n : Nat
 w : Nat
inductive PO where
 | go (s : PSt) | more | loop
section
variable {bs : List (List Stt)} {B : List Int}
def Pos (B : List Int) (u : Nat) (b : List Int) : Prop := u + b.length = B.length /\ B.drop u = b
end
mutual
def FlS : Stt -> Stt -> Prop
 | .cmd c, s => s = .cmd c
 | .fin w, s => s = .fin w
 | .keep b, s => ∃ b', s = .keep b' /\ FlL b b'
 | .again b, s => ∃ b', s = .again b' /\ FlL b b'
 | .either a b, s => ∃ a' b', s = .either a' b' /\ FlL a a' /\ FlL b b'
 | .call g _ a b, s => ∃ f' a' b', s = .call g f' a' b' /\ FlL a a' /\ FlL b b'
 | .bad, _ => False
 | .odd _, _ => False
def FlL : List Stt -> List Stt -> Prop
 | [], l => l = []
 | s :: r, l => ∃ s' r', l = s' :: r' /\ FlS s s' /\ FlL r r'
end
def FlB : List (List Stt) -> List (List Stt) -> Prop
 | [], l => l = []
 | b :: r, l => ∃ b' r', l = b' :: r' /\ FlL b b' /\ FlB r r'
theorem FlL.len : ∀ {a a' : List Stt}, FlL a a' -> a'.length = a.length
 | [], a', h => by cases h; rfl
 | s :: r, a', ⟨s', r', e, h1, h2⟩ => by subst e; simp [FlL.len h2]
mutual
theorem FlS.size : ∀ {s s' : Stt}, FlS s s' -> s'.size = s.size
 | .cmd c, s', h => by cases h; rfl
 | .fin w, s', h => by cases h; rfl
 | .keep b, s', ⟨b', e, h⟩ => by subst e; simp only [Stt.size, FlL.size h]
 | .again b, s', ⟨b', e, h⟩ => by subst e; simp only [Stt.size, FlL.size h]
 | .either a b, s', ⟨a', b', e, h1, h2⟩ => by subst e; simp only [Stt.size, FlL.size h1, FlL.size h2]
 | .call g f a b, s', ⟨f', a', b', e, h1, h2⟩ => by subst e; simp only [Stt.size, FlL.size h1, FlL.size h2]
 | .bad, s', h => h.elim
 | .odd x, s', h => h.elim
theorem FlL.size : ∀ {a a' : List Stt}, FlL a a' -> bH a' = bH a
 | [], a', h => by cases h; rfl
 | s :: r, a', ⟨s', r', e, h1, h2⟩ => by subst e; simp only [bH, FlS.size h1, FlL.size h2]
end
mutual
theorem FlS.gd {many : Int} : ∀ {s s' : Stt} {n : Nat}, FlS s s' -> s.Gd many n -> s'.Gd many n
 | .cmd c, s', n, h, g => by cases h; exact g
 | .fin w, s', n, h, g => by cases h; exact g
 | .keep b, s', n, ⟨b', e, h⟩, g => by subst e; exact ⟨g.1, FlL.gd h g.2⟩
 | .again b, s', n, ⟨b', e, h⟩, g => by subst e; exact ⟨g.1, FlL.gd h g.2⟩
 | .either a b, s', n, ⟨a', b', e, h1, h2⟩, g => by subst e; exact ⟨g.1, FlL.gd h1 g.2.1, FlL.gd h2 g.2.2⟩
 | .call x f a b, s', n, ⟨f', a', b', e, h1, h2⟩, g => by subst e; exact ⟨g.1, FlL.gd h1 g.2.1, FlL.gd h2 g.2.2⟩
 | .bad, s', n, h, g => h.elim
 | .odd x, s', n, h, g => h.elim
theorem FlL.gd {many : Int} : ∀ {a a' : List Stt} {n : Nat}, FlL a a' -> GdL many a n -> GdL many a' n
 | [], a', n, h, g => by cases h; trivial
 | s :: r, a', n, ⟨s', r', e, h1, h2⟩, g => by subst e; exact ⟨FlS.gd h1 g.1, FlL.gd h2 g.2⟩
end
theorem FlL.mem : ∀ {a a' : List Stt}, FlL a a' -> ∀ s' ∈ a', ∃ s ∈ a, FlS s s'
 | [], a', h, s', hs => by cases h; cases hs
 | s :: r, a', ⟨t, r', e, h1, h2⟩, s', hs => by
  subst e;rcases bN.mp hs with rfl | hs
  ·exact ⟨s, aL .., h1⟩
  ·obtain ⟨u, h3, h4⟩ := FlL.mem h2 s' hs
   exact ⟨u, aK _ h3, h4⟩
theorem FlB.len : ∀ {a a' : List (List Stt)}, FlB a a' -> a'.length = a.length
 | [], a', h => by cases h; rfl
 | s :: r, a', ⟨s', r', e, h1, h2⟩ => by subst e; simp [FlB.len h2]
theorem FlB.mem : ∀ {a a' : List (List Stt)}, FlB a a' -> ∀ s' ∈ a', ∃ s ∈ a, FlL s s'
 | [], a', h, s', hs => by cases h; cases hs
 | s :: r, a', ⟨t, r', e, h1, h2⟩, s', hs => by
  subst e;rcases bN.mp hs with rfl | hs
  ·exact ⟨s, aL .., h1⟩
  ·obtain ⟨u, h3, h4⟩ := FlB.mem h2 s' hs
   exact ⟨u, aK _ h3, h4⟩
theorem FlB.good {bs bs' : List (List Stt)} (h : FlB bs bs') (G : Good2 bs) : Good2 bs' := ⟨by rw [h.len]; exact G.l1, by rw [h.len]; exact G.l3, fun b hb => by
 obtain ⟨b0, h0, h1⟩ := h.mem b hb;obtain ⟨g1, g2, g3, g4⟩ := G.gd b0 h0;refine ⟨by rw [h.len]; exact h1.gd g1, by rw [h1.len]; exact g2, by rw [h1.size]; exact g3, fun s hs => ?_⟩
 obtain ⟨t, ht, hf⟩ := h1.mem s hs;rw [hf.size];exact g4 t ht⟩
theorem Cn {xs : List D} {n : Nat} : cutD xs none (some (n : Int)) = xs.take n := by
 unfold cutD;rw [HT.sIx_none, HT.sIx_nat];simp
theorem nL {α : Type} {t : Tg} {mt : FT} {e : FE} {ρ : Ev} {S : aO} {f g : α -> D} {p : α -> Bool} : ∀ {xs : List α}, (∀ x ∈ xs, ∃ ρ1, lP t (.dat (f x)) ρ = some ρ1 /\ mt ρ1 S = .ok (p x) S /\ e ρ1 S = .ok (.dat (g x)) S) -> kX t mt e ρ (xs.map f) S = .ok ((xs.filter p).map g) S
 | [], _ => rfl
 | x :: xs, h => by
  obtain ⟨ρ1, h1, h2, h3⟩ := h x (aL ..);have ih := nL (xs := xs) fun y hy => h y (aK _ hy)
  rw [aN, kX];simp only [h1, h2];cases q : p x with
  | true =>
   rw [List.filter_cons_of_pos q];simp only [if_true, h3, ih, aN]
  | false =>
   rw [List.filter_cons_of_neg (by rw [q]; decide)]
   simp only [wK, if_false, ih]
theorem iT {i : Int} {ps : List (List Int × Stt)} (h : (ps.map Prod.fst).Nodup) : ((ps.map (pre i)).map Prod.fst).Nodup := by
 rw [gV, show (Prod.fst ∘ pre i : List Int × Stt -> List Int) = (fun p => i :: p) ∘ Prod.fst from rfl, <- gV]
 exact h.map (f := fun p => i :: p) (fun a b hab e => hab (List.cons.inj e).2)
theorem oO {i : Int} {ps : List (List Int × Stt)} {q : List Int} (h : q ∈ (ps.map (pre i)).map Prod.fst) : ∃ r, q = i :: r /\ r ∈ ps.map Prod.fst := by
 obtain ⟨x, h1, rfl⟩ := aU.mp h;obtain ⟨y, h2, rfl⟩ := aU.mp h1;exact ⟨y.1, rfl, nE h2⟩
theorem vI : ∀ {l : List Stt} {i : Int} {q : List Int}, q ∈ (eD i l).map Prod.fst -> ∃ j r, q = j :: r /\ i <= j
 | s :: r, i, q, h => by
  rw [eD, aN, gY] at h;rcases bN.mp h with rfl | h
  ·exact ⟨i, [], rfl, tS _⟩
  ·rcases bF.mp h with h | h
   ·obtain ⟨r', rfl, _⟩ := oO h
    exact ⟨i, r', rfl, tS _⟩
   ·obtain ⟨j, r', rfl, hj⟩ := vI h
    exact ⟨j, r', rfl, by omega⟩
 | [], i, q, h => by rw [eD] at h; cases h
theorem JL {s : Stt} {q : List Int} (h : q ∈ (relS s).map Prod.fst) : q ≠ [] := by
 have key : ∀ {i : Int} {ps : List (List Int × Stt)}, q ∈ (ps.map (pre i)).map Prod.fst -> q ≠ [] := fun h e => by
  obtain ⟨r, h1, _⟩ := oO h;rw [e] at h1;cases h1
 cases s with
 | keep b => exact key h
 | again b => exact key h
 | either a b =>
  rw [relS, gY] at h;rcases bF.mp h with h | h
  ·exact key h
  ·exact key h
 | call g f a b =>
  rw [relS, gY] at h;rcases bF.mp h with h | h
  ·exact key h
  ·exact key h
 | _ => cases h
theorem zG {a b : List (List Int × Stt)} (ha : (a.map Prod.fst).Nodup) (hb : (b.map Prod.fst).Nodup) : ((a.map (pre 0) ++ b.map (pre 1)).map Prod.fst).Nodup := by
 rw [gY, lF];refine ⟨iT ha, iT hb, fun x hx y hy e => ?_⟩
 obtain ⟨r1, h1, _⟩ := oO hx;obtain ⟨r2, h2, _⟩ := oO hy;rw [e, h2] at h1;cases h1
mutual
theorem DV : ∀ (s : Stt), ((relS s).map Prod.fst).Nodup
 | .keep b => iT (hM b 0)
 | .again b => iT (hM b 0)
 | .either a b => zG (hM a 0) (hM b 0)
 | .call _ _ a b => zG (hM a 0) (hM b 0)
 | .cmd c => eQ
 | .fin w => eQ
 | .bad => eQ
 | .odd x => eQ
theorem hM : ∀ (l : List Stt) (i : Int), ((eD i l).map Prod.fst).Nodup
 | [], i => by rw [eD]; exact eQ
 | s :: r, i => by
  rw [eD, aN, gY, AU, lF];refine ⟨fun h => ?_, iT (DV s), hM r (i + 1), fun x hx y hy e => ?_⟩
  ·rcases bF.mp h with h | h
   ·obtain ⟨r', h1, h2⟩ := oO h
    cases h1;exact JL h2 rfl
   ·obtain ⟨j, r', h1, hj⟩ := vI h
    cases h1;omega
  ·obtain ⟨r1, h1, _⟩ := oO hx
   obtain ⟨j, r2, h2, hj⟩ := vI hy;rw [e, h2] at h1;cases h1;omega
end
def Iw (x : Int × List Int × Stt) : Int × List Int := (x.1, x.2.1)
theorem F4 : ∀ {bs : List (List Stt)} {p : Int} {q : Int × List Int}, q ∈ (eB p bs).map Iw -> p <= q.1
 | b :: r, p, q, h => by
  rw [eB, gY] at h;rcases bF.mp h with h | h
  ·obtain ⟨x, h1, rfl⟩ := aU.mp h
   obtain ⟨y, _, rfl⟩ := aU.mp h1;exact tS _
  ·have := F4 h
   omega
 | [], p, q, h => by rw [eB] at h; cases h
theorem A2 : ∀ (bs : List (List Stt)) (p : Int), ((eB p bs).map Iw).Nodup
 | [], p => by rw [eB]; exact eQ
 | b :: r, p => by
  rw [eB, gY, lF];refine ⟨?_, A2 r (p + 1), fun x hx y hy e => ?_⟩
  ·rw [gV, show (Iw ∘ fun x : List Int × Stt => (p, x.1, x.2)) = (fun π => (p, π)) ∘ Prod.fst from rfl, <- gV]
   exact (hM b 0).map (f := fun π => (p, π)) (fun a b hab e => hab (Prod.mk.inj e).2)
  ·obtain ⟨z, h1, rfl⟩ := aU.mp hx
   obtain ⟨w, _, rfl⟩ := aU.mp h1;have := F4 hy;rw [<- e] at this;simp [Iw] at this;omega
def nU (bs : List (List Stt)) : List (Int × List Int) := ((eB 0 bs).filter fun x => x.2.2.isCall).map Iw
def cK (c : Int × List Int) : D := .tup [.int c.1, tupI c.2]
theorem Bq {bs : List (List Stt)} : DH (eB 0 bs) = (nU bs).map cK := by
 rw [DH, nU, gV];rfl
theorem Fw (bs : List (List Stt)) : (nU bs).Nodup := (List.filter_sublist.map Iw).nodup (A2 bs 0)
def By (c : Int × List Int) : PyData := .tuple [.int c.1, .tuple (c.2.map PyData.int)]
theorem Cj : ∀ {a b : List Int}, PyData.eqvAll (a.map PyData.int) (b.map PyData.int) = decide (a = b)
 | [], [] => rfl
 | [], _ :: _ => by simp [PyData.eqvAll]
 | _ :: _, [] => by simp [PyData.eqvAll]
 | x :: a, y :: b => by
  rw [aN, aN, PyData.eqvAll, Cj (a := a) (b := b)];simp only [PyData.eqv, List.cons.injEq]
  by_cases h : x = y <;> simp [h]
theorem Et {c d : Int × List Int} : PyData.eqv (By c) (By d) = decide (c = d) := by
 obtain ⟨c1, c2⟩ := c;obtain ⟨d1, d2⟩ := d;simp only [By, PyData.eqv, PyData.eqvAll, Cj, hE, Prod.mk.injEq]
 by_cases h : c1 = d1 <;> simp [h]
theorem DW : ∀ {cs : List (Int × List Int)}, D.pys (cs.map cK) = some (cs.map By) /\ PyData.canLayAll0 (cs.map By) = true /\ PyData.depthAll (cs.map By) <= 2
 | [] => ⟨rfl, rfl, AR _⟩
 | p :: r => by
  obtain ⟨h1, h2, h3⟩ := DW (cs := r);obtain ⟨ps, e1, e2, e3⟩ := zA _ (xW p.2).1;rw [Bc] at e1;cases e1;refine ⟨?_, ?_, ?_⟩
  ·rw [aN, D.pys, h1, show D.py (cK p) = some (By p) by simp only [cK, tupI, D.py, D.pys, Bc]; rfl]
   rfl
  ·rw [aN, PyData.canLayAll0, h2, hE]
   show PyData.canLayAll0 [.int p.1, .tuple (p.2.map PyData.int)] = true
   simp only [PyData.canLayAll0, hE];exact e2
  ·rw [aN, PyData.depthAll]
   simp only [By, PyData.depth, PyData.depthAll, e3, (xW p.2).2];omega
theorem rL {neg : Bool} {c : Int × List Int} {cs : List (Int × List Int)} {S : aO} : wA neg (.dat (cK c)) (.dat (.lst (cs.map cK))) S = .ok (.dat (.bl (if neg then !decide (c ∈ cs) else decide (c ∈ cs)))) S := by
 obtain ⟨h1, h2, h3⟩ := DW (cs := cs);obtain ⟨k1, k2, k3⟩ := DW (cs := [c]);have p1 : xG S (.dat (cK c)) = some (By c) := by
  simp only [aN, aW, D.pys] at k1
  show D.py _ = _
  cases q : D.py (cK c) with
  | none => rw [q] at k1; cases k1
  | some x => rw [q] at k1; cases k1; rfl
 have p2 : xG S (.dat (.lst (cs.map cK))) = some (.list (cs.map By)) := by show D.py _ = _; rw [D.py, h1]
 have hc1 : (By c).canLay0 = true := by
  simp only [aN, aW, PyData.canLayAll0, hE] at k2;exact k2
 have hd1 : (By c).depth <= 2 := by
  simp only [aN, aW, PyData.depthAll] at k3;omega
 have ha : ((cs.map By).any fun z => PyData.eqv z (By c)) = decide (c ∈ cs) := by
  rw [gZ, qP, decide_eq_true_iff]
  constructor
  ·rintro ⟨z, hz, he⟩
   obtain ⟨d, hd, rfl⟩ := aU.mp hz;rw [Et] at he;rw [<- of_decide_eq_true he];exact hd
  ·intro h
   exact ⟨By c, nE h, by rw [Et]; simp⟩
 unfold wA;rw [p1, p2];dsimp only;rw [if_pos (by
  unfold Iv SeqAt.shaped;rw [hc1, show PyData.canLay0 (.list (cs.map By)) = true from h2, show decide ((By c).depth <= 64) = true from decide_eq_true (by omega), show decide ((PyData.list (cs.map By)).depth <= 64) = true from decide_eq_true (by show PyData.depthAll _ + 1 <= 64; omega)]
  rfl), ha]
mutual
def GE (cs : List (List Int)) : List Int -> Stt -> Stt
 | _, .cmd c => .cmd c
 | _, .fin w => .fin w
 | h, .keep b => .keep (sI cs (h ++ [((0 : Nat) : Int)]) 0 b)
 | h, .again b => .again (sI cs (h ++ [((0 : Nat) : Int)]) 0 b)
 | h, .either a b => .either (sI cs (h ++ [((0 : Nat) : Int)]) 0 a) (sI cs (h ++ [((1 : Nat) : Int)]) 0 b)
 | h, .call g _ a b => .call g (decide (h ∈ cs)) (sI cs (h ++ [((0 : Nat) : Int)]) 0 a) (sI cs (h ++ [((1 : Nat) : Int)]) 0 b)
 | _, .bad => .bad
 | _, .odd x => .odd x
def sI (cs : List (List Int)) : List Int -> Nat -> List Stt -> List Stt
 | _, _, [] => []
 | p, i, s :: r => GE cs (p ++ [(i : Int)]) s :: sI cs p (i + 1) r
end
def vT (cs : List (List Int)) (h : List Int) : Nat -> List (List Stt) -> List (List Stt)
 | _, [] => []
 | i, b :: r => sI cs (h ++ [(i : Int)]) 0 b :: vT cs h (i + 1) r
mutual
theorem N5 {cs : List (List Int)} {many : Int} : ∀ (s : Stt) (h : List Int) (k : Nat), s.Gd many k -> FlS s (GE cs h s)
 | .cmd c, _, _, _ => rfl
 | .fin w, _, _, _ => rfl
 | .keep b, h, k, g => ⟨_, rfl, rM b _ _ _ g.2⟩
 | .again b, h, k, g => ⟨_, rfl, rM b _ _ _ g.2⟩
 | .either a b, h, k, g => ⟨_, _, rfl, rM a _ _ _ g.2.1, rM b _ _ _ g.2.2⟩
 | .call _ _ a b, h, k, g => ⟨_, _, _, rfl, rM a _ _ _ g.2.1, rM b _ _ _ g.2.2⟩
 | .bad, _, _, g => g.elim
 | .odd _, _, _, g => g.elim
theorem rM {cs : List (List Int)} {many : Int} : ∀ (l : List Stt) (p : List Int) (i k : Nat), GdL many l k -> FlL l (sI cs p i l)
 | [], _, _, _, _ => rfl
 | s :: r, p, i, k, g => ⟨_, _, rfl, N5 s _ _ g.1, rM r _ _ _ g.2⟩
end
def FlagX (n : Nat) : Prop := ∀ {S : aO} {many : Int} {l : List Stt} {k : Nat} {path : List Int} {cs : List (List Int)}, LS S -> GdL many l k -> OkL many l k -> path.length + 2 * k <= 90 -> k + 1 <= n -> cF n [.dat (.lst (bB l)), .dat (tupI path), .dat (.lst (cs.map tupI))] S = .ok (.dat (.lst (bB (sI cs path 0 l)))) S
theorem IG {n : Nat} (ih : FlagX n) {many : Int} {k : Nat} {here : List Int} {cs : List (List Int)} {a0 a1 a3 a4 a5 : Option Vl} (hp : here.length + 1 + 2 * k <= 90) (hk : k + 1 <= n) :
  ∀ (bs : List (List Stt)) (i : Nat) (T : aO) (c : Nat) (acc : List D), (∀ b ∈ bs, GdL many b k /\ OkL many b k) -> LS T -> T[c]? = some (.lst acc) -> acc.length + bs.length <= 100 ->
   loop (.tp [8, 9]) (cQ (cF n)) (bL i (bls bs)) [a0, a1, some (.dat (.lst (cs.map tupI))), a3, a4, a5, some (.dat (tupI here)), some (.cel c), none, none] T = .next [a0, a1, some (.dat (.lst (cs.map tupI))), a3, a4, a5, some (.dat (tupI here)), some (.cel c), none, none] (T.set c (.lst (acc ++ bls (vT cs here i bs))))
 | [], i, T, c, acc, _, ls, hat, _ => by
   obtain ⟨hc, e⟩ := aI.mp hat;rw [show vT cs here i [] = [] from rfl, show bls ([] : List (List Stt)) = [] from rfl, dD, <- e, F7]
   rfl
 | b :: r, i, T, c, acc, ho, ls, hat, hl => by
  obtain ⟨hg, hb⟩ := ho b (aL ..);have e1 := ih (path := here ++ [(i : Int)]) (cs := cs) ls hg hb (by simp; omega) hk
  simp only [aM] at hl;have el : loop (.tp [8, 9]) (cQ (cF n)) (bL i (bls (b :: r))) [a0, a1, some (.dat (.lst (cs.map tupI))), a3, a4, a5, some (.dat (tupI here)), some (.cel c), none, none] T = (match cQ (cF n) [a0, a1, some (.dat (.lst (cs.map tupI))), a3, a4, a5, some (.dat (tupI here)), some (.cel c), some (.dat (.int (i : Nat))), some (.dat (.lst (bB b)))] T with
   | .next ρ2 S2 => loop (.tp [8, 9]) (cQ (cF n)) (bL (i + 1) (bls r)) ρ2 S2
   | .cnt ρ2 S2 => loop (.tp [8, 9]) (cQ (cF n)) (bL (i + 1) (bls r)) ρ2 S2
   | .brk ρ2 S2 => .next ρ2 S2
   | .ret d S2 => .ret d S2
   | .err e ρ2 S2 => .err e ρ2 S2
   | .stuck => .stuck) := rfl
  have e2 := IG ih (many := many) (cs := cs) (a0 := a0) (a1 := a1) (a3 := a3) (a4 := a4) (a5 := a5) hp hk r (i + 1) (T.set c (.lst (acc ++ [.lst (bB (sI cs (here ++ [(i : Int)]) 0 b))]))) c (acc ++ [.lst (bB (sI cs (here ++ [(i : Int)]) 0 b))]) (fun b hb => ho b (aK _ hb)) ls.set (fO hat) (by simp; omega)
  rw [el, cQ];simp! [iC (show here.length <= 100 by omega), lA hat, e1, lZ hat (show acc.length < sizeLine from eU (show acc.length <= 100 by omega) (by decide))]
  rw [<- cQ, e2, jB];simp [bls, vT]
theorem withX {s : Stt} {S : aO} {many : Int} {k : Nat} {cs : List (List Int)} {h : List Int} (ho : s.Gd many k) (hc : s.isCall = false) : eZ [.dat s.d, .dat (.lst (bls (vT cs h 0 s.blocks)))] S = .ok (.dat (GE cs h s).d) S := by
 rw [show eZ [.dat s.d, .dat (.lst (bls (vT cs h 0 s.blocks)))] S = cS (gS [some (.dat s.d), some (.dat (.lst (bls (vT cs h 0 s.blocks)))), none] S) from rfl]
 unfold gS;cases s with
 | bad => exact ho.elim
 | odd x => exact ho.elim
 | call g f a b => cases hc
 | cmd c => cases c <;> (simp! [Stt.d, Cmd.d, dH]; rfl)
 | fin w => simp! [Stt.d, dH]; rfl
 | keep b => simp! [Stt.d, dH, Stt.blocks, vT, bls, aN, aW, Bb]; rfl
 | again b => simp! [Stt.d, dH, Stt.blocks, vT, bls, aN, aW, Bb]; rfl
 | either a b => simp! [Stt.d, dH, Stt.blocks, vT, bls, aN, aW, Bb, HV]; rfl
def qQ (cs : List (Int × List Int)) : Nat -> List (List Stt) -> List (List Stt)
 | _, [] => []
 | i, b :: r => sI ((cs.filter fun x => decide (x.1 = (i : Int))).map (·.2)) [] 0 b :: qQ cs (i + 1) r
theorem vA {cs : List (Int × List Int)} {many : Int} {k : Nat} : ∀ (bs : List (List Stt)) (i : Nat), (∀ b ∈ bs, GdL many b k) -> FlB bs (qQ cs i bs)
 | [], _, _ => rfl
 | b :: r, i, h => ⟨_, _, rfl, rM b _ _ _ (h b (aL ..)), vA r (i + 1) fun x hx => h x (aK _ hx)⟩
inductive Pce where
 | kp (c : Cmd) | cl (f : Bool)
def Iy (k : Nat) : PH.D := .int (k : Int)
def chF (row : List Nat) (k : Nat) : Bool := match row.getLast? with
 | none => true
 | some a => decide (a < k)
def nxt (n : Nat) (lev : List (List Nat)) : List (List Nat) := lev.flatMap fun row => ((dG n).filter (chF row)).map fun k => row ++ [k]
def lvl (n : Nat) : Nat -> List (List Nat)
 | 0 => [[]]
 | k + 1 => nxt n (lvl n k)
section
variable {S T : aO}
theorem Gi (n : Nat) : gN 0 n = (dG n).map Iy := by
 unfold gN Iy;refine jR fun k _ => ?_
 rw [Int.zero_add]
end
theorem LS.all {S : aO} (h : LS S) : (S.all fun c => c.below S.length) = true := bZ.mpr fun c hc => h c hc _
def kps : List Pce -> Nat
 | [] => 0
 | .kp _ :: r => kps r + 1
 | .cl _ :: r => kps r
def cls : List Pce -> Nat
 | [] => 0
 | .kp _ :: r => cls r
 | .cl _ :: r => cls r + 1
abbrev xqE (bs : List (List Stt)) (g : Nat) (b : List Int) : Option R4 := xcP bs bs.length g b
section
variable {bs : List (List Stt)} {T : Nat -> Nat} {S : aO} {g : Nat}
abbrev R3 := Nat × Nat × List Int
end
theorem M0 {z w : Pen} (h : z.ns = w.ns) : z = w := by
 obtain ⟨a1, a2, a3, a4, a5, a6⟩ := z;obtain ⟨b1, b2, b3, b4, b5, b6⟩ := w;simp only [Pen.ns, List.cons.injEq, and_true] at h;obtain ⟨rfl, rfl, rfl, rfl, rfl, rfl⟩ := h;rfl
instance : DecidableEq Pen := fun z w => if h : z.ns = w.ns then .isTrue (M0 h) else .isFalse fun e => h (by rw [e])
def LB : List Pen := GG :: (dG 6).map Kv
def fE (bs : List (List Stt)) (g : Nat) (b : List Int) : Pen -> Pen := match xqE bs g b with
 | some (_, _, f, _) => f
 | none => fun z => z
structure Eqn where
 vars : List (Nat × Nat)
 left : List Nat
 right : List Nat
 parts : List Nat
def PW {α : Type} : List α -> List (List α) -> Prop
 | [], [] => True
 | x :: xs, r :: rs => x ∈ r /\ PW xs rs
 | _, _ => False
def fnI (bs : List (List Stt)) (vs : List (Nat × Nat)) (c : List R3) (i : Nat) : Pen -> Pen := match vs[i]?, c[i]? with
 | some v, some x => fE bs v.1 x.2.2
 | _, _ => fun z => z
def sidP (bs : List (List Stt)) (vs : List (Nat × Nat)) (c : List R3) (s : List Nat) (zs : List Pen) : List Pen := s.foldl (fun zs i => zs.map (fnI bs vs c i)) zs
def parP (p : Nat) (z : Pen) : Int × Int := if p = 0 then (z.x, z.y) else if p = 1 then (z.u, z.v) else (z.p, z.q)
section
variable {S : aO}
def unlB (A B : List Pen) (ps : List Nat) : Bool := !(ps.all fun p => decide (A.map (parP p) = B.map (parP p)))
end
def Lk (c : List R3) : Int := (c.map fun x => (x.1 : Int)).sum
def brR (bs : List (List Stt)) (q : Eqn) (c : List R3) : Bool := unlB (sidP bs q.vars c q.left LB) (sidP bs q.vars c q.right LB) q.parts
def lsS (bs : List (List Stt)) (q : Eqn) (st : Option Int) (c : List R3) : Option Int := match st with
 | none => if brR bs q c = true then some (Lk c) else none
 | some t => if Lk c < t then (if brR bs q c = true then some (Lk c) else some t) else some t
abbrev kR := Int × List Int
def plcsD (cs : List kR) : PH.D := .lst (cs.map cK)
def pC (cs : List kR) (i : Int) : List (List Int) := (cs.filter fun x => decide (x.1 = i)).map (·.2)
theorem Gc {cs : List kR} {i : Int} {h : List Int} : h ∈ pC cs i ↔ (i, h) ∈ cs := by
 unfold pC;simp only [aU, nD, decide_eq_true_eq]
 constructor
 ·rintro ⟨x, ⟨h1, h2⟩, h3⟩
  rw [<- h2, <- h3];exact h1
 ·intro h1
  exact ⟨_, ⟨h1, rfl⟩, rfl⟩
theorem EO {cs : List kR} (bs0 : List (List Stt)) : ∀ (bs : List (List Stt)) (i : Nat), (∀ j, bs0[i + j]? = bs[j]?) -> bls (qQ cs i bs) = (tQ i bs.length).map fun j : Nat => D.lst (bB (sI (pC cs (j : Int)) [] 0 (bs0.getD j [])))
 | [], i, _ => rfl
 | b :: r, i, hj => by
  have hj' : ∀ j, bs0[i + 1 + j]? = r[j]? := fun j => by
   have := hj (j + 1);rw [show i + 1 + j = i + (j + 1) by omega, this]
   rfl
  have h0 : bs0.getD i [] = b := by
   have := hj 0;rw [sS] at this;rw [iS, this];rfl
  rw [aM, List.range'_succ, aN, <- EO bs0 r (i + 1) hj', h0];rfl
theorem L9 {ds : List PH.D} (h : ∀ d ∈ ds, d.Pl) : PH.D.Pls ds := by
 induction ds with
 | nil => trivial
 | cons d r ih => exact ⟨h d (aL ..), ih fun x hx => h x (aK _ hx)⟩
theorem LM {ds : List PH.D} {k : Nat} (h : ∀ d ∈ ds, d.ht <= k) : PH.D.hts ds <= k := by
 induction ds with
 | nil => exact AR _
 | cons d r ih =>
  rw [PH.D.hts];exact Nat.max_le.mpr ⟨h d (aL ..), ih fun x hx => h x (aK _ hx)⟩
theorem HC {ds : List PH.D} {k : Nat} (hl : ds.length <= 1000) (h : ∀ d ∈ ds, d.Pl /\ d.ht <= k) : (PH.D.lst ds).Pl /\ (PH.D.lst ds).ht <= k + 1 :=
 ⟨⟨hl, L9 fun d hd => (h d hd).1⟩, Nat.succ_le_succ (LM fun d hd => (h d hd).2)⟩
theorem Lj {ds : List PH.D} {k : Nat} (hl : ds.length <= 1000) (h : ∀ d ∈ ds, d.Pl /\ d.ht <= k) : (PH.D.tup ds).Pl /\ (PH.D.tup ds).ht <= k + 1 :=
 ⟨⟨hl, L9 fun d hd => (h d hd).1⟩, Nat.succ_le_succ (LM fun d hd => (h d hd).2)⟩
theorem BH {bs : List (List Stt)} : ∀ (p : Int), (∀ b ∈ bs, ∃ many, OkL many b 3) -> ∀ x ∈ eB p bs, x.2.1.length <= 7 := by
 induction bs with
 | nil => intro p _ x hx; cases hx
 | cons b r ih =>
  intro p h x hx;rcases bF.mp hx with hx | hx
  ·obtain ⟨y, hy, rfl⟩ := aU.mp hx
   obtain ⟨many, ho⟩ := h b (aL ..);have := jV 0 b 3 ho y hy
   show y.1.length <= 7
   omega
  ·exact ih (p + 1) (fun b hb => h b (aK _ hb)) x hx
theorem lV {bs : List (List Stt)} (G : Good2 bs) : ∀ c ∈ nU bs, c.2.length <= 7 := by
 intro c hc;unfold nU at hc;obtain ⟨x, hx, rfl⟩ := aU.mp hc;exact BH 0 (fun b hb => ⟨_, G.ok b hb⟩) x (nD.mp hx).1
def T2 (x y : Nat) : Nat -> Nat := fun g => if g = 0 then x else y
def T3 (x y z : Nat) : Nat -> Nat := fun g => if g = 0 then x else if g = 1 then y else z
def sX (d e : PH.D) : Bool := match D.py d, D.py e with
 | some p, some q => PyData.eqv p q
 | _, _ => false
section
variable {S : aO} {d e : PH.D}
theorem fEqG (hn : ∀ i j, ¬ (d = .int i /\ e = .int j)) (hs : ∀ i j, ¬ (d = .str i /\ e = .str j)) : gR (.dat d) (.dat e) S = (match D.py d, D.py e with
  | some p, some q => if Iv p q = true then Res.ok (Vl.dat (.bl (PyData.eqv p q))) S else .stuck
  | _, _ => .stuck) := by
 cases d with
 | int i => cases e with
  | int j => exact absurd ⟨rfl, rfl⟩ (hn i j)
  | _ => rfl
 | str i => cases e with
  | str j => exact absurd ⟨rfl, rfl⟩ (hs i j)
  | _ => rfl
 | _ => cases e <;> rfl
theorem NA (h1 : d.Pl) (h2 : d.ht <= 64) (k1 : e.Pl) (k2 : e.ht <= 64) : gR (.dat d) (.dat e) S = .ok (.dat (.bl (sX d e))) S := by
 obtain ⟨p, p1, _, _⟩ := wN d h1;obtain ⟨q, q1, _, _⟩ := wN e k1;have sh := DM h1 h2 p1 k1 k2 q1
 by_cases hn : ∃ i j, d = .int i /\ e = .int j
 ·obtain ⟨i, j, rfl, rfl⟩ := hn
  show Res.ok (Vl.dat (.bl (decide (i = j)))) S = _
  congr 3
 ·by_cases hs : ∃ i j, d = .str i /\ e = .str j
  ·obtain ⟨i, j, rfl, rfl⟩ := hs
   show Res.ok (Vl.dat (.bl (decide (i = j)))) S = _
   congr 3
  ·rw [fEqG (fun i j z => hn ⟨i, j, z⟩) (fun i j z => hs ⟨i, j, z⟩)]
   unfold sX;rw [p1, q1];dsimp only;rw [if_pos sh]
theorem fNeP (h1 : d.Pl) (h2 : d.ht <= 64) (k1 : e.Pl) (k2 : e.ht <= 64) : vW (.dat d) (.dat e) S = .ok (.dat (.bl (!sX d e))) S := by
 have h := NA (S := S) h1 h2 k1 k2
 by_cases hn : ∃ i j, d = .int i /\ e = .int j
 ·obtain ⟨i, j, rfl, rfl⟩ := hn
  have h : Res.ok (Vl.dat (.bl (decide (i = j)))) S = _ := h
  injection h with h _
  injection h with h
  injection h with h
  show Res.ok (Vl.dat (.bl (!decide (i = j)))) S = _
  rw [h]
 ·by_cases hs : ∃ i j, d = .str i /\ e = .str j
  ·obtain ⟨i, j, rfl, rfl⟩ := hs
   have h : Res.ok (Vl.dat (.bl (decide (i = j)))) S = _ := h
   injection h with h _
   injection h with h
   injection h with h
   show Res.ok (Vl.dat (.bl (!decide (i = j)))) S = _
   rw [h]
  ·obtain ⟨p, p1, _, _⟩ := wN d h1
   obtain ⟨q, q1, _, _⟩ := wN e k1;have sh := DM h1 h2 p1 k1 k2 q1;have g : vW (.dat d) (.dat e) S = (match D.py d, D.py e with
     | some p, some q => if Iv p q = true then Res.ok (Vl.dat (.bl (!PyData.eqv p q))) S else .stuck
     | _, _ => .stuck) := by
    cases d with
    | int i => cases e with
     | int j => exact absurd ⟨_, _, rfl, rfl⟩ hn
     | _ => rfl
    | str i => cases e with
     | str j => exact absurd ⟨_, _, rfl, rfl⟩ hs
     | _ => rfl
    | _ => cases e <;> rfl
   rw [g];unfold sX;rw [p1, q1];dsimp only;rw [if_pos sh]
theorem EX {x : PH.D} {p : PyData} (hp : D.py x = some p) : ∀ {xs : List PH.D} {qs : List PyData}, D.pys xs = some qs -> (qs.any fun z => PyData.eqv z p) = xs.any fun z => sX z x
 | [], qs, h => by
  cases h;rfl
 | y :: ys, qs, h => by
  rw [D.pys] at h;cases a : D.py y with
  | none => rw [a] at h; cases h
  | some q =>
   rw [a] at h;cases b : D.pys ys with
   | none => rw [b] at h; cases h
   | some rs =>
    rw [b] at h;cases h;rw [DB, DB, EX hp b]
    congr 1
    unfold sX;rw [a, hp]
theorem N9 {neg : Bool} {x : PH.D} {xs : List PH.D} (h1 : x.Pl) (h2 : x.ht <= 64) (k1 : (PH.D.lst xs).Pl) (k2 : (PH.D.lst xs).ht <= 64) : wA neg (.dat x) (.dat (.lst xs)) S = .ok (.dat (.bl (if neg then !(xs.any fun z => sX z x) else (xs.any fun z => sX z x)))) S := by
 obtain ⟨p, p1, _, _⟩ := wN x h1;obtain ⟨qs, q1, _, _⟩ := zA xs k1.2;have q2 : D.py (.lst xs) = some (.list qs) := by simp only [D.py, q1]
 have sh := DM h1 h2 p1 k1 k2 q2
 show (match D.py x, D.py (.lst xs) with
  | some p, some (.list qs) => if Iv p (.list qs) = true then Res.ok (Vl.dat (.bl (if neg then !(qs.any fun z => PyData.eqv z p) else (qs.any fun z => PyData.eqv z p)))) S else .stuck
  | _, _ => .stuck) = _
 rw [p1, q2];dsimp only;rw [if_pos sh, EX p1 q1]
end
def wB (xs ys : List PH.D) : Bool := match D.pys xs, D.pys ys with
 | some a, some b => PyData.eqvAll a b
 | _, _ => false
theorem Kc {xs ys : List PH.D} : sX (.lst xs) (.lst ys) = wB xs ys := by
 unfold sX wB;simp only [D.py];cases D.pys xs <;> cases D.pys ys <;> simp [PyData.eqv]
theorem sL {xs ys : List PH.D} : sX (.tup xs) (.tup ys) = wB xs ys := by
 unfold sX wB;simp only [D.py];cases D.pys xs <;> cases D.pys ys <;> simp [PyData.eqv]
theorem fR {x y : PH.D} {xs ys : List PH.D} : wB (x :: xs) (y :: ys) = (sX x y && wB xs ys) := by
 unfold sX wB;simp only [D.pys];cases D.py x <;> cases D.py y <;> cases D.pys xs <;> cases D.pys ys <;> simp [PyData.eqvAll]
theorem zP : wB [] [] = true := rfl
theorem Eu {x : PH.D} {xs : List PH.D} : wB [] (x :: xs) = false := by
 unfold wB;simp only [D.pys];cases D.py x <;> cases D.pys xs <;> simp [PyData.eqvAll]
theorem Kb {x : PH.D} {xs : List PH.D} : wB (x :: xs) [] = false := by
 unfold wB;simp only [D.pys];cases D.py x <;> cases D.pys xs <;> simp [PyData.eqvAll]
def nv : PH.D -> Option Int
 | .int i => some i
 | .bl b => some (if b then 1 else 0)
 | _ => none
theorem zQ {a b : PH.D} {i j : Int} (ha : nv a = some i) (hb : nv b = some j) : sX a b = decide (i = j) := by
 cases a with
 | int x =>
  cases ha;cases b with
  | int y =>
   cases hb
   show ((i == j) : Bool) = _
   rw [gZ, beq_iff_eq, decide_eq_true_iff]
  | bl y =>
   cases hb
   show ((i == (if y then 1 else 0)) : Bool) = _
   rw [gZ, beq_iff_eq, decide_eq_true_iff]
  | _ => cases hb
 | bl x =>
  cases ha;cases b with
  | int y =>
   cases hb
   show (((if x then 1 else 0) == j) : Bool) = _
   rw [gZ, beq_iff_eq, decide_eq_true_iff]
  | bl y =>
   cases hb
   show ((x == y) : Bool) = _
   cases x <;> cases y <;> rfl
  | _ => cases hb
 | _ => cases ha
theorem Gz {a : PH.D} {i : Int} (h : nv a = some i) : a.Pl /\ a.ht = 0 := by
 cases a <;> cases h <;> exact ⟨trivial, rfl⟩
def ChD (cs : List (List Int)) (ch : List D) : Prop := ∀ {p : List Int} {S : aO}, p.length <= 100 -> wA false (.dat (tupI p)) (.dat (.lst ch)) S = .ok (.dat (.bl (decide (p ∈ cs)))) S
def EH (n : Nat) : Prop := ∀ {S : aO} {many : Int} {l : List Stt} {k : Nat} {path : List Int} {cs : List (List Int)} {ch : List D}, ChD cs ch -> LS S -> GdL many l k -> OkL many l k -> path.length + 2 * k <= 90 -> k + 1 <= n -> cF n [.dat (.lst (bB l)), .dat (tupI path), .dat (.lst ch)] S = .ok (.dat (.lst (bB (sI cs path 0 l)))) S
theorem Av {n : Nat} (ih : EH n) {many : Int} {k : Nat} {here : List Int} {cs : List (List Int)} {ch : List D} (hch : ChD cs ch) {a0 a1 a3 a4 a5 : Option Vl} (hp : here.length + 1 + 2 * k <= 90) (hk : k + 1 <= n) :
  ∀ (bs : List (List Stt)) (i : Nat) (T : aO) (c : Nat) (acc : List D), (∀ b ∈ bs, GdL many b k /\ OkL many b k) -> LS T -> T[c]? = some (.lst acc) -> acc.length + bs.length <= 100 ->
   loop (.tp [8, 9]) (cQ (cF n)) (bL i (bls bs)) [a0, a1, some (.dat (.lst ch)), a3, a4, a5, some (.dat (tupI here)), some (.cel c), none, none] T = .next [a0, a1, some (.dat (.lst ch)), a3, a4, a5, some (.dat (tupI here)), some (.cel c), none, none] (T.set c (.lst (acc ++ bls (vT cs here i bs))))
 | [], i, T, c, acc, _, ls, hat, _ => by
   obtain ⟨hc, e⟩ := aI.mp hat;rw [show vT cs here i [] = [] from rfl, show bls ([] : List (List Stt)) = [] from rfl, dD, <- e, F7]
   rfl
 | b :: r, i, T, c, acc, ho, ls, hat, hl => by
  obtain ⟨hg, hb⟩ := ho b (aL ..);have e1 := ih (path := here ++ [(i : Int)]) (cs := cs) hch ls hg hb (by simp; omega) hk
  simp only [aM] at hl;have el : loop (.tp [8, 9]) (cQ (cF n)) (bL i (bls (b :: r))) [a0, a1, some (.dat (.lst ch)), a3, a4, a5, some (.dat (tupI here)), some (.cel c), none, none] T = (match cQ (cF n) [a0, a1, some (.dat (.lst ch)), a3, a4, a5, some (.dat (tupI here)), some (.cel c), some (.dat (.int (i : Nat))), some (.dat (.lst (bB b)))] T with
   | .next ρ2 S2 => loop (.tp [8, 9]) (cQ (cF n)) (bL (i + 1) (bls r)) ρ2 S2
   | .cnt ρ2 S2 => loop (.tp [8, 9]) (cQ (cF n)) (bL (i + 1) (bls r)) ρ2 S2
   | .brk ρ2 S2 => .next ρ2 S2
   | .ret d S2 => .ret d S2
   | .err e ρ2 S2 => .err e ρ2 S2
   | .stuck => .stuck) := rfl
  have e2 := Av ih (many := many) (cs := cs) hch (a0 := a0) (a1 := a1) (a3 := a3) (a4 := a4) (a5 := a5) hp hk r (i + 1) (T.set c (.lst (acc ++ [.lst (bB (sI cs (here ++ [(i : Int)]) 0 b))]))) c (acc ++ [.lst (bB (sI cs (here ++ [(i : Int)]) 0 b))]) (fun b hb => ho b (aK _ hb)) ls.set (fO hat) (by simp; omega)
  rw [el, cQ];simp! [iC (show here.length <= 100 by omega), lA hat, e1, lZ hat (show acc.length < sizeLine from eU (show acc.length <= 100 by omega) (by decide))]
  rw [<- cQ, e2, jB];simp [bls, vT]
theorem zO {n : Nat} (ih : EH n) {S : aO} {many : Int} {k : Nat} {path : List Int} {cs : List (List Int)} {ch : List D} (hch : ChD cs ch) {a0 : Option Vl} (hp : path.length + 2 * k <= 90) (hk : k <= n) :
  ∀ (l : List Stt) (i : Nat) (T : aO) (c : Nat) (acc : List Stt), GdL many l k -> OkL many l k -> On S T -> S.length <= c -> T[c]? = some (.lst (bB acc)) -> acc.length + l.length <= 100 ->
   ∃ (T' : aO), loop (.tp [4, 5]) (dR (cF n)) (bL i (bB l)) [a0, some (.dat (tupI path)), some (.dat (.lst ch)), some (.cel c), none, none, none, none, none, none] T = .next [a0, some (.dat (tupI path)), some (.dat (.lst ch)), some (.cel c), none, none, none, none, none, none] T' /\ On S T' /\ T'[c]? = some (.lst (bB (acc ++ sI cs path i l)))
 | [], i, T, c, acc, _, _, on, hc, hat, _ => ⟨T, rfl, on, by rw [show sI cs path i [] = [] from rfl, dD]; exact hat⟩
 | s :: r, i, T, c, acc, hg, ho, on, hc, hat, hl => by
  simp only [aM] at hl;have hno := ho.1.1.no;have hcl : c < T.length := (aI.mp hat).1;have hi : ∀ {S : aO}, cL (.dat s.d) (.dat (.int 0)) S = .ok (.dat (.str s.word)) S := uE hno;have el : loop (.tp [4, 5]) (dR (cF n)) (bL i (bB (s :: r))) [a0, some (.dat (tupI path)), some (.dat (.lst ch)), some (.cel c), none, none, none, none, none, none] T = (match dR (cF n) [a0, some (.dat (tupI path)), some (.dat (.lst ch)), some (.cel c), some (.dat (.int (i : Nat))), some (.dat s.d), none, none, none, none] T with
   | .next ρ2 S2 => loop (.tp [4, 5]) (dR (cF n)) (bL (i + 1) (bB r)) ρ2 S2
   | .cnt ρ2 S2 => loop (.tp [4, 5]) (dR (cF n)) (bL (i + 1) (bB r)) ρ2 S2
   | .brk ρ2 S2 => .next ρ2 S2
   | .ret d S2 => .ret d S2
   | .err e ρ2 S2 => .err e ρ2 S2
   | .stuck => .stuck) := rfl
  -- the blocks
  have hbk : ∀ b ∈ s.blocks, 0 < k /\ GdL many b (k - 1) /\ OkL many b (k - 1) := fun b hb => by
   obtain ⟨h1, h2⟩ := iP ho.1.1 b hb;refine ⟨h1, ?_, h2⟩
   have g := hg.1;cases s with
   | keep x => rw [bK.mp hb]; exact g.2
   | again x => rw [bK.mp hb]; exact g.2
   | either x y =>
    simp only [Stt.blocks, bN, gL, or_false] at hb;rcases hb with rfl | rfl
    ·exact g.2.1
    ·exact g.2.2
   | call _ _ x y =>
    simp only [Stt.blocks, bN, gL, or_false] at hb;rcases hb with rfl | rfl
    ·exact g.2.1
    ·exact g.2.2
   | _ => cases hb
  have hT : (T ++ [Cell.lst []])[T.length]? = some (.lst []) := by simp
  have e1 : loop (.tp [8, 9]) (cQ (cF n)) (bL 0 (bls s.blocks)) [a0, some (.dat (tupI path)), some (.dat (.lst ch)), some (.cel c), some (.dat (.int (i : Nat))), some (.dat s.d), some (.dat (tupI (path ++ [(i : Int)]))), some (.cel T.length), none, none] (T ++ [.lst []]) = .next [a0, some (.dat (tupI path)), some (.dat (.lst ch)), some (.cel c), some (.dat (.int (i : Nat))), some (.dat s.d), some (.dat (tupI (path ++ [(i : Int)]))), some (.cel T.length), none, none] (T ++ [.lst (bls (vT cs (path ++ [(i : Int)]) 0 s.blocks))]) := by
   by_cases hb0 : s.blocks = []
   ·rw [hb0]
    rfl
   ·have hk0 : 0 < k := by
     cases q : s.blocks with
     | nil => exact absurd q hb0
     | cons b bs => exact (hbk b (by rw [q]; exact aL ..)).1
    have e := Av ih (many := many) (k := k - 1) (here := path ++ [(i : Int)]) (cs := cs) hch (a0 := a0) (a1 := some (.dat (tupI path))) (a3 := some (.cel c)) (a4 := some (.dat (.int (i : Nat)))) (a5 := some (.dat s.d)) (by simp; omega) (by omega) s.blocks 0 (T ++ [.lst []]) T.length [] (fun b hb => (hbk b hb).2) on.ls.app hT (by have := nC (s := s); simp; omega)
    rw [e];simp
  generalize hfx : vT cs (path ++ [(i : Int)]) 0 s.blocks = bs' at e1;have hat1 : (T ++ [Cell.lst (bls bs')])[c]? = some (.lst (bB acc)) := by rw [aQ hcl]; exact hat
  have hat2 : (T ++ [Cell.dead])[c]? = some (.lst (bB acc)) := by rw [aQ hcl]; exact hat
  have frz : Jf (.cel T.length) (T ++ [.lst (bls bs')]) = .ok (.dat (.lst (bls bs'))) (T ++ [.dead]) := by
   rw [pW (n := T.length) (ds := bls bs') (by simp)]
   simp
  -- behind the statement
  have fin : ∀ s' : Stt, s' = GE cs (path ++ [(i : Int)]) s -> ∃ (T' : aO), loop (.tp [4, 5]) (dR (cF n)) (bL (i + 1) (bB r)) [a0, some (.dat (tupI path)), some (.dat (.lst ch)), some (.cel c), none, none, none, none, none, none] ((T ++ [Cell.dead]).set c (.lst (bB acc ++ [s'.d]))) = .next [a0, some (.dat (tupI path)), some (.dat (.lst ch)), some (.cel c), none, none, none, none, none, none] T' /\ On S T' /\ T'[c]? = some (.lst (bB (acc ++ sI cs path i (s :: r)))) := by
   intro s' fs;have onD : On S (T ++ [.dead]) := ⟨fun x hx m => by
    rcases bF.mp hx with hx | hx
    ·exact on.ls x hx m
    ·rw [bK.mp hx]; rfl, by have := on.len; simp; omega, by rw [gT on.len]; exact on.tak⟩
   rw [show bB acc ++ [s'.d] = bB (acc ++ [s']) by rw [iB]; rfl]
   obtain ⟨T', g1, g2, g3⟩ := zO ih (S := S) (many := many) (cs := cs) hch (a0 := a0) hp hk r (i + 1) ((T ++ [Cell.dead]).set c (.lst (bB (acc ++ [s'])))) c (acc ++ [s']) hg.2 ho.2 (onD.set hc) hc (fO hat2) (by simp; omega)
   exact ⟨T', g1, g2, by rw [g3, show sI cs path i (s :: r) = s' :: sI cs path (i + 1) r by rw [fs]; rfl]; simp⟩
  have hfl : (bB acc).length < sizeLine := by rw [cH]; exact sz (by omega)
  cases hcall : s.isCall with
  | true =>
   cases s with
   | call g f a b =>
    obtain ⟨a', ha'⟩ : ∃ x, x = sI cs (path ++ [(i : Int)] ++ [((0 : Nat) : Int)]) 0 a := ⟨_, rfl⟩;obtain ⟨b', hb'⟩ : ∃ x, x = sI cs (path ++ [(i : Int)] ++ [((1 : Nat) : Int)]) 0 b := ⟨_, rfl⟩;have hbs : bs' = [a', b'] := by rw [<- hfx, ha', hb']; rfl
    subst hbs;have hin := hch (p := path ++ [(i : Int)]) (S := T ++ [.lst (bls [a', b'])]) (by simp; omega)
    obtain ⟨T', g1, g2, g3⟩ := fin (.call g (decide (path ++ [(i : Int)] ∈ cs)) a' b') (by rw [ha', hb']; rfl)
    refine ⟨T', ?_, g2, g3⟩
    have ap := lZ (d := .tup [.str "call", .int g, .bl (decide (path ++ [(i : Int)] ∈ cs)), .lst (bls [a', b'])]) hat2 hfl;rw [el, dR];simp only [Stt.d] at e1 hi ap g1 ⊢;have bo := fun {S : aO} => lC (S := S) (s := .call g f a b) hno
    simp only [Stt.d] at bo;simp! [iC (show path.length <= 100 by omega), bO, bo, e1, hi, Stt.word, lA hat1, pT, hin, frz, ap]
    rw [<- dR];exact g1
   | _ => cases hcall
  | false =>
   have e2 := withX (S := T ++ [.dead]) (cs := cs) (h := path ++ [(i : Int)]) hg.1 hcall;rw [hfx] at e2;obtain ⟨T', g1, g2, g3⟩ := fin _ rfl;refine ⟨T', ?_, g2, g3⟩
   have hw : decide (s.word = ("call" : Str)) = false := by
    have := pA (s := s);rw [hcall] at this;exact this
   have ap := lZ (d := (GE cs (path ++ [(i : Int)]) s).d) hat2 hfl;rw [el, dR];simp! [iC (show path.length <= 100 by omega), lC hno, e1, hi, hw, lA hat1, frz, e2, ap]
   rw [<- dR];exact g1
theorem Fu (n : Nat) : EH n := by
 induction n with
 | zero => intro S many l k path cs ch _ _ _ _ _ h; omega
 | succ n ih =>
  intro S many l k path cs ch hch ls hg ho hp hk;rw [G6];unfold sM;obtain ⟨T, e, on, hat⟩ := zO ih (S := S) (many := many) (k := k) (path := path) (cs := cs) hch (a0 := some (.dat (.lst (bB l)))) hp (by omega) l 0 (S ++ [.lst []]) S.length [] hg ho ((On.refl ls).app) (bG _) (by simp; rfl) (by have := ho.len; simp; omega)
  rw [dC] at hat;simp! [e, pW hat];exact (on.kill (bG _)).trunc ls
def EN (f : Int -> PH.D) (a : List Int) : PH.D := .tup (a.map f)
def mT (f : Int -> PH.D) (c : kR) : PH.D := .tup [f c.1, EN f c.2]
def Ip (f : Int -> PH.D) (a : List Int) : Prop := ∀ x ∈ a, nv (f x) = some x
def CdG (f : Int -> PH.D) (cs : List kR) : Prop := ∀ c ∈ cs, nv (f c.1) = some c.1 /\ Ip f c.2 /\ c.2.length <= 900
def AK (f : Int -> PH.D) (cs : List kR) : PH.D := .lst (cs.map (mT f))
section
variable {f g : Int -> PH.D} {a b : List Int} {c d : kR} {cs ks : List kR} {S : aO}
theorem pN : Ip .int a := fun _ _ => rfl
theorem BM (h : Ip f a) (hl : a.length <= 1000) : (EN f a).Pl /\ (EN f a).ht <= 1 := Lj (k := 0) (by rw [bE]; exact hl) fun d hd => by
 obtain ⟨x, hx, rfl⟩ := aU.mp hd;obtain ⟨h1, h2⟩ := Gz (h x hx);exact ⟨h1, by omega⟩
theorem Bn (h : Ip f a) (k : Ip g b) : sX (EN f a) (EN g b) = decide (a = b) := by
 unfold EN;rw [sL]
 induction a generalizing b with
 | nil =>
  cases b with
  | nil => rfl
  | cons y b => rw [aN, aW, Eu]; simp
 | cons x a ih =>
  cases b with
  | nil => rw [aN, aW, Kb]; simp
  | cons y b =>
   rw [aN, aN, fR, zQ (h x (aL ..)) (k y (aL ..)), ih (fun z hz => h z (aK _ hz)) (fun z hz => k z (aK _ hz))]
   simp only [List.cons.injEq, Bool.decide_and]
theorem IK (h : nv (f c.1) = some c.1) (hN : Ip f c.2) (hl : c.2.length <= 900) : (mT f c).Pl /\ (mT f c).ht <= 2 := by
 obtain ⟨a1, a2⟩ := Gz h;obtain ⟨b1, b2⟩ := BM hN (by omega)
 refine ⟨⟨by simp, a1, b1, trivial⟩, ?_⟩
 show max (f c.1).ht (max (EN f c.2).ht 0) + 1 <= 2
 omega
theorem Bg (h : CdG f cs) (hl : cs.length <= 900) : (AK f cs).Pl /\ (AK f cs).ht <= 3 :=
 HC (by rw [bE]; omega) fun d hd => by
  obtain ⟨c, hc, rfl⟩ := aU.mp hd;exact IK (h c hc).1 (h c hc).2.1 (h c hc).2.2
theorem Bo (h : nv (f c.1) = some c.1) (hN : Ip f c.2) (k : nv (g d.1) = some d.1) (kN : Ip g d.2) : sX (mT f c) (mT g d) = decide (c = d) := by
 unfold mT;rw [sL, fR, fR, zP, zQ h k, Bn hN kN, hE];obtain ⟨c1, c2⟩ := c;obtain ⟨d1, d2⟩ := d;simp only [Prod.mk.injEq, Bool.decide_and]
theorem Ko (h : nv (f c.1) = some c.1) (hN : Ip f c.2) (k : CdG g ks) : ((ks.map (mT g)).any fun z => sX z (mT f c)) = decide (c ∈ ks) := by
 rw [gZ, qP, decide_eq_true_iff]
 constructor
 ·rintro ⟨z, hz, he⟩
  obtain ⟨d, hd, rfl⟩ := aU.mp hz;rw [Bo (k d hd).1 (k d hd).2.1 h hN] at he;rw [<- of_decide_eq_true he];exact hd
 ·intro hc
  exact ⟨_, nE hc, by rw [Bo (k c hc).1 (k c hc).2.1 h hN]; simp⟩
theorem Be {neg : Bool} (h : nv (f c.1) = some c.1) (hN : Ip f c.2) (hl : c.2.length <= 900) (k : CdG g ks) (kl : ks.length <= 900) : wA neg (.dat (mT f c)) (.dat (.lst (ks.map (mT g)))) S = .ok (.dat (.bl (if neg then !decide (c ∈ ks) else decide (c ∈ ks)))) S := by
 obtain ⟨a1, a2⟩ := IK h hN hl;obtain ⟨b1, b2⟩ := Bg k kl;have e := N9 (S := S) (neg := neg) a1 (by omega) b1 (show (PH.D.lst (ks.map (mT g))).ht <= 64 from lN b2 (by decide))
 rw [Ko h hN k] at e;exact e
theorem CdG.int {cs : List kR} (h : ∀ c ∈ cs, c.2.length <= 900) : CdG .int cs := fun c hc => ⟨rfl, pN, h c hc⟩
theorem Eh {neg : Bool} {y : Vl} (h : nv (f c.1) = some c.1) : vZ neg (.dat (mT f c)) y S = wA neg (.dat (mT f c)) y S := by
 unfold mT;cases q : f c.1 with
 | int i => rfl
 | bl b => rfl
 | _ => rw [q] at h; cases h
theorem chG {hs : List (List Int)} (hl : hs.length <= 900) (h : ∀ a ∈ hs, Ip f a /\ a.length <= 900) : ChD hs (hs.map (EN f)) := fun {p S} hp => by
 obtain ⟨a1, a2⟩ := BM (f := .int) (a := p) pN (by omega)
 obtain ⟨b1, b2⟩ := HC (k := 1) (ds := hs.map (EN f)) (by rw [bE]; omega) fun d hd => by
  obtain ⟨a, ha, rfl⟩ := aU.mp hd;exact BM (h a ha).1 (by have := (h a ha).2; omega)
 have e := N9 (S := S) (neg := false) a1 (by omega) b1 (by omega)
 have e2 : ((hs.map (EN f)).any fun z => sX z (EN .int p)) = decide (p ∈ hs) := by
  rw [gZ, qP, decide_eq_true_iff]
  constructor
  ·rintro ⟨z, hz, he⟩
   obtain ⟨a, ha, rfl⟩ := aU.mp hz;rw [Bn (h a ha).1 pN] at he;rw [<- of_decide_eq_true he];exact ha
  ·intro hc
   exact ⟨_, nE hc, by rw [Bn (h p hc).1 pN]; simp⟩
 rw [e2] at e;exact e
end
theorem yO {S : aO} {f : Int -> PH.D} {a0 a5 a6 a7 a8 : Option Vl} {ks cs : List kR} (hn : cs.Nodup) (hk : ∀ c ∈ cs, c ∈ ks) (hf : CdG f cs) (hks : CdG .int ks) (hl : cs.length <= 900) (kl : ks.length <= 900) : ∀ (n j : Nat), n + j = cs.length -> loop (.tp [3, 4]) bQ (bL j ((cs.drop j).map (mT f))) [a0, some (.dat (.lst (cs.map (mT f)))), some (.dat (.lst (ks.map cK))), none, none, a5, a6, a7, a8] S = .next [a0, some (.dat (.lst (cs.map (mT f)))), some (.dat (.lst (ks.map cK))), none, none, a5, a6, a7, a8] S
 | 0, j, h => by rw [List.drop_eq_nil_of_le (by omega)]; rfl
 | n + 1, j, h => by
  have hj : j < cs.length := by omega
  have ih := yO (S := S) (a0 := a0) (a5 := a5) (a6 := a6) (a7 := a7) (a8 := a8) hn hk hf hks hl kl n (j + 1) (by omega)
  have hin : cs[j] ∈ ks := hk _ (eO hj);have hnt : ¬ cs[j] ∈ cs.take j := fun hh => by
   have h4 := hn;rw [<- lX j cs, lF] at h4;exact h4.2.2 _ hh _ (by rw [jI hj]; exact aL ..) rfl
  obtain ⟨f1, f3, f2⟩ := hf _ (eO hj);have i1 := fun {S : aO} => Be (neg := true) (S := S) f1 f3 f2 hks kl
  have i2 := fun {S : aO} => Be (neg := false) (S := S) f1 f3 f2 (ks := cs.take j) (fun c hc => hf c (GD hc)) (by rw [AB]; omega)
  simp only [decide_eq_true hin, decide_eq_false hnt, if_true, Bool.not_true, wK, if_false, DE] at i1 i2;have i1' : ∀ {S : aO}, vZ true (.dat (mT f cs[j])) (.dat (.lst (ks.map cK))) S = .ok (.dat (.bl false)) S := fun {S} => by rw [Eh f1]; exact i1
  rw [jI hj, aN, bL, loop];simp only [lP, jW, aM, bM, if_true, aR, aP];rw [bQ];simp! [i1', Cn, i2];rw [<- bQ];exact ih
theorem yN {S : aO} {f : Int -> PH.D} {a0 a2 : Option Vl} {cs : List kR} {many : Int} (hf : CdG f cs) (hl : cs.length <= 900) : ∀ (bs : List (List Stt)) (i : Nat) (T : aO) (c : Nat) (acc : List (List Stt)), (∀ b ∈ bs, GdL many b 3 /\ OkL many b 3) -> On S T -> S.length <= c -> T[c]? = some (.lst (bls acc)) -> acc.length + bs.length <= 100 ->
  ∃ (T' : aO), loop (.tp [6, 7]) dB (bL i (bls bs)) [a0, some (.dat (.lst (cs.map (mT f)))), a2, none, none, some (.cel c), none, none, none] T = .next [a0, some (.dat (.lst (cs.map (mT f)))), a2, none, none, some (.cel c), none, none, none] T' /\ On S T' /\ T'[c]? = some (.lst (bls (acc ++ qQ cs i bs)))
 | [], i, T, c, acc, _, on, hc, hat, _ => ⟨T, rfl, on, by rw [show qQ cs i [] = [] from rfl, dD]; exact hat⟩
 | b :: r, i, T, c, acc, ho, on, hc, hat, hl2 => by
  simp only [aM] at hl2;obtain ⟨hg, hb⟩ := ho b (aL ..);have el : loop (.tp [6, 7]) dB (bL i (bls (b :: r))) [a0, some (.dat (.lst (cs.map (mT f)))), a2, none, none, some (.cel c), none, none, none] T = (match dB [a0, some (.dat (.lst (cs.map (mT f)))), a2, none, none, some (.cel c), some (.dat (.int (i : Nat))), some (.dat (.lst (bB b))), none] T with
   | .next ρ2 S2 => loop (.tp [6, 7]) dB (bL (i + 1) (bls r)) ρ2 S2
   | .cnt ρ2 S2 => loop (.tp [6, 7]) dB (bL (i + 1) (bls r)) ρ2 S2
   | .brk ρ2 S2 => .next ρ2 S2
   | .ret d S2 => .ret d S2
   | .err e ρ2 S2 => .err e ρ2 S2
   | .stuck => .stuck) := rfl
  have e0 : uD false (.nm 4) (mB (bC gR (bC cL (aD 4) (mC (.int 0))) (aD 6))) (bC cL (aD 4) (mC (.int 1))) [a0, some (.dat (.lst (cs.map (mT f)))), a2, none, none, some (.cel c), some (.dat (.int (i : Nat))), some (.dat (.lst (bB b))), none] [4] (cs.map (mT f)) T = .ok (.dat (.lst (((cs.filter fun x => decide (x.1 = (i : Int))).map (·.2)).map (EN f)))) T := by
   unfold uD;rw [bE, if_pos (sz (by omega)), nL (f := mT f) (g := fun x => EN f x.2) (p := fun x => decide (x.1 = (i : Int))) fun x hx => by
    obtain ⟨f1, f3, f2⟩ := hf x hx;obtain ⟨p1, p2⟩ := Gz f1;have q := NA (S := T) (d := f x.1) (e := .int (i : Int)) p1 (by omega) trivial (by show 0 <= 64; omega)
    rw [zQ f1 (show nv (.int (i : Int)) = some (i : Int) from rfl)] at q
    exact ⟨_, rfl, by simp! [mT, dH, q], by simp! [mT, pT]⟩]
   rw [gV];rfl
  obtain ⟨b', hb'⟩ : ∃ x, x = sI ((cs.filter fun x => decide (x.1 = (i : Int))).map (·.2)) [] 0 b := ⟨_, rfl⟩
  have e1 := Fu 10 (S := T) (path := []) (cs := (cs.filter fun x => decide (x.1 = (i : Int))).map (·.2)) (chG (f := f) (by rw [bE]; exact lN (iD ..) hl) fun h hh => by
   obtain ⟨x, hx, rfl⟩ := aU.mp hh;exact (hf x (nD.mp hx).1).2) on.ls hg hb (by simp) (by decide)
  rw [<- hb'] at e1;obtain ⟨T', g1, g2, g3⟩ := yN (S := S) (a0 := a0) (a2 := a2) hf hl r (i + 1) (T.set c (.lst (bls (acc ++ [b'])))) c (acc ++ [b']) (fun b hb => ho b (aK _ hb)) (on.set hc) hc (fO hat) (by simp; omega)
  refine ⟨T', ?_, g2, by rw [g3, show qQ cs i (b :: r) = b' :: qQ cs (i + 1) r by rw [hb']; rfl]; simp⟩
  have e1' : cF 10 [.dat (.lst (bB b)), .dat (.tup []), .dat (.lst (((cs.filter fun x => decide (x.1 = (i : Int))).map (·.2)).map (EN f)))] T = .ok (.dat (.lst (bB b'))) T := e1
  rw [el, dB];simp! [e0, lA hat, e1', lZ hat (show (bls acc).length < sizeLine by rw [mQ]; exact sz (by omega))]
  rw [<- dB, show bls acc ++ [.lst (bB b')] = bls (acc ++ [b']) by simp [bls]]
  exact g1
theorem vC {S : aO} {f : Int -> PH.D} {bs : List (List Stt)} {cs : List kR} (ls : LS S) (G : Good2 bs) (hn : cs.Nodup) (hs : ∀ c ∈ cs, c ∈ nU bs) (hl : cs.length <= 900) (hf : CdG f cs) : dE [.dat (cD bs), .dat (AK f cs)] S = .ok (.dat (cD (qQ cs 0 bs))) S := by
 have h3 := G.l3;have hk : ∀ b ∈ bs, OkL (bs.length : Int) b 3 /\ bH b <= 12 := fun b hb => ⟨G.ok b hb, (G.gd b hb).2.2.1⟩
 have hkl : (nU bs).length <= 36 := by
  have h2 : (nU bs).length <= (eB 0 bs).length := by rw [nU, bE]; exact iD ..
  have h4 := uX (bs := bs) (p := 0) (n := 12) fun b hb => (hk b hb).2
  have : 12 * bs.length <= 36 := by omega
  omega
 have ca := zZ (S := S) ls (show 3 <= 9 by omega) hk h3
 rw [Bq] at ca;have ck := yO (S := S) (a0 := some (.dat (cD bs))) (a5 := none) (a6 := none) (a7 := none) (a8 := none) hn hs hf (CdG.int fun c hc => by have := lV G c hc; omega) hl (by omega) cs.length 0 (by omega)
 rw [List.drop_zero] at ck;obtain ⟨T, e, on, hat⟩ := yN (S := S) (a0 := some (.dat (cD bs))) (a2 := some (.dat (.lst ((nU bs).map cK)))) hf hl bs 0 (S ++ [.lst []]) S.length [] (fun b hb => ⟨(G.gd b hb).1, G.ok b hb⟩) ((On.refl ls).app) (bG _) (by simp; rfl) (by simp; omega)
 rw [dC] at hat;have hfl : FlB bs (qQ cs 0 bs) := vA bs 0 fun b hb => (G.gd b hb).1
 have mk := zH (S := T.set S.length .dead) (on.kill (bG _)).ls (hfl.good G);have hi : ∀ S, lT S "Book" "calls" (.dat (cD bs)) = true := fun _ => rfl
 rw [kS];unfold eM AK;have fo : ∀ S, HM "Book" "own" (.dat (cD bs)) S = .ok (.dat (.lst (bls bs))) S := fun _ => rfl
 simp! [pV (hi S), ca, ck, fo, e, pW hat, mk];exact (on.kill (bG _)).trunc ls
theorem Gj {n : Nat} : gN 0 n = ((dG n).map fun k => ((k : Nat) : Int)).map D.int := by
 simp [gN]
structure Dn (S : aO) (p N : Nat) (bs : List (List Stt)) (T : aO) : Prop where
 ls : LS T
 len : S.length + 2 <= T.length
 pool : ∃ ks, T[p]? = some (PL ks) /\ ks.length = N
 bod : T[S.length + 1]? = some (.lst (bls bs))
 old : ∀ i, i < S.length -> i ≠ p -> T[i]? = S[i]?
theorem ED {S : aO} {p : Nat} {ks : List Int} {most size : Int} (hP : PoolAt S p ks) (ls : LS S) (m1 : 1 <= most) (m3 : most <= 3) (z3 : 3 <= size) (z8 : size <= 8) :
  ∃ (bs : List (List Stt)) (T : aO), pP [.cel p, .dat (.int most), .dat (.int size)] S = .ok (.cel (S.length + 1)) T /\ Good bs /\ Dn S p ks.length bs T := by
 obtain ⟨d1, k1, e1, h10, h11, l1⟩ := eN hP (k := 6) (by decide) (by decide)
 obtain ⟨d2, k2, e2, h20, h21, l2⟩ := eN (hP.next l1) (k := 8) (by decide) (by decide)
 obtain ⟨d3, k3, e3, h30, h31, l3⟩ := eN ((hP.next l1).next l2) (k := most) (by omega) (by omega)
 simp only [jB] at e2 e3;have hp : p < S.length := (aI.mp hP.1).1;have P3 : PoolAt (S.set p (PL k3)) p k3 := ⟨fO hP.1, by have := hP.2; omega⟩
 have ls3 : LS (S.set p (PL k3)) := ls.set;have hS3 : (S.set p (PL k3)).length = S.length := by simp
 rw [EJ];unfold qB;simp! [e1, e2, e3, gG (show -(2 ^ 62) <= 1 + d3 by omega) (show 1 + d3 < 2 ^ 62 by omega), AS, bO]
 have B : Bk p S.length k3.length S (1 + d3) 4 [] (S.set p (PL k3) ++ [PL [4, 1 + d3]] ++ [.lst []]) := by
  refine ⟨ls3.app.app, by have := hP.2; omega, hp, by simp, ⟨k3, ?_, rfl⟩, ?_, ?_, fun i hi hip => ?_⟩
  ·rw [oI (by simp; omega), oI (by simp; omega)]; exact P3.1
  ·rw [oI (by simp), <- hS3]; simp
  ·rw [show S.length + 1 = (S.set p (PL k3) ++ [PL [4, 1 + d3]]).length by simp]; simp [bls]
  ·rw [oI (by simp; omega), oI (by simp; omega), jK (Ne.symm hip)]
 obtain ⟨bs, T, l, e, B', g, nb⟩ := wG (p := p) (most := most) (wild := decide (d2 = 0)) (mood := d1) h10 (by omega) (by omega) (by omega) z3 z8 (1 + d3).toNat 0 [] _ 4 B (by omega) (by simp; omega) (fun b hb => nomatch hb)
 have nb' : bs.length = (1 + d3).toNat := by rw [nb]; simp
 have hm : (bs.length : Int) = 1 + d3 := by omega
 rw [show ([PL [4, 1 + d3]] : aO) = [.lst [.int 4, .int (1 + d3)]] from rfl, show PL k3 = .lst (k3.map D.int) from rfl, show mU = pB from rfl] at e
 simp! [e];obtain ⟨ks', hk, hkl⟩ := B'.pool;refine ⟨bs, T, rfl, ⟨by omega, by omega, fun b hb => ?_⟩, B'.ls, B'.len, ⟨ks', hk, by omega⟩, B'.bod, B'.old⟩
 have := (g b hb).2;rw [hm];exact ⟨(g b hb).1, by omega⟩
theorem Dn.put {S T : aO} {p N : Nat} {bs bs' : List (List Stt)} (h : Dn S p N bs T) (hp : p < S.length) : Dn S p N bs' (T.set (S.length + 1) (.lst (bls bs'))) := by
 obtain ⟨ks, h1, h2⟩ := h.pool;exact ⟨h.ls.set, by rw [AS]; exact h.len, ⟨ks, by rw [jK (by omega)]; exact h1, h2⟩, fO h.bod, fun i hi hip => by rw [jK (by omega)]; exact h.old i hi hip⟩
theorem Good2.more {b : List Stt} {r : List (List Stt)} {f : Bool} (G : Good2 (b :: r)) (h8 : b.length < 8) (h12 : bH b < 12) : Good2 ((b ++ [.call 0 f [] []]) :: r) := by
 refine ⟨by simp, by have := G.l3; simpa using this, fun b' hb' => ?_⟩
 have hl1 := G.l1;rcases bN.mp hb' with rfl | hb'
 ·obtain ⟨g1, g2, g3, g4⟩ := G.gd b (aL ..)
  have ga : GdL (((b :: r).length : Nat) : Int) [.call 0 f [] []] 3 := ⟨⟨⟨by omega, by omega, by simp only [aM]; omega⟩, trivial, trivial⟩, trivial⟩
  have app : ∀ {l m : List Stt} {many : Int} {k : Nat}, GdL many l k -> GdL many m k -> GdL many (l ++ m) k := by
   intro l
   induction l with
   | nil => intro m many k _ h; exact h
   | cons s t ih => intro m many k h h'; exact ⟨h.1, ih h.2 h'⟩
  refine ⟨by simpa using app g1 ga, by simp; omega, by rw [fM]; simp [bH, Stt.size]; omega, fun s hs => ?_⟩
  rcases bF.mp hs with hs | hs
  ·exact g4 s hs
  ·rw [bK.mp hs]; simp [Stt.size, bH]
 ·exact by simpa using G.gd b' (aK _ hb')
theorem pY {S : aO} {p N : Nat} {a0 a1 : Option Vl} (hp : p < S.length) : ∀ (is : List Int) (T : aO) (bs : List (List Stt)), Dn S p N bs T -> Good2 bs -> ∃ (bs' : List (List Stt)) (T' : aO),
  loop (.nm 3) hJ (is.map D.int) [a0, a1, some (.cel (S.length + 1)), none] T = .next [a0, a1, some (.cel (S.length + 1)), none] T' /\ Dn S p N bs' T' /\ Good2 bs'
 | [], T, bs, h, G => ⟨bs, T, rfl, h, G⟩
 | i :: is, T, bs, h, G => by
  have hat := h.bod;cases bs with
  | nil => have := G.l1; simp at this
  | cons b r =>
   obtain ⟨g1, g2, g3, g4⟩ := G.gd b (aL ..);have ho := G.ok b (aL ..);have hix : atI (bls (b :: r)) 0 = some (.lst (bB b)) := Ih;have e1 := Cz 10 (S := T) (path := []) h.ls ho (by omega) (by simp) (by omega)
   rw [show tupI [] = D.tup [] from rfl] at e1
   rw [aN, loop];simp only [lP, aR, aP];rw [hJ];simp! [Ek hat hix, cH]
   by_cases h8 : (b.length : Int) < 8
   ·simp! [decide_eq_true h8, Ek hat hix, e1, pK, dQ]
    by_cases h12 : (bH b : Int) < 12
    ·have e2 := JB (a := bC (cZ false) (bC cL (aD 2) (mC (.int 0))) (cM false (aB (bW (aB (mC (.str "call")) (aB (mC (.int 0)) (aB (bC gR (aD 3) (mC (.int 1))) (aB (cM false (aB (cM false aJ) (aB (cM false aJ) aJ))) aJ))))) aJ))) (o := aD 2) (i := mC (.int 0)) (ρ := [a0, a1, some (.cel (S.length + 1)), some (.dat (.int i))]) (S := T) (d := .lst (bB (b ++ [.call 0 (decide (i = 1)) [] []]))) (by
       have ha : ∀ S, cZ false (.dat (.lst (bB b))) (.dat (.lst [.tup [.str "call", .int 0, .bl (decide (i = 1)), .lst [.lst [], .lst []]]])) S = .ok (.dat (.lst (bB (b ++ [.call 0 (decide (i = 1)) [] []])))) S := fun S => by
        rw [jO (sz (by rw [cH]; simp; omega)), iB]; rfl
       simp! [Ek hat hix, ha]) rfl rfl hat rfl (by simp [bls])
     have hset : (bls (b :: r)).set 0 (.lst (bB (b ++ [.call 0 (decide (i = 1)) [] []]))) = bls ((b ++ [.call 0 (decide (i = 1)) [] []]) :: r) := rfl;rw [hset] at e2;simp! [decide_eq_true h12, e2];rw [<- hJ];exact pY hp is _ _ (h.put hp) (G.more (by omega) (by omega))
    ·simp! [decide_eq_false h12]
     rw [<- hJ];exact pY hp is T (b :: r) h G
   ·simp! [decide_eq_false h8]
    rw [<- hJ];exact pY hp is T (b :: r) h G
theorem EA {S : aO} {p n : Nat} {ks : List Int} (hP : PoolAt S p ks) (ls : LS S) (hn : n <= 10) : ∃ (bs : List (List Stt)) (ks' : List Int), sF [.cel p, .dat (.int (n : Int))] S = .ok (.dat (.lst (bls bs))) (S.set p (PL ks')) /\ Good2 bs /\ ks'.length = ks.length := by
 have hp : p < S.length := (aI.mp hP.1).1;obtain ⟨bs0, T0, e0, G0, D0⟩ := ED hP ls (most := 3) (size := 7) (by decide) (by decide) (by decide) (by decide)
 obtain ⟨bs, T, e1, D1, G1⟩ := pY (a0 := some (.cel p)) (a1 := some (.dat (.int (n : Int)))) hp ((dG n).map fun k => ((k : Nat) : Int)) T0 bs0 D0 G0.two
 obtain ⟨ks', hk, hkl⟩ := D1.pool;have hlen := D1.len;have et : (T.set (S.length + 1) Cell.dead).take S.length = S.set p (PL ks') := by
  apply lE
  intro i;rw [dO]
  by_cases hi : i < S.length
  ·rw [if_pos hi, jK (by omega)]
   by_cases hip : i = p
   ·rw [hip, hk, fO hP.1]
   ·rw [jK (Ne.symm hip)]; exact D1.old i hi hip
  ·rw [if_neg hi, List.getElem?_eq_none (by simp; omega)]
 have rg : ∀ T, zL (.dat (.int (n : Int))) T = .ok (((dG n).map fun k => ((k : Nat) : Int)).map D.int) T := fun T => by rw [gG (by omega) (by omega), cG, Gj]
 refine ⟨bs, ks', ?_, G1, hkl⟩
 rw [G8];unfold sP;simp! [e0, rg, e1, pW D1.bod]
 show trunc S.length (.ok (.dat (.lst (bls bs))) (T.set (S.length + 1) Cell.dead)) = _
 dsimp only [trunc];rw [et];have : ((S.set p (PL ks')).all fun c => c.below S.length) = true := bZ.mpr fun c hc => (LS.set ls : LS (S.set p (PL ks'))) c hc _
 simp only [Vl.below, this, DD, if_true]
def InCh (S : aO) (cv : Vl) (cs : List kR) : Prop := ∀ T : aO, S.length <= T.length -> T.take S.length = S -> ∀ p : kR, wA false (.dat (cK p)) cv T = .ok (.dat (.bl (decide (p ∈ cs)))) T
theorem InCh.dat {S : aO} {cs : List kR} : InCh S (.dat (plcsD cs)) cs := fun T _ _ p => rL (neg := false)
theorem InCh.cel {S : aO} {q : Nat} {cs : List kR} (h : S[q]? = some (.lst (cs.map cK))) : InCh S (.cel q) cs := fun T h1 h2 p => by
 have hq : q < S.length := (aI.mp h).1;have e : T[q]? = some (.lst (cs.map cK)) := by
  rw [<- h2, dO, if_pos hq] at h;exact h
 have k := rL (neg := false) (c := p) (cs := cs) (S := T);have r : wA false (.dat (cK p)) (.cel q) T = wA false (.dat (cK p)) (.dat (.lst (cs.map cK))) T := by
  unfold wA;have e2 : xG T (.cel q) = xG T (.dat (.lst (cs.map cK))) := by
   show (match T[q]? with | some (.lst xs) => D.py (.lst xs) | some (.lv xs) => _ | _ => none) = _
   rw [e];rfl
  rw [e2]
 rw [r];exact k
theorem InCh.sub {S T : aO} {cv : Vl} {cs : List kR} (h : InCh S cv cs) (h1 : S.length <= T.length) (h2 : T.take S.length = S) : InCh T cv cs := fun R k1 k2 p => h R (by omega) (by
 have e : R.take S.length = (R.take T.length).take S.length := by rw [List.take_take, Nat.min_eq_left h1]
 rw [e, k2, h2]) p
def LF2 (n : Nat) : Prop := ∀ {S : aO} {many i : Int} {l : List Stt} {k : Nat} {path : List Int} {cs : List kR} {cv : Vl}, LS S -> InCh S cv cs -> GdL many l k -> OkL many l k -> path.length + 2 * k <= 90 -> k + 1 <= n ->
 cU n [.dat (.lst (bB l)), .dat (.int i), .dat (tupI path), cv] S = .ok (.dat (.lst (bB (sI (pC cs i) path 0 l)))) S
theorem Kt {s : Stt} {S : aO} {many : Int} {k : Nat} {cs : List (List Int)} {h : List Int} (ho : s.Gd many k) (hc : s.isCall = false) : lR [.dat s.d, .dat (.lst (bls (vT cs h 0 s.blocks)))] S = .ok (.dat (GE cs h s).d) S := by
 rw [show lR [.dat s.d, .dat (.lst (bls (vT cs h 0 s.blocks)))] S = cS (oX [some (.dat s.d), some (.dat (.lst (bls (vT cs h 0 s.blocks))))] S) from rfl]
 unfold oX;cases s with
 | bad => exact ho.elim
 | odd x => exact ho.elim
 | call g f a b => cases hc
 | cmd c => cases c <;> (simp! [Stt.d, Cmd.d, Stt.blocks, vT, bls, aW, dH]; rfl)
 | fin w => simp! [Stt.d, Stt.blocks, vT, bls, aW, dH]; rfl
 | keep b => simp! [Stt.d, Stt.blocks, vT, bls, aN, aW, dH]; rfl
 | again b => simp! [Stt.d, Stt.blocks, vT, bls, aN, aW, dH]; rfl
 | either a b => simp! [Stt.d, Stt.blocks, vT, bls, aN, aW, dH]; rfl
theorem IE {cs : List (List Int)} {h : List Int} : ∀ (bs : List (List Stt)) (i : Nat), bls (vT cs h i bs) = (dG bs.length).map fun j => D.lst (bB (sI cs (h ++ [((i + j : Nat) : Int)]) 0 (bs.getD j [])))
 | [], i => rfl
 | b :: r, i => by
  rw [aM, EK, aN, gV]
  show D.lst (bB (sI cs (h ++ [(i : Int)]) 0 b)) :: bls (vT cs h (i + 1) r) = _
  rw [IE r (i + 1)]
  congr 1
  refine jR fun j _ => ?_
  show _ = D.lst (bB (sI cs (h ++ [((i + (j + 1) : Nat) : Int)]) 0 (r.getD j [])))
  rw [show i + 1 + j = i + (j + 1) by omega]
section
variable {S T : aO} {many i : Int} {k c at_ n : Nat} {path : List Int} {cs : List kR} {cv : Vl} {l0 : List Stt} {s : Stt} {acc : List Stt}
theorem HG (ih : LF2 n) (hp : path.length + 2 * k <= 90) (hk : k <= n) (hs : l0[at_]? = some s) (hg : s.Gd many k) (ho : s.Ok many k) (ic : InCh S cv cs) (on : On S T) (hc : S.length <= c) (hat : T[c]? = some (.lst (bB acc))) (hl : acc.length <= 100) :
  eS (cU n) [some (.dat (.lst (bB l0))), some (.dat (.int i)), some (.dat (tupI path)), some cv, some (.cel c), some (.dat (.int (at_ : Int))), none, none, none, none] T = .next [some (.dat (.lst (bB l0))), some (.dat (.int i)), some (.dat (tupI path)), some cv, some (.cel c), none, none, none, none, none] (T.set c (.lst (bB (acc ++ [GE (pC cs i) (path ++ [(at_ : Int)]) s])))) := by
 have hix : atI (bB l0) (at_ : Int) = some s.d := by
  rw [dM (n := at_) rfl, nA, cY, hs];rfl
 have hfl : (bB acc).length < sizeLine := by rw [cH]; exact sz (by omega)
 have ap := lZ (d := (GE (pC cs i) (path ++ [(at_ : Int)]) s).d) hat hfl;rw [show bB acc ++ [(GE (pC cs i) (path ++ [(at_ : Int)]) s).d] = bB (acc ++ [GE (pC cs i) (path ++ [(at_ : Int)]) s]) by rw [iB]; rfl] at ap
 obtain ⟨R, hR⟩ : ∃ R, R = T.set c (.lst (bB (acc ++ [GE (pC cs i) (path ++ [(at_ : Int)]) s]))) := ⟨_, rfl⟩;rw [<- hR] at ap ⊢;have hi : ∀ {S : aO}, cL (.dat s.d) (.dat (.int 0)) S = .ok (.dat (.str s.word)) S := uE ho.no;have apth := fun {S : aO} => iC (cl := false) (p := path) (i := (at_ : Int)) (S := S) (by omega)
 have bo := A7 (s := s) (S := T) ho.no;have hbk : ∀ b ∈ s.blocks, 0 < k /\ GdL many b (k - 1) /\ OkL many b (k - 1) := fun b hb => by
  obtain ⟨h1, h2⟩ := iP ho b hb;refine ⟨h1, ?_, h2⟩
  cases s with
  | keep x => rw [bK.mp hb]; exact hg.2
  | again x => rw [bK.mp hb]; exact hg.2
  | either x y =>
   simp only [Stt.blocks, bN, gL, or_false] at hb;rcases hb with rfl | rfl
   ·exact hg.2.1
   ·exact hg.2.2
  | call _ _ x y =>
   simp only [Stt.blocks, bN, gL, or_false] at hb;rcases hb with rfl | rfl
   ·exact hg.2.1
   ·exact hg.2.2
  | _ => cases hb
 have few := nC (s := s);have hl8 : eP (.dat (.lst (bls s.blocks))) T = .ok (.dat (.int (s.blocks.length : Int))) T := by
  show Res.ok (Vl.dat (.int ((bls s.blocks).length : Int))) T = _
  rw [mQ]
 have rg : zL (.dat (.int (s.blocks.length : Int))) T = .ok ((dG s.blocks.length).map Iy) T := by
  rw [gG (by omega) (by omega), cG, Gi]
 have lc : uD false (.nm 9) lS (jG (cU n)) [some (.dat (.lst (bB l0))), some (.dat (.int i)), some (.dat (tupI path)), some cv, some (.cel c), some (.dat (.int (at_ : Int))), some (.dat s.d), some (.dat (tupI (path ++ [(at_ : Int)]))), some (.dat (.lst (bls s.blocks))), none] [9] ((dG s.blocks.length).map Iy) T =
   .ok (.dat (.lst (bls (vT (pC cs i) (path ++ [(at_ : Int)]) 0 s.blocks)))) T := by
  rw [iM (g := fun j => D.lst (bB (sI (pC cs i) ((path ++ [(at_ : Int)]) ++ [((0 + j : Nat) : Int)]) 0 (s.blocks.getD j [])))) (sz (by rw [List.length_range]; omega)) fun j hj => ⟨_, rfl, by
   have hj2 := tR.mp hj;have hb : s.blocks.getD j [] ∈ s.blocks := by
    rw [iS, cA hj2];exact eO _
   obtain ⟨k0, b1, b2⟩ := hbk _ hb;have ix : cL (.dat (.lst (bls s.blocks))) (.dat (Iy j)) T = .ok (.dat (.lst (bB (s.blocks.getD j [])))) T := iX (by
    rw [dM (n := j) rfl];unfold bls;rw [cY, iS, cA hj2];rfl)
   have ad := iC (cl := false) (p := path ++ [(at_ : Int)]) (i := (j : Int)) (S := T) (by simp; omega)
   have ad' : cZ false (.dat (tupI (path ++ [(at_ : Int)]))) (.dat (.tup [Iy j])) T = .ok (.dat (tupI (path ++ [(at_ : Int)] ++ [(j : Int)]))) T := ad;have e := ih (S := T) (i := i) (path := path ++ [(at_ : Int)] ++ [(j : Int)]) on.ls (ic.sub on.len on.tak) b1 b2 (by simp; omega) (by omega)
   rw [nY];unfold jG;simp! [ix, ad', e]⟩, <- IE]
  rfl
 have hin := (ic.sub on.len on.tak) T (bG _) (mA) (i, path ++ [(at_ : Int)]);have hin' : wA false (.dat (.tup [.int i, tupI (path ++ [(at_ : Int)])])) cv T = .ok (.dat (.bl (decide ((i, path ++ [(at_ : Int)]) ∈ cs)))) T := hin;cases q : s.isCall with
 | true =>
  have wc : ∀ {S : aO}, gR (.dat (.str s.word)) (.dat (.str "call")) S = .ok (.dat (.bl true)) S := fun {S} => by rw [AV, q]
  cases s with
  | call g f a b =>
   have e1 : ∀ {S : aO}, cL (.dat (Stt.call g f a b).d) (.dat (.int 1)) S = .ok (.dat (.int g)) S := fun {S} => rfl
   have dm : decide (path ++ [(at_ : Int)] ∈ pC cs i) = decide ((i, path ++ [(at_ : Int)]) ∈ cs) := by
    rw [gZ, decide_eq_true_eq, decide_eq_true_eq];exact Gc
   have ap' : Bm (.cel c) (.dat (.tup [.str "call", .int g, .bl (decide ((i, path ++ [(at_ : Int)]) ∈ cs)), .lst (bls (vT (pC cs i) (path ++ [(at_ : Int)]) 0 (Stt.call g f a b).blocks))])) T = .ok (.dat .non) R := by
    rw [<- dm];exact ap
   unfold eS;simp! [iX hix, apth, bo, hl8, rg, lc, hi, wc, lA hat, e1, hin', ap']
  | _ => cases q
 | false =>
  have wc : ∀ {S : aO}, gR (.dat (.str s.word)) (.dat (.str "call")) S = .ok (.dat (.bl false)) S := fun {S} => by rw [AV, q]
  have wl := Kt (S := T) (cs := pC cs i) (h := path ++ [(at_ : Int)]) hg q;unfold eS;simp! [iX hix, apth, bo, hl8, rg, lc, hi, wc, lA hat, wl, ap]
end
theorem CM {n : Nat} (ih : LF2 n) {S : aO} {many i : Int} {k c : Nat} {path : List Int} {cs : List kR} {cv : Vl} {l0 : List Stt} (ic : InCh S cv cs) (hp : path.length + 2 * k <= 90) (hk : k <= n) (hc : S.length <= c) :
  ∀ (l : List Stt) (at_ : Nat) (T : aO) (acc : List Stt), (∀ j, l0[at_ + j]? = l[j]?) -> GdL many l k -> OkL many l k -> On S T -> T[c]? = some (.lst (bB acc)) -> acc.length + l.length <= 100 ->
   ∃ T', loop (.nm 5) (eS (cU n)) (gN (at_ : Int) l.length) [some (.dat (.lst (bB l0))), some (.dat (.int i)), some (.dat (tupI path)), some cv, some (.cel c), none, none, none, none, none] T = .next [some (.dat (.lst (bB l0))), some (.dat (.int i)), some (.dat (tupI path)), some cv, some (.cel c), none, none, none, none, none] T' /\ On S T' /\ T'[c]? = some (.lst (bB (acc ++ sI (pC cs i) path at_ l)))
 | [], at_, T, acc, _, _, _, on, hat, _ => ⟨T, rfl, on, by rw [show sI (pC cs i) path at_ [] = [] from rfl, dD]; exact hat⟩
 | s :: r, at_, T, acc, hj, hg, ho, on, hat, hl => by
  simp only [aM] at hl;have w := HG (l0 := l0) (path := path) (cs := cs) (i := i) ih hp hk (by have := hj 0; rw [sS] at this; exact this) hg.1 ho.1.1 ic on hc hat (by omega)
  have hj' : ∀ j, l0[at_ + 1 + j]? = r[j]? := fun j => by
   have := hj (j + 1);rw [show at_ + 1 + j = at_ + (j + 1) by omega, this]
   rfl
  obtain ⟨T', e, o, h⟩ := CM ih (i := i) (many := many) (l0 := l0) ic hp hk hc r (at_ + 1) _ (acc ++ [GE (pC cs i) (path ++ [(at_ : Int)]) s]) hj' hg.2 ho.2 (on.set hc) (fO hat) (by rw [bO]; show acc.length + 1 + _ <= _; omega)
  refine ⟨T', ?_, o, ?_⟩
  ·rw [aM, kD, Fd rfl w]
   exact e
  ·rw [h, iF]
   rfl
theorem MC (n : Nat) : LF2 n := by
 induction n with
 | zero => intro S many i l k path cs cv _ _ _ _ _ h; omega
 | succ n ih =>
  intro S many i l k path cs cv ls ic hg ho hp hk;rw [AO];unfold iZ;have hlen := ho.len;obtain ⟨T, e, on, hat⟩ := CM ih (S := S) (many := many) (i := i) (k := k) (c := S.length) (path := path) (cs := cs) (cv := cv) (l0 := l) ic hp (by omega) (bG _) l 0 (S ++ [.lst []]) [] (by simp) hg ho ((On.refl ls).app) (by simp; rfl) (by simp; omega)
  rw [dC] at hat;rw [dU] at e;simp! [cH, gG (show -(2 ^ 62) <= (l.length : Int) by omega) (show (l.length : Int) < 2 ^ 62 by omega), cG, e, pW hat]
  exact (on.kill (bG _)).trunc ls
theorem HF : ∀ n : Nat, iV n = cU n
 | 0 => rfl
 | n + 1 => by
  show tI 10 4 (oH (iV n)) = tI 10 4 (iZ (cU n))
  rw [HF n];rfl
def EG (d : PH.D) : Prop := ∀ (ks : List kR) (S : aO), ks.length <= 900 -> (∀ c ∈ ks, c.2.length <= 900) -> vZ true (.dat d) (.dat (.lst (ks.map cK))) S = .ok (.dat (.bl true)) S
inductive Itm : Option kR -> PH.D -> Prop
 | pl (c : kR) (h : c.2.length <= 900) : Itm (some c) (cK c)
 | odd {d : PH.D} (h : EG d) : Itm none d
inductive Itms : List (Option kR) -> List PH.D -> Prop
 | nil : Itms [] []
 | cons {o : Option kR} {d : PH.D} {os : List (Option kR)} {ds : List PH.D} (h : Itm o d) (t : Itms os ds) : Itms (o :: os) (d :: ds)
def lB (ks : List kR) : Nat -> List kR -> List (Option kR) -> Option Nat
 | _, _, [] => none
 | j, _, none :: _ => some j
 | j, seen, some c :: r => if c ∈ ks /\ c ∉ seen then lB ks (j + 1) (seen ++ [c]) r else some j
theorem wC {ks : List kR} : ∀ {os : List (Option kR)} {j : Nat} {seen : List kR}, seen.Nodup -> (∀ c ∈ seen, c ∈ ks) -> lB ks j seen os = none -> ∃ cs, os = cs.map some /\ (seen ++ cs).Nodup /\ ∀ c ∈ seen ++ cs, c ∈ ks
 | [], j, seen, hn, hk, _ => ⟨[], rfl, by rw [dD]; exact hn, by rw [dD]; exact hk⟩
 | none :: r, j, seen, _, _, h => by cases h
 | some c :: r, j, seen, hn, hk, h => by
  unfold lB at h;split at h
  ·rename_i hc
   obtain ⟨cs, e, n, k⟩ := wC (seen := seen ++ [c]) (by
    rw [lF];exact ⟨hn, by simp, fun a ha b hb => by rw [bK.mp hb]; exact fun z => hc.2 (z ▸ ha)⟩) (fun x hx => by
    rcases bF.mp hx with hx | hx
    ·exact hk x hx
    ·rw [bK.mp hx]; exact hc.1) h
   refine ⟨c :: cs, by rw [e]; rfl, ?_, ?_⟩
   ·rw [iF] at n; exact n
   ·rw [iF] at k; exact k
  ·cases h
section
variable {S : aO} {ks : List kR}
def fY (i : Int) : Er := ⟨"NoCall", ["index"], [.int i]⟩
theorem Af {a0 a5 a6 a7 a8 : Option Vl} (hk : ks.length <= 900) (hk2 : ∀ c ∈ ks, c.2.length <= 900) : ∀ {os : List (Option kR)} {ds : List PH.D} (seen : List kR), Itms os ds ->
  (lB ks seen.length seen os = none -> loop (.tp [3, 4]) bQ (bL seen.length ds) [a0, some (.dat (.lst (seen.map cK ++ ds))), some (.dat (.lst (ks.map cK))), none, none, a5, a6, a7, a8] S = .next [a0, some (.dat (.lst (seen.map cK ++ ds))), some (.dat (.lst (ks.map cK))), none, none, a5, a6, a7, a8] S) /\
  ∀ k, lB ks seen.length seen os = some k -> ∃ ρ, loop (.tp [3, 4]) bQ (bL seen.length ds) [a0, some (.dat (.lst (seen.map cK ++ ds))), some (.dat (.lst (ks.map cK))), none, none, a5, a6, a7, a8] S = .err (fY (k : Int)) ρ S
 | _, _, seen, .nil => ⟨fun _ => rfl, fun k h => by cases h⟩
 | _, _, seen, .cons (os := os) (ds := ds) (.odd (d := d) h) t => by
  refine ⟨fun h => (by unfold lB at h; cases h), fun k hd => ?_⟩
  unfold lB at hd;cases hd;have i1 := h ks S hk hk2;refine ⟨[a0, some (.dat (.lst (seen.map cK ++ d :: ds))), some (.dat (.lst (ks.map cK))), some (.dat (.int (seen.length : Int))), some (.dat d), a5, a6, a7, a8], ?_⟩
  rw [bL, loop];simp only [lP, jW, aM, bM, if_true, aR, aP];rw [bQ];have ra : ∀ {ρ : Ev}, lk ρ 3 = some (.dat (.int (seen.length : Int))) -> eV "NoCall" ["index"] (aB (aD 3) aJ) ρ S = .err (fY (seen.length : Int)) ρ S := fun {ρ} h => by
   unfold eV;simp! [h];rfl
  have r1 := ra (ρ := [a0, some (.dat (.lst (seen.map cK ++ d :: ds))), some (.dat (.lst (ks.map cK))), some (.dat (.int (seen.length : Int))), some (.dat d), a5, a6, a7, a8]) rfl;simp! [i1, r1]
 | _, _, seen, .cons (os := os) (ds := ds) (.pl c hc) t => by
  have i1 := fun {S : aO} => rL (neg := true) (c := c) (cs := ks) (S := S)
  have i1' : vZ true (.dat (cK c)) (.dat (.lst (ks.map cK))) S = .ok (.dat (.bl (!decide (c ∈ ks)))) S := i1;have tk : (seen.map cK ++ cK c :: ds).take seen.length = seen.map cK := by
   rw [gT (by simp)]
   exact EL (by simp)
  have i2 := fun {S : aO} => rL (neg := false) (c := c) (cs := seen) (S := S)
  have i2' : ∀ {S : aO}, wA false (.dat (cK c)) (.dat (.lst (seen.map cK))) S = .ok (.dat (.bl (decide (c ∈ seen)))) S := fun {S} => i2
  have ra : ∀ {ρ : Ev}, lk ρ 3 = some (.dat (.int (seen.length : Int))) -> eV "NoCall" ["index"] (aB (aD 3) aJ) ρ S = .err (fY (seen.length : Int)) ρ S := fun {ρ} h => by
   unfold eV;simp! [h];rfl
  have r1 := ra (ρ := [a0, some (.dat (.lst (seen.map cK ++ cK c :: ds))), some (.dat (.lst (ks.map cK))), some (.dat (.int (seen.length : Int))), some (.dat (cK c)), a5, a6, a7, a8]) rfl;have es : seen.map cK ++ cK c :: ds = (seen ++ [c]).map cK ++ ds := by simp
  by_cases h1 : c ∈ ks
  ·by_cases h2 : c ∈ seen
   ·have du : lB ks seen.length seen (some c :: os) = some seen.length := by
     unfold lB;rw [if_neg fun z => z.2 h2]
    refine ⟨fun h => (by rw [du] at h; cases h), fun k hd => ?_⟩
    rw [du] at hd;cases hd;refine ⟨[a0, some (.dat (.lst (seen.map cK ++ cK c :: ds))), some (.dat (.lst (ks.map cK))), some (.dat (.int (seen.length : Int))), some (.dat (cK c)), a5, a6, a7, a8], ?_⟩
    rw [bL, loop];simp only [lP, jW, aM, bM, if_true, aR, aP];rw [bQ];rw [decide_eq_true h1] at i1';simp only [decide_eq_true h2] at i2';simp! [i1', Cn, tk, i2', r1]
   ·have du : lB ks seen.length seen (some c :: os) = lB ks (seen.length + 1) (seen ++ [c]) os := by
     conv => lhs; unfold lB
     rw [if_pos ⟨h1, h2⟩]
    have el : (seen ++ [c]).length = seen.length + 1 := by simp
    obtain ⟨g1, g2⟩ := Af (a0 := a0) (a5 := a5) (a6 := a6) (a7 := a7) (a8 := a8) hk hk2 (seen ++ [c]) t;rw [el, <- es] at g1 g2;have st : loop (.tp [3, 4]) bQ (bL seen.length (cK c :: ds)) [a0, some (.dat (.lst (seen.map cK ++ cK c :: ds))), some (.dat (.lst (ks.map cK))), none, none, a5, a6, a7, a8] S = loop (.tp [3, 4]) bQ (bL (seen.length + 1) ds) [a0, some (.dat (.lst (seen.map cK ++ cK c :: ds))), some (.dat (.lst (ks.map cK))), none, none, a5, a6, a7, a8] S := by
     rw [bL, loop];simp only [lP, jW, aM, bM, if_true, aR, aP];rw [bQ];rw [decide_eq_true h1] at i1';simp only [decide_eq_false h2] at i2';simp! [i1', Cn, tk, i2']
    rw [du, st];exact ⟨g1, g2⟩
  ·have du : lB ks seen.length seen (some c :: os) = some seen.length := by
    unfold lB;rw [if_neg fun z => h1 z.1]
   refine ⟨fun h => (by rw [du] at h; cases h), fun k hd => ?_⟩
   rw [du] at hd;cases hd;refine ⟨[a0, some (.dat (.lst (seen.map cK ++ cK c :: ds))), some (.dat (.lst (ks.map cK))), some (.dat (.int (seen.length : Int))), some (.dat (cK c)), a5, a6, a7, a8], ?_⟩
   rw [bL, loop];simp only [lP, jW, aM, bM, if_true, aR, aP];rw [bQ];rw [decide_eq_false h1] at i1';simp! [i1', r1]
end
section
variable {S : aO} {bs : List (List Stt)} {os : List (Option kR)} {ds : List PH.D}
theorem Bp (G : Good2 bs) : (nU bs).length <= 36 := by
 have hk : ∀ b ∈ bs, bH b <= 12 := fun b hb => (G.gd b hb).2.2.1
 have h2 : (nU bs).length <= (eB 0 bs).length := by rw [nU, bE]; exact iD ..
 have h4 := uX (bs := bs) (p := 0) (n := 12) hk;have h3 := G.l3;have : 12 * bs.length <= 36 := by omega
 omega
theorem DR (ls : LS S) (G : Good2 bs) (h : Itms os ds) {k : Nat} (hd : lB (nU bs) 0 [] os = some k) : dE [.dat (cD bs), .dat (.lst ds)] S = .err (fY (k : Int)) S := by
 have h3 := G.l3;have hk : ∀ b ∈ bs, OkL (bs.length : Int) b 3 /\ bH b <= 12 := fun b hb => ⟨G.ok b hb, (G.gd b hb).2.2.1⟩
 have ca := zZ (S := S) ls (show 3 <= 9 by omega) hk h3
 rw [Bq] at ca;obtain ⟨ρ, lp⟩ := (Af (S := S) (a0 := some (.dat (cD bs))) (a5 := none) (a6 := none) (a7 := none) (a8 := none) (by have := Bp G; omega) (fun c hc => by have := lV G c hc; omega) [] h).2 k hd
 rw [aW, dC, bM] at lp;have hi : ∀ S, lT S "Book" "calls" (.dat (cD bs)) = true := fun _ => rfl
 rw [kS];unfold eM;simp! [pV (hi S), ca, lp];have q : (trunc S.length (Res.err (fY (k : Int)) S : Res Vl)) = .err (fY (k : Int)) S := by
  unfold trunc;dsimp only;rw [mA, if_pos (LS.all ls)]
 exact q
theorem yM (ls : LS S) (G : Good2 bs) {cs : List kR} (hl : cs.length <= 900) (hd : lB (nU bs) 0 [] (cs.map some) = none) : dE [.dat (cD bs), .dat (.lst (cs.map cK))] S = .ok (.dat (cD (qQ cs 0 bs))) S := by
 obtain ⟨cs', e, n, k⟩ := wC (seen := []) eQ (fun c h => (nomatch h)) hd
 have ec : cs' = cs := by
  have := congrArg (List.filterMap id) e
  simpa using this.symm
 subst ec;rw [dC] at n k;exact vC (f := .int) ls G n k hl (CdG.int fun c hc => by have := lV G c (k c hc); omega)
theorem CB (ls : LS S) {d : PH.D} (h : fIsi "list" (.dat d) S = .ok (.dat (.bl false)) S) : dE [.dat (cD bs), .dat d] S = .err (fY (-1)) S := by
 have ng : oG (.dat (.int 1)) S = .ok (.dat (.int (-1))) S := rfl;have r : ∀ {ρ : Ev}, eV "NoCall" ["index"] (aB (m1 oG (mC (.int 1))) aJ) ρ S = .err (fY (-1)) ρ S := fun {ρ} => rfl
 have t : (m1 (fIsi "list") (aD 1)) [some (.dat (cD bs)), some (.dat d), none, none, none, none, none, none, none] S = .ok (.dat (.bl false)) S := h;have q : (trunc S.length (Res.err (fY (-1)) S : Res Vl)) = .err (fY (-1)) S := by
  unfold trunc;dsimp only;rw [mA, if_pos (LS.all ls)]
 have tt : fD (m1 (fIsi "list") (aD 1)) [some (.dat (cD bs)), some (.dat d), none, none, none, none, none, none, none] S = .ok false S := by
  unfold fD;rw [t];rfl
 rw [kS];unfold eM;have st : cN (mM (fD (m1 (fIsi "list") (aD 1)))) (eV "NoCall" ["index"] (aB (m1 oG (mC (.int 1))) aJ)) bP [some (.dat (cD bs)), some (.dat d), none, none, none, none, none, none, none] S = .err (fY (-1)) [some (.dat (cD bs)), some (.dat d), none, none, none, none, none, none, none] S := by
  unfold cN mM;rw [tt];rfl
 have sq : ∀ m : FS, aT (cN (mM (fD (m1 (fIsi "list") (aD 1)))) (eV "NoCall" ["index"] (aB (m1 oG (mC (.int 1))) aJ)) bP) m [some (.dat (cD bs)), some (.dat d), none, none, none, none, none, none, none] S = .err (fY (-1)) [some (.dat (cD bs)), some (.dat d), none, none, none, none, none, none, none] S := fun m => by
  unfold aT;rw [st]
 rw [sq];exact q
def AI (i : Int) : PH.D := .tup [.str "NoCall", .int i]
def GQ (bs : List (List Stt)) : PH.D := .tup [.str "told", .lst (bls bs)]
theorem J4 {ρ : Ev} {i : Int} (h : 3 < ρ.length) : (Out.err (fY i) ρ S).tryA ["NoBook", "NoCall", "NoPath", "NoProcedure"] "NoCall" 3 [.c (.str "NoCall") (.str "NoCall"), .f "index"] = .ret (.dat (AI i)) S := by
 unfold Out.tryA;dsimp only;have hm : ("NoCall" : Str) ∈ (["NoBook", "NoCall", "NoPath", "NoProcedure"] : List Str) := by decide +kernel
 rw [if_pos ⟨⟨hm, hm⟩, h⟩, if_pos (by rfl)]
 rfl
theorem mN {d : PH.D} {i : Int} (h : dE [.dat (cD bs), .dat d] S = .err (fY i) S) : cR [.dat (cD bs), .dat d] S = .ok (.dat (AI i)) S := by
 have hi : ∀ S, lT S "Book" "saved" (.dat (cD bs)) = true := fun _ => rfl
 rw [xC];unfold lW;simp! [pV (hi S), h, Du, J4 (show 3 < [some (Vl.dat (cD bs)), some (Vl.dat d), none, none].length from by simp)]
 rfl
theorem nK {d : PH.D} {bs' : List (List Stt)} (h : dE [.dat (cD bs), .dat d] S = .ok (.dat (cD bs')) S) (G : Good2 bs') : cR [.dat (cD bs), .dat d] S = .ok (.dat (GQ bs')) S := by
 have hi : ∀ S, lT S "Book" "saved" (.dat (cD bs)) = true := fun _ => rfl
 have hi2 : ∀ S, lT S "Book" "bodies" (.dat (cD bs')) = true := fun _ => rfl
 have bo := BF (S := S) (bs := bs') G.ok (show 3 <= 9 by omega) (by have := G.l3; omega)
 rw [xC];unfold lW;simp! [pV (hi S), h, Du, wU, pV (hi2 S), bo];rfl
end
section
variable {S : aO} {ks : List kR}
def NG (o : Option Nat) (ρ : Ev) (S : aO) : Out := match o with
 | none => .next ρ S
 | some k => .ret (.dat (.int (k : Int))) S
theorem Cm (hk : ks.length <= 900) (hk2 : ∀ c ∈ ks, c.2.length <= 900) : ∀ {os : List (Option kR)} {ds : List PH.D} (seen : List kR), Itms os ds ->
  loop (.nm 2) fT (gN (seen.length : Int) ds.length) [some (.dat (.lst (seen.map cK ++ ds))), some (.dat (.lst (ks.map cK))), none] S = NG (lB ks seen.length seen os) [some (.dat (.lst (seen.map cK ++ ds))), some (.dat (.lst (ks.map cK))), none] S
 | _, _, seen, .nil => rfl
 | _, _, seen, .cons (os := os) (ds := ds) (.odd (d := d) h) t => by
  have i1 := h ks S hk hk2;have hix : atI (seen.map cK ++ d :: ds) (seen.length : Int) = some d := by
   rw [dM (n := seen.length) rfl];simp
  rw [aM, kD, loop];simp only [lP, aR, aP];rw [fT];simp! [iX hix, i1];rfl
 | _, _, seen, .cons (os := os) (ds := ds) (.pl c hc) t => by
  have i1' : vZ true (.dat (cK c)) (.dat (.lst (ks.map cK))) S = .ok (.dat (.bl (!decide (c ∈ ks)))) S := rL (neg := true);have tk : (seen.map cK ++ cK c :: ds).take seen.length = seen.map cK := by
   rw [gT (by simp)]
   exact EL (by simp)
  have i2' : wA false (.dat (cK c)) (.dat (.lst (seen.map cK))) S = .ok (.dat (.bl (decide (c ∈ seen)))) S := rL (neg := false);have hix : atI (seen.map cK ++ cK c :: ds) (seen.length : Int) = some (cK c) := by
   rw [dM (n := seen.length) rfl];simp
  have es : seen.map cK ++ cK c :: ds = (seen ++ [c]).map cK ++ ds := by simp
  by_cases h1 : c ∈ ks
  ·rw [decide_eq_true h1] at i1'
   by_cases h2 : c ∈ seen
   ·have du : lB ks seen.length seen (some c :: os) = some seen.length := by
     unfold lB;rw [if_neg fun z => z.2 h2]
    rw [decide_eq_true h2] at i2';rw [du, aM, kD, loop];simp only [lP, aR, aP];rw [fT];simp! [iX hix, i1', Cn, tk, i2'];rfl
   ·have du : lB ks seen.length seen (some c :: os) = lB ks (seen.length + 1) (seen ++ [c]) os := by
     conv => lhs; unfold lB
     rw [if_pos ⟨h1, h2⟩]
    have el : (seen ++ [c]).length = seen.length + 1 := by simp
    have ih := Cm hk hk2 (seen ++ [c]) t;rw [el, <- es] at ih;rw [decide_eq_false h2] at i2';rw [du, aM, kD, loop];simp only [lP, aR, aP];rw [fT];simp! [iX hix, i1', Cn, tk, i2'];rw [<- fT];exact ih
  ·have du : lB ks seen.length seen (some c :: os) = some seen.length := by
    unfold lB;rw [if_neg fun z => h1 z.1]
   rw [decide_eq_false h1] at i1';rw [du, aM, kD, loop];simp only [lP, aR, aP];rw [fT];simp! [iX hix, i1'];rfl
def NH (o : Option Nat) : Int := match o with
 | none => -1
 | some k => k
theorem Kg (hk : ks.length <= 900) (hk2 : ∀ c ∈ ks, c.2.length <= 900) {os : List (Option kR)} {ds : List PH.D} (h : Itms os ds) (hl : ds.length <= 1000) : sE [.dat (.lst ds), .dat (.lst (ks.map cK))] S = .ok (.dat (.int (NH (lB ks 0 [] os)))) S := by
 have e := Cm (S := S) hk hk2 [] h;rw [aW, dC, bM, dU] at e;have ng : ∀ S, oG (.dat (.int 1)) S = .ok (.dat (.int (-1))) S := fun _ => rfl
 rw [G7];unfold sO;cases q : lB ks 0 [] os with
 | none =>
  rw [q] at e;simp! [gG (show -(2 ^ 62) <= (ds.length : Int) by omega) (show (ds.length : Int) < 2 ^ 62 by omega), cG, e, NG, ng]
  rfl
 | some k =>
  rw [q] at e;simp! [gG (show -(2 ^ 62) <= (ds.length : Int) by omega) (show (ds.length : Int) < 2 ^ 62 by omega), cG, e, NG]
  rfl
theorem xU {d : PH.D} (hp : d.Pl) (hh : d.ht <= 64) (hx : ∀ S y, vZ true (.dat d) y S = wA true (.dat d) y S) (he : ∀ c : kR, sX (cK c) d = false) : EG d := fun ks S hk hk2 => by
 obtain ⟨b1, b2⟩ := Bg (f := .int) (cs := ks) (CdG.int hk2) hk;have e := N9 (S := S) (neg := true) (x := d) hp hh b1 (show (AK .int ks).ht <= 64 from lN b2 (by decide))
 have a : ((ks.map (mT .int)).any fun z => sX z d) = false := by
  rw [Bool.eq_false_iff];intro h;obtain ⟨z, hz, hz2⟩ := qP.mp h;obtain ⟨c, hc, rfl⟩ := aU.mp hz;have k := he c;rw [show cK c = mT .int c from rfl] at k
  rw [k] at hz2;cases hz2
 rw [a] at e;rw [hx];exact e
theorem NB {xs ys : List PH.D} : sX (.tup xs) (.lst ys) = false := by
 unfold sX;simp only [D.py];cases D.pys xs <;> cases D.pys ys <;> simp [PyData.eqv]
theorem JV : EG .non := xU trivial (by decide) (fun _ _ => rfl) fun c => by
 unfold sX cK;simp only [D.py];cases D.pys [.int c.1, tupI c.2] <;> simp [PyData.eqv]
theorem JU : EG (.str "call") := xU (show PyData.strOk "call" = true by decide +kernel) (by decide) (fun _ _ => rfl) fun c => by
 unfold sX cK;simp only [D.py];cases D.pys [.int c.1, tupI c.2] <;> simp [PyData.eqv]
theorem JW : EG (.lst [.int 0, .tup [.int 0]]) := xU ⟨by simp, trivial, ⟨by simp, trivial, trivial⟩, trivial⟩ (by decide) (fun _ _ => rfl) fun c => NB
theorem Ly : EG (.tup [.int 0, .tup [.lst [.int 0]]]) := xU ⟨by simp, trivial, ⟨by simp, ⟨by simp, trivial, trivial⟩, trivial⟩, trivial⟩ (by decide) (fun _ _ => rfl) fun c => by
 unfold cK;rw [sL, fR, fR];have : sX (tupI c.2) (.tup [.lst [.int 0]]) = false := by
  unfold tupI;rw [sL];cases c.2 with
  | nil => exact Eu
  | cons x r =>
   rw [aN, fR];have : sX (.int x) (.lst [.int 0]) = false := rfl;rw [this];rfl
 rw [this];simp
theorem JX : EG (.tup [.dct, .tup [.int 0]]) := fun ks S hk hk2 => by
 have a : (ks.map cK).all itD = true := by
  rw [bZ];intro z hz;obtain ⟨c, hc, rfl⟩ := aU.mp hz;obtain ⟨b1, b2⟩ := BM (f := .int) (a := c.2) pN (by have := hk2 c hc; omega)
  obtain ⟨p, p1, _, _⟩ := wN _ b1;have sh := vK b1 (by omega) p1
  show (match (tupI c.2).py with
   | some p => SeqAt.shaped p
   | none => false) = true
  rw [show (tupI c.2).py = some p from p1]
  exact sh
 have w : D.py (.tup [.int 0]) = some (.tuple [.int 0]) := rfl;have sh : SeqAt.shaped (.tuple [.int 0]) = true := rfl
 show (match D.py (.tup [.int 0]) with
  | some p => if SeqAt.shaped p && (ks.map cK).all itD then Res.ok (Vl.dat (.bl true)) S else .stuck
  | none => .stuck) = _
 rw [w];dsimp only;rw [sh, a];rfl
end
def wV (x : Int) : PH.D := if x > 1 then .int x else .bl (decide (x = 1))
theorem Aw {x : Int} {S : aO} : oR [.dat (.int x)] S = .ok (.dat (wV x)) S := by
 have g : ∀ S, DG (.dat (.int x)) (.dat (.int 1)) S = .ok (.dat (.bl (decide (x > 1)))) S := fun _ => rfl
 rw [Iu];unfold uT wV
 by_cases h : x > 1
 ·simp! [g, decide_eq_true h, if_pos h]
  rfl
 ·simp! [g, decide_eq_false h, if_neg h]
  rfl
theorem H6 {x : Int} (h : 0 <= x) : nv (wV x) = some x := by
 unfold wV
 by_cases h1 : x > 1
 ·rw [if_pos h1]; rfl
 ·rw [if_neg h1]
  rcases (by omega : x = 0 \/ x = 1) with rfl | rfl <;> rfl
theorem tJ {i : Int} (h : 0 <= i) {ps : List (List Int × Stt)} (hp : ∀ x ∈ ps, ∀ y ∈ x.1, 0 <= y) : ∀ x ∈ ps.map (pre i), ∀ y ∈ x.1, 0 <= y := by
 intro x hx y hy;obtain ⟨z, hz, rfl⟩ := aU.mp hx;rcases bN.mp hy with rfl | hy
 ·exact h
 ·exact hp z hz y hy
theorem EE {ps qs : List (List Int × Stt)} (hp : ∀ x ∈ ps, ∀ y ∈ x.1, 0 <= y) (hq : ∀ x ∈ qs, ∀ y ∈ x.1, 0 <= y) : ∀ x ∈ ps ++ qs, ∀ y ∈ x.1, 0 <= y := by
 intro x hx;rcases bF.mp hx with hx | hx
 ·exact hp x hx
 ·exact hq x hx
mutual
theorem JK : ∀ (s : Stt), ∀ x ∈ relS s, ∀ y ∈ x.1, (0 : Int) <= y
 | .keep b => tJ (by decide) (nF 0 b (by decide))
 | .again b => tJ (by decide) (nF 0 b (by decide))
 | .either a b => EE (tJ (by decide) (nF 0 a (by decide))) (tJ (by decide) (nF 0 b (by decide)))
 | .call _ _ a b => EE (tJ (by decide) (nF 0 a (by decide))) (tJ (by decide) (nF 0 b (by decide)))
 | .cmd _ => fun x hx => nomatch hx
 | .fin _ => fun x hx => nomatch hx
 | .bad => fun x hx => nomatch hx
 | .odd _ => fun x hx => nomatch hx
theorem nF : ∀ (at_ : Int) (l : List Stt), 0 <= at_ -> ∀ x ∈ eD at_ l, ∀ y ∈ x.1, (0 : Int) <= y
 | _, [], _ => fun x hx => nomatch hx
 | at_, s :: r, h => by
  intro x hx y hy;rcases bN.mp hx with rfl | hx
  ·rw [bK.mp hy]; exact h
  ·exact EE (tJ h (JK s)) (nF (at_ + 1) r (by omega)) x hx y hy
end
theorem F2 : ∀ (bs : List (List Stt)) (p : Int), 0 <= p -> ∀ x ∈ eB p bs, 0 <= x.1 /\ ∀ y ∈ x.2.1, 0 <= y
 | [], _, _ => fun x hx => nomatch hx
 | b :: r, p, h => by
  intro x hx;rcases bF.mp hx with hx | hx
  ·obtain ⟨z, hz, rfl⟩ := aU.mp hx
   exact ⟨h, nF 0 b (by decide) z hz⟩
  ·exact F2 r (p + 1) (by omega) x hx
theorem NI {bs : List (List Stt)} : ∀ c ∈ nU bs, 0 <= c.1 /\ ∀ y ∈ c.2, 0 <= y := by
 intro c hc;unfold nU at hc;obtain ⟨x, hx, rfl⟩ := aU.mp hc;exact F2 bs 0 (by decide) x (nD.mp hx).1
theorem IS {bs : List (List Stt)} (G : Good2 bs) {cs : List kR} (hs : ∀ c ∈ cs, c ∈ nU bs) : CdG wV cs := fun c hc => by
 have h := NI c (hs c hc);have := lV G c (hs c hc);exact ⟨H6 h.1, fun y hy => H6 (h.2 y hy), by omega⟩
section
variable {S : aO} {bs : List (List Stt)} {cs : List kR}
theorem GM {c : kR} (hl : c.2.length <= 900) {a0 a1 a2 a3 a4 a6 : Option Vl} : eW [a0, a1, a2, a3, a4, some (.dat (cK c)), a6] S = .ok (.dat (mT wV c)) S := by
 have i0 : ∀ S, cL (.dat (cK c)) (.dat (.int 0)) S = .ok (.dat (.int c.1)) S := fun _ => rfl
 have i1 : ∀ S, cL (.dat (cK c)) (.dat (.int 1)) S = .ok (.dat (.tup (c.2.map .int))) S := fun _ => rfl
 have it : ∀ S, itemsOf (.dat (.tup (c.2.map PH.D.int))) S = .ok (c.2.map PH.D.int) S := fun _ => rfl
 have lc : ∀ {ρ : Ev}, uD false (.nm 6) lS (bA oR (aB (aD 6) aJ)) [a0, a1, a2, a3, a4, some (.dat (cK c)), a6] [6] (c.2.map PH.D.int) S = .ok (.dat (.lst (c.2.map wV))) S := fun {ρ} => by
  rw [iM (g := wV) (sz (by omega)) fun x hx => ⟨_, rfl, by simp! [Aw]⟩]
  rfl
 have ft : ∀ S, fTuple (.dat (.lst (c.2.map wV))) S = .ok (.dat (.tup (c.2.map wV))) S := fun _ => rfl
 unfold eW;simp! [i0, i1, it, Aw, lc (ρ := []), ft];rfl
theorem GN (ls : LS S) (G : Good2 bs) {c : kR} (hc : c ∈ nU bs) : dE [.dat (cD bs), .dat (.lst [cK c, mT wV c])] S = .err (fY 1) S := by
 have h3 := G.l3;have hk : ∀ b ∈ bs, OkL (bs.length : Int) b 3 /\ bH b <= 12 := fun b hb => ⟨G.ok b hb, (G.gd b hb).2.2.1⟩
 have ca := zZ (S := S) ls (show 3 <= 9 by omega) hk h3
 rw [Bq] at ca;have few := Bp G;have pl := lV G c hc;obtain ⟨f1, f3, f2⟩ := IS G (cs := [c]) (fun x hx => by rw [bK.mp hx]; exact hc) c (bK.mpr rfl)
 have cdi : CdG .int (nU bs) := CdG.int fun c hc => by have := lV G c hc; omega
 have i1 : ∀ {S : aO}, vZ true (.dat (cK c)) (.dat (.lst ((nU bs).map cK))) S = .ok (.dat (.bl (!decide (c ∈ nU bs)))) S := fun {S} => rL (neg := true)
 have i2 : ∀ {S : aO}, wA false (.dat (cK c)) (.dat (.lst [])) S = .ok (.dat (.bl (decide (c ∈ ([] : List kR))))) S := fun {S} => rL (neg := false) (cs := [])
 have j1 : ∀ {S : aO}, vZ true (.dat (mT wV c)) (.dat (.lst ((nU bs).map cK))) S = .ok (.dat (.bl (!decide (c ∈ nU bs)))) S := fun {S} => by
  rw [Eh f1];exact Be (neg := true) (g := .int) f1 f3 f2 cdi (by omega)
 have j2 : ∀ {S : aO}, wA false (.dat (mT wV c)) (.dat (.lst [cK c])) S = .ok (.dat (.bl (decide (c ∈ [c])))) S := fun {S} => Be (neg := false) (g := .int) (ks := [c]) f1 f3 f2 (CdG.int fun x hx => by rw [bK.mp hx]; omega) (by simp)
 rw [decide_eq_true hc] at i1 j1;rw [decide_eq_false (by simp)] at i2
 rw [decide_eq_true (by simp)] at j2
 have lp : ∃ ρ, loop (.tp [3, 4]) bQ (bL 0 [cK c, mT wV c]) [some (.dat (cD bs)), some (.dat (.lst [cK c, mT wV c])), some (.dat (.lst ((nU bs).map cK))), none, none, none, none, none, none] S = .err (fY 1) ρ S := by
  refine ⟨[some (.dat (cD bs)), some (.dat (.lst [cK c, mT wV c])), some (.dat (.lst ((nU bs).map cK))), some (.dat (.int 1)), some (.dat (mT wV c)), none, none, none, none], ?_⟩
  have ra : ∀ {ρ : Ev}, lk ρ 3 = some (.dat (.int 1)) -> eV "NoCall" ["index"] (aB (aD 3) aJ) ρ S = .err (fY 1) ρ S := fun {ρ} h => by
   unfold eV;simp! [h];rfl
  have r1 := ra (ρ := [some (.dat (cD bs)), some (.dat (.lst [cK c, mT wV c])), some (.dat (.lst ((nU bs).map cK))), some (.dat (.int 1)), some (.dat (mT wV c)), none, none, none, none]) rfl;have c0 : cutD [cK c, mT wV c] none (some 0) = [] := rfl;have c1 : cutD [cK c, mT wV c] none (some 1) = [cK c] := rfl;rw [bL, loop];simp only [lP, jW, aM, bM, if_true, aR, aP];rw [bQ];simp! [i1, dU, c0, i2];rw [bL, loop];simp only [lP, jW, aM, bM, if_true, aR, aP];have z1 : ((0 + 1 : Nat) : Int) = 1 := rfl;simp! [j1, z1, c1, j2, r1]
 obtain ⟨ρ, lp⟩ := lp;have hi : ∀ S, lT S "Book" "calls" (.dat (cD bs)) = true := fun _ => rfl
 rw [kS];unfold eM;simp! [pV (hi S), ca, lp];have q : (trunc S.length (Res.err (fY 1) S : Res Vl)) = .err (fY 1) S := by
  unfold trunc;dsimp only;rw [mA, if_pos (LS.all ls)]
 exact q
theorem uN {bs : List (List Stt)} (G : Good2 bs) : (D.lst (bls bs)).Pl /\ (D.lst (bls bs)).ht < 20 := by
 obtain ⟨bp1, bp2⟩ := BG G.ok;have := G.l3;exact ⟨⟨by rw [mQ]; omega, bp1⟩, by simp only [D.ht]; omega⟩
theorem xP {S : aO} : vW (.dat (.str "told")) (.dat (.str "told")) S = .ok (.dat (.bl false)) S := by
 show Res.ok (Vl.dat (.bl (!decide (("told" : Str) = "told")))) S = _
 simp
theorem nc_eq {i j : Int} {S : aO} : gR (.dat (AI i)) (.dat (.tup [.str "NoCall", .int j])) S = .ok (.dat (.bl (decide (i = j)))) S := by
 have st : PyData.strOk "NoCall" = true := by decide +kernel
 have e := NA (S := S) (d := AI i) (e := AI j) ⟨by simp, st, trivial, trivial⟩ (by simp [AI, D.ht, D.hts]) ⟨by simp, st, trivial, trivial⟩ (by simp [AI, D.ht, D.hts])
 have q : sX (AI i) (AI j) = decide (i = j) := by
  unfold AI;rw [sL, fR, fR, zP];have a : sX (.str "NoCall") (.str "NoCall") = true := by
   show PyData.eqv (.str "NoCall") (.str "NoCall") = true
   simp [PyData.eqv]
  rw [a, hE, DC];exact zQ (i := i) (j := j) rfl rfl
 rw [q] at e;exact e
theorem GL (ls : LS S) (G : Good2 bs) (hn : cs.Nodup) (hs : ∀ c ∈ cs, c ∈ nU bs) (hl : cs.length <= 900) : gO [.dat (cD bs), .dat (.lst (cs.map cK)), .dat (.lst (bls (qQ cs 0 bs)))] S = .ok (.dat (.bl true)) S := by
 have G' : Good2 (qQ cs 0 bs) := (vA bs 0 fun b hb => (G.gd b hb).1).good G
 have it : ∀ S, itemsOf (.dat (.lst (cs.map cK))) S = .ok (cs.map cK) S := fun _ => rfl
 have lc : uD false (.nm 5) lS eW [some (.dat (cD bs)), some (.dat (.lst (cs.map cK))), some (.dat (.lst (bls (qQ cs 0 bs)))), none, none, none, none] [5] (cs.map cK) S = .ok (.dat (.lst (cs.map (mT wV)))) S := by
  rw [iM (g := mT wV) (sz (by omega)) fun c hc => ⟨_, rfl, GM (by have := lV G c (hs c hc); omega)⟩]
  rfl
 have sv := nK (S := S) (d := .lst (cs.map (mT wV))) (vC ls G hn hs hl (IS G hs)) G';have t0 : ∀ S, cL (.dat (GQ (qQ cs 0 bs))) (.dat (.int 0)) S = .ok (.dat (.str "told")) S := fun _ => rfl
 have t1 : ∀ S, cL (.dat (GQ (qQ cs 0 bs))) (.dat (.int 1)) S = .ok (.dat (.lst (bls (qQ cs 0 bs)))) S := fun _ => rfl
 have p := uN G';have hln : ∀ S, eP (.dat (.lst (cs.map cK))) S = .ok (.dat (.int (cs.length : Int))) S := fun S => by
  show Res.ok (Vl.dat (.int ((cs.map cK).length : Int))) S = _
  rw [bE]
 rw [xN];unfold jH;cases cs with
 | nil =>
  simp! [it, lc, sv, t0, xP, t1, tU 20 p.1 p.2, hln];rfl
 | cons c r =>
  obtain ⟨n, en⟩ : ∃ n : Int, n = ((c :: r).length : Int) := ⟨_, rfl⟩;have hne : ¬ n = 0 := by rw [en]; simp only [aM]; omega
  rw [<- en] at hln;have e0 : ∀ S, gR (.dat (.int ((c :: r).length : Int))) (.dat (.int 0)) S = .ok (.dat (.bl false)) S := fun S => by
   show Res.ok (Vl.dat (.bl (decide (((c :: r).length : Int) = 0)))) S = _
   rw [decide_eq_false (by simp only [aM]; omega)]
  have x0 : ∀ S, cL (.dat (.lst ((c :: r).map cK))) (.dat (.int 0)) S = .ok (.dat (cK c)) S := fun S => iX Ih
  have x1 : ∀ S, cL (.dat (.lst ((c :: r).map (mT wV)))) (.dat (.int 0)) S = .ok (.dat (mT wV c)) S := fun S => iX Ih
  have bad := mN (GN ls G (hs c (aL ..)));simp! [it, lc, sv, t0, xP, t1, tU 20 p.1 p.2, hln, decide_eq_false hne, x0, x1, bad, nc_eq];rfl
end
def tL {α : Type} (l : List α) (k : Nat) (x : α) : List α := l.take k ++ [x] ++ l.drop k
section
variable {α β : Type} {l : List α} {k : Nat} {x y : α}
theorem insG_mem : y ∈ tL l k x ↔ y ∈ l \/ y = x := by
 have e : y ∈ l ↔ y ∈ l.take k \/ y ∈ l.drop k := by
  conv => lhs; rw [<- lX k l]
  exact bF
 simp only [tL, bF, bK, e]
 constructor
 ·rintro ((h | h) | h)
  ·exact .inl (.inl h)
  ·exact .inr h
  ·exact .inl (.inr h)
 ·rintro ((h | h) | h)
  ·exact .inl (.inl h)
  ·exact .inr h
  ·exact .inl (.inr h)
theorem Dm (h : l.Nodup) (hx : x ∉ l) : (tL l k x).Nodup := by
 have e : (tL l k x).Perm (x :: l) := by
  have h1 : (l.take k ++ [x] ++ l.drop k).Perm ([x] ++ l.take k ++ l.drop k) := (List.perm_append_comm (l₁ := l.take k) (l₂ := [x])).append_right _;have h2 : [x] ++ l.take k ++ l.drop k = x :: l := by rw [iF, lX]; rfl
  rw [h2] at h1;exact h1
 exact e.nodup_iff.mpr (AU.mpr ⟨hx, h⟩)
theorem CQ : (tL l k x).length = l.length + 1 := by
 unfold tL;rw [bO, bO, List.length_singleton];have : l.length = (l.take k).length + (l.drop k).length := by
  rw [<- bO, lX]
 omega
theorem Ha {f : α -> β} : (tL l k x).map f = (l.map f).take k ++ [f x] ++ (l.map f).drop k := by
 unfold tL;simp [DE, List.map_drop]
end
def sC (k : List Int) (ds : List PH.D) : aO := [PL k, .lst ds]
theorem xQ {k : List Int} {ds : List PH.D} (h : 2 <= k.length) : PoolAt (sC k ds) 0 k := ⟨rfl, h⟩
theorem sC_ls {k : List Int} {ds : List PH.D} : LS (sC k ds) := fun c hc n => by
 simp only [sC, bN, gL, or_false] at hc;rcases hc with rfl | rfl <;> rfl
section
variable {v0 v2 v3 v4 v5 v6 v7 v10 v11 v12 v14 v15 v16 : Option Vl}
theorem vL {K : List kR} : ∀ (ps : List kR) (k : List Int) (cs : List kR), 2 <= k.length -> cs.Nodup -> ps.Nodup -> (∀ c ∈ cs, c ∉ ps /\ c ∈ K) -> (∀ c ∈ ps, c ∈ K) -> cs.length + ps.length <= 100 ->
  ∃ (k' : List Int) (cs' : List kR), loop (.nm 9) hG (ps.map cK) [v0, some (.cel 0), v2, v3, v4, v5, v6, v7, some (.cel 1), none, v10, v11, v12, none, v14, v15, v16] (sC k (cs.map cK)) = .next [v0, some (.cel 0), v2, v3, v4, v5, v6, v7, some (.cel 1), none, v10, v11, v12, none, v14, v15, v16] (sC k' (cs'.map cK)) /\ 2 <= k'.length /\ cs'.Nodup /\ (∀ c ∈ cs', c ∈ K) /\ cs'.length <= 100
 | [], k, cs, hk, hn, _, hc, _, hl => ⟨k, cs, rfl, hk, hn, fun c h => (hc c h).2, by simpa using hl⟩
 | p :: ps, k, cs, hk, hn, hp, hc, hK, hl => by
  simp only [aM] at hl;obtain ⟨hp1, hp2⟩ := AU.mp hp;obtain ⟨d1, k1, e1, d10, d11, l1⟩ := eN (xQ (ds := cs.map cK) hk) (k := 2) (by decide) (by decide)
  have s1 : (sC k (cs.map cK)).set 0 (PL k1) = sC k1 (cs.map cK) := rfl;rw [s1] at e1;have hk1 : 2 <= k1.length := by omega
  by_cases c0 : d1 = 0
  ·obtain ⟨d2, k2, e2, d20, d21, l2⟩ := eN (xQ (ds := cs.map cK) hk1) (k := (cs.length : Int) + 1) (by omega) (by omega)
   have s2 : (sC k1 (cs.map cK)).set 0 (PL k2) = sC k2 (cs.map cK) := rfl;rw [s2] at e2;obtain ⟨u, rfl⟩ : ∃ u : Nat, d2 = (u : Int) := ⟨d2.toNat, by omega⟩
   have hat : ∀ kk : List Int, (sC kk (cs.map cK))[1]? = some (.lst (cs.map cK)) := fun _ => rfl
   have ins := Hz (k := u) (d := cK p) (hat k2) (by rw [bE]; exact sz (by omega)) (by omega)
   rw [<- Ha, show (sC k2 (cs.map cK)).set 1 (.lst ((tL cs u p).map cK)) = sC k2 ((tL cs u p).map cK) from rfl] at ins
   have hlen : eP (.cel 1) (sC k1 (cs.map cK)) = .ok (.dat (.int (cs.length : Int))) (sC k1 (cs.map cK)) := by rw [Dy (hat k1), bE]
   have nin : p ∉ cs := fun h => (hc p h).1 (aL ..)
   obtain ⟨k', cs', g1, g2⟩ := vL (K := K) ps k2 (tL cs u p) (by omega) (Dm hn nin) hp2 (fun c h => by
    rcases insG_mem.mp h with h | rfl
    ·exact ⟨fun z => (hc c h).1 (aK _ z), (hc c h).2⟩
    ·exact ⟨hp1, hK _ (aL ..)⟩) (fun c h => hK c (aK _ h)) (by rw [CQ]; omega)
   refine ⟨k', cs', ?_, g2⟩
   have q0 : ∀ {T : aO}, gR (.dat (.int d1)) (.dat (.int 0)) T = .ok (.dat (.bl true)) T := fun {T} => by rw [c0]; rfl
   rw [aN, loop];simp only [lP, aR, aP];rw [hG];simp! [e1, q0, LR, Ej (hat k1), hlen, e2, Ei, ins];rw [<- hG];exact g1
  ·obtain ⟨k', cs', g1, g2⟩ := vL (K := K) ps k1 cs hk1 hn hp2 (fun c h => ⟨fun z => (hc c h).1 (aK _ z), (hc c h).2⟩) (fun c h => hK c (aK _ h)) (by omega)
   refine ⟨k', cs', ?_, g2⟩
   have q0 : ∀ {T : aO}, gR (.dat (.int d1)) (.dat (.int 0)) T = .ok (.dat (.bl false)) T := fun {T} => by
    show Res.ok (Vl.dat (.bl (decide (d1 = 0)))) T = _
    rw [decide_eq_false c0]
   rw [aN, loop];simp only [lP, aR, aP];rw [hG];simp! [e1, q0];rw [<- hG];exact g1
def AllI (ds : List PH.D) : Prop := ∀ d ∈ ds, ∃ o, Itm o d
theorem AllI.itms : ∀ {ds : List PH.D}, AllI ds -> ∃ os, Itms os ds
 | [], _ => ⟨[], .nil⟩
 | d :: r, h => by
  obtain ⟨o, ho⟩ := h d (aL ..);obtain ⟨os, hs⟩ := AllI.itms (ds := r) fun x hx => h x (aK _ hx)
  exact ⟨o :: os, .cons ho hs⟩
def wrong9 : List PH.D := [.tup [.int 0, .tup []], .tup [.int 3, .tup [.int 0]], .non, .str "call", .lst [.int 0, .tup [.int 0]], .tup [.int 0, .tup [.int 0, .int 0]], .tup [.int (-1), .tup [.int 0]], .tup [.int 0, .tup [.lst [.int 0]]], .tup [.dct, .tup [.int 0]]]
theorem DJ : AllI wrong9 := fun d hd => by
 simp only [wrong9, bN, gL, or_false] at hd;rcases hd with rfl | rfl | rfl | rfl | rfl | rfl | rfl | rfl | rfl
 ·exact ⟨_, .pl (0, []) (by decide)⟩
 ·exact ⟨_, .pl (3, [0]) (by decide)⟩
 ·exact ⟨_, .odd JV⟩
 ·exact ⟨_, .odd JU⟩
 ·exact ⟨_, .odd JW⟩
 ·exact ⟨_, .pl (0, [0, 0]) (by decide)⟩
 ·exact ⟨_, .pl (-1, [0]) (by decide)⟩
 ·exact ⟨_, .odd Ly⟩
 ·exact ⟨_, .odd JX⟩
def wM (ps : List (Int × List Int × Stt)) : List PH.D := (ps.filter fun x => !x.2.2.isCall).map fun x => cK (Iw x)
section
variable {bs : List (List Stt)}
theorem Ij (G : Good2 bs) : ∀ x ∈ eB 0 bs, x.2.2.isOdd = false := fun x hx => by
 obtain ⟨j, b, h1, h2, h3⟩ := Ct (p := 0) hx;obtain ⟨j', _, h⟩ := mH 0 b 3 (G.ok b (eA h2)) _ h3;exact h.no
theorem Bt (G : Good2 bs) : (eB 0 bs).length <= 36 := by
 have h4 := uX (bs := bs) (p := 0) (n := 12) fun b hb => (G.gd b hb).2.2.1
 have h3 := G.l3;have : 12 * bs.length <= 36 := by omega
 omega
variable {v1 v8 : Option Vl} {v13 : Option Vl}
theorem Gk (G : Good2 bs) {S : aO} : uD false (.nm 9) (mB (bC vW (bC cL (bC cL (aD 9) (mC (.int 2))) (mC (.int 0))) (mC (.str "call")))) nQ [v0, v1, v2, v3, v4, v5, v6, v7, v8, none, v10, v11, v12, v13, v14, v15, v16] [9] (xK (eB 0 bs)) S = .ok (.dat (.lst (wM (eB 0 bs)))) S := by
 have few := Bt G;unfold uD xK;rw [bE, if_pos (sz (by omega)), nL (g := fun x => cK (Iw x)) (p := fun x => !x.2.2.isCall) fun x hx => ⟨_, rfl, by
  have i2 : ∀ S, cL (.dat (.tup [.int x.1, tupI x.2.1, x.2.2.d])) (.dat (.int 2)) S = .ok (.dat x.2.2.d) S := fun _ => rfl
  have iw : ∀ S, cL (.dat x.2.2.d) (.dat (.int 0)) S = .ok (.dat (.str x.2.2.word)) S := fun S => uE (Ij G x hx)
  simp! [i2, iw, pA], by
  have i0 : ∀ S, cL (.dat (.tup [.int x.1, tupI x.2.1, x.2.2.d])) (.dat (.int 0)) S = .ok (.dat (.int x.1)) S := fun _ => rfl
  have i1 : ∀ S, cL (.dat (.tup [.int x.1, tupI x.2.1, x.2.2.d])) (.dat (.int 1)) S = .ok (.dat (tupI x.2.1)) S := fun _ => rfl
  unfold nQ;simp! [i0, i1];rfl⟩]
 rfl
theorem DX (G : Good2 bs) {S : aO} : uD false (.nm 9) (mB (bC gR (bC cL (bC cL (aD 9) (mC (.int 2))) (mC (.int 0))) (mC (.str "call")))) nS [v0, v1, v2, v3, v4, v5, v6, v7, v8, none, v10, v11, v12, v13, v14, v15, v16] [9] (xK (eB 0 bs)) S = .ok (.dat (.lst ((nU bs).map cK))) S := by
 have few := Bt G;unfold uD xK;rw [bE, if_pos (sz (by omega)), nL (g := fun x => cK (Iw x)) (p := fun x => x.2.2.isCall) fun x hx => ⟨_, rfl, by
  have i2 : ∀ S, cL (.dat (.tup [.int x.1, tupI x.2.1, x.2.2.d])) (.dat (.int 2)) S = .ok (.dat x.2.2.d) S := fun _ => rfl
  have iw : ∀ S, cL (.dat x.2.2.d) (.dat (.int 0)) S = .ok (.dat (.str x.2.2.word)) S := fun S => uE (Ij G x hx)
  simp! [i2, iw, pA], by
  have i0 : ∀ S, cL (.dat (.tup [.int x.1, tupI x.2.1, x.2.2.d])) (.dat (.int 0)) S = .ok (.dat (.int x.1)) S := fun _ => rfl
  have i1 : ∀ S, cL (.dat (.tup [.int x.1, tupI x.2.1, x.2.2.d])) (.dat (.int 1)) S = .ok (.dat (tupI x.2.1)) S := fun _ => rfl
  unfold nS;simp! [i0, i1];rfl⟩]
 unfold nU;rw [gV];rfl
theorem FQ (G : Good2 bs) : AllI (wM (eB 0 bs)) := fun d hd => by
 unfold wM at hd;obtain ⟨x, hx, rfl⟩ := aU.mp hd;have := BH 0 (fun b hb => ⟨_, G.ok b hb⟩) x (nD.mp hx).1
 exact ⟨_, .pl (Iw x) (by show x.2.1.length <= 900; omega)⟩
theorem FP (G : Good2 bs) : (wM (eB 0 bs)).length <= 36 := by
 have few := Bt G;unfold wM;rw [bE];exact lN (iD ..) few
theorem Cp (G : Good2 bs) : ∀ (is : List PH.D) (k : List Int) (ds : List PH.D), 2 <= k.length -> AllI ds -> ds.length + is.length <= 200 ->
  ∃ (k' : List Int) (ds' : List PH.D), loop (.nm 13) lO is [v0, some (.cel 0), v2, v3, v4, v5, some (.dat (.lst (xK (eB 0 bs)))), v7, some (.cel 1), none, v10, v11, v12, none, none, v15, v16] (sC k ds) = .next [v0, some (.cel 0), v2, v3, v4, v5, some (.dat (.lst (xK (eB 0 bs)))), v7, some (.cel 1), none, v10, v11, v12, none, none, v15, v16] (sC k' ds') /\ AllI ds' /\ ds'.length <= 200
 | [], k, ds, hk, hA, hl => ⟨k, ds, rfl, hA, by simpa using hl⟩
 | i :: is, k, ds, hk, hA, hl => by
  simp only [aM] at hl;have rf := FP G;obtain ⟨W, hW⟩ : ∃ W, W = wrong9 ++ ds ++ wM (eB 0 bs) := ⟨_, rfl⟩;have hWl : W.length = 9 + ds.length + (wM (eB 0 bs)).length := by rw [hW, bO, bO]; rfl
  have hWA : AllI W := fun d hd => by
   rw [hW, bF, bF] at hd;rcases hd with (hd | hd) | hd
   ·exact DJ d hd
   ·exact hA d hd
   ·exact FQ G d hd
  obtain ⟨d1, k1, e1, d10, d11, l1⟩ := eN (xQ (ds := ds) hk) (k := (ds.length : Int) + 1) (by omega) (by omega)
  have s1 : (sC k ds).set 0 (PL k1) = sC k1 ds := rfl;rw [s1] at e1;obtain ⟨d2, k2, e2, d20, d21, l2⟩ := eN (xQ (ds := ds) (k := k1) (by omega)) (k := (W.length : Int)) (by omega) (by omega)
  have s2 : (sC k1 ds).set 0 (PL k2) = sC k2 ds := rfl;rw [s2] at e2;obtain ⟨u, rfl⟩ : ∃ u : Nat, d1 = (u : Int) := ⟨d1.toNat, by omega⟩
  obtain ⟨t, rfl⟩ : ∃ t : Nat, d2 = (t : Int) := ⟨d2.toNat, by omega⟩
  have ht : t < W.length := by omega
  have hix : atI W (t : Int) = some W[t] := by
   rw [dM (n := t) rfl];exact cA ht
  have hat : ∀ kk : List Int, (sC kk ds)[1]? = some (.lst ds) := fun _ => rfl
  have ins := Hz (k := u) (d := W[t]) (hat k2) (sz (by omega)) (by omega)
  rw [show ds.take u ++ [W[t]] ++ ds.drop u = tL ds u W[t] from rfl, show (sC k2 ds).set 1 (.lst (tL ds u W[t])) = sC k2 (tL ds u W[t]) from rfl] at ins
  obtain ⟨k', ds', g1, g2⟩ := Cp G is k2 (tL ds u W[t]) (by omega) (fun d hd => by
   rcases insG_mem.mp hd with hd | rfl
   ·exact hA d hd
   ·exact hWA _ (eO ht)) (by rw [CQ]; omega)
  refine ⟨k', ds', ?_, g2⟩
  have hlen : eP (.cel 1) (sC k ds) = .ok (.dat (.int (ds.length : Int))) (sC k ds) := Dy (hat k);have hlW : ∀ S, eP (.dat (.lst W)) S = .ok (.dat (.int (W.length : Int))) S := fun _ => rfl
  have a1 : cZ false (.dat (.lst wrong9)) (.cel 1) (sC k ds) = .ok (.dat (.lst (wrong9 ++ ds))) (sC k ds) := by
   have z : wrong9.length + ds.length <= sizeLine := sz (by show 9 + ds.length <= _; omega)
   simp only [cZ, kU, hat k, z, if_true];rfl
  have a2 : ∀ S, cZ false (.dat (.lst (wrong9 ++ ds))) (.dat (.lst (wM (eB 0 bs)))) S = .ok (.dat (.lst W)) S := fun S => by
   rw [jO (sz (by rw [bO]; show 9 + ds.length + _ <= _; omega)), hW]
   rfl
  have it : ∀ S, itemsOf (.dat (.lst (xK (eB 0 bs)))) S = .ok (xK (eB 0 bs)) S := fun _ => rfl
  have rest := Gk G (S := sC k ds) (v0 := v0) (v1 := some (.cel 0)) (v2 := v2) (v3 := v3) (v4 := v4) (v5 := v5) (v6 := some (.dat (.lst (xK (eB 0 bs))))) (v7 := v7) (v8 := some (.cel 1)) (v10 := v10) (v11 := v11) (v12 := v12) (v13 := some (.dat i)) (v14 := some (.dat (.lst wrong9))) (v15 := v15) (v16 := v16);obtain ⟨m9, hm9⟩ : ∃ m : FE, m = (cM false (aB (bW (aB (mC (.int 0)) (aB (bW aJ) aJ))) (aB (bW (aB (mC (.int 3)) (aB (bW (aB (mC (.int 0)) aJ)) aJ))) (aB (mC .non) (aB (mC (.str "call")) (aB (cM false (aB (mC (.int 0)) (aB (bW (aB (mC (.int 0)) aJ)) aJ))) (aB (bW (aB (mC (.int 0)) (aB (bW (aB (mC (.int 0)) (aB (mC (.int 0)) aJ))) aJ))) (aB (bW (aB (m1 oG (mC (.int 1))) (aB (bW (aB (mC (.int 0)) aJ)) aJ))) (aB (bW (aB (mC (.int 0)) (aB (bW (aB (cM false (aB (mC (.int 0)) aJ)) aJ)) aJ))) (aB (bW (aB (mC .dct) (aB (bW (aB (mC (.int 0)) aJ)) aJ))) aJ)))))))))) := ⟨_, rfl⟩;have m9e : ∀ {ρ : Ev} {S : aO}, m9 ρ S = .ok (.dat (.lst wrong9)) S := fun {ρ S} => by rw [hm9]; rfl
  rw [loop];simp only [lP, aR, aP];rw [lO, <- hm9];simp! [m9e, a1, it, rest, a2, LR, Ej (hat k), hlen, e1, Ei, hlW, e2, iX hix, ins];rw [hm9, <- lO];exact g1
end
end
theorem Itms.lets : ∀ {cs : List kR} {ds : List PH.D}, Itms (cs.map some) ds -> ds = cs.map cK
 | [], _, .nil => rfl
 | _ :: _, _, .cons (.pl c h) t => by rw [aN, Itms.lets t]
section
variable {bs : List (List Stt)} {cs : List kR} {v0 v1 v2 v3 v4 v5 v6 v7 v8 v9 v10 v11 v12 v13 v14 v15 : Option Vl}
theorem Ce {S : aO} {cv : Vl} (ls : LS S) (G : Good2 bs) (ic : InCh S cv cs) {e : FE} (he : ∀ (j : Nat) (b : PH.D), cL (.dat (.lst (bls bs))) (.dat (Iy j)) S = .ok (.dat b) S -> e [v0, v1, v2, v3, v4, v5, v6, v7, v8, v9, v10, v11, v12, v13, v14, v15, some (.dat (Iy j))] S = cU 10 [.dat b, .dat (Iy j), .dat (.tup []), cv] S) :
  uD false (.nm 16) lS e [v0, v1, v2, v3, v4, v5, v6, v7, v8, v9, v10, v11, v12, v13, v14, v15, none] [16] (gN 0 bs.length) S = .ok (.dat (.lst (bls (qQ cs 0 bs)))) S := by
 have h3 := G.l3;rw [Gi, iM (g := fun j : Nat => D.lst (bB (sI (pC cs (j : Int)) [] 0 (bs.getD j [])))) (by rw [List.length_range]; exact sz (by omega)) fun j hj => ⟨_, rfl, ?_⟩]
 ·rw [EO bs bs 0 (by simp), List.range_eq_range']
  rfl
 ·have hj := tR.mp hj
  have hb : bs[j]? = some (bs.getD j []) := by rw [iS, cA hj]; rfl
  have hm : bs.getD j [] ∈ bs := eA hb;have e1 := MC 10 (S := S) (i := (j : Int)) (path := []) (cs := cs) ls ic (G.gd _ hm).1 (G.ok _ hm) (by simp) (by decide)
  rw [show tupI [] = D.tup [] from rfl] at e1
  have hix : atI (bls bs) (j : Int) = some (.lst (bB (bs.getD j []))) := by
   rw [dM (n := j) rfl];unfold bls;rw [cY, hb];rfl
  have q := he j _ (iX (S := S) hix);have e1' : cU 10 [.dat (.lst (bB (bs.getD j []))), .dat (Iy j), .dat (.tup []), cv] S = .ok (.dat (.lst (bB (sI (pC cs (j : Int)) [] 0 (bs.getD j []))))) S := e1;rw [e1'] at q;exact q
end
theorem LD {i j : Int} {S : aO} : vW (.dat (AI i)) (.dat (.tup [.str "NoCall", .int j])) S = .ok (.dat (.bl (!decide (i = j)))) S := by
 have st : PyData.strOk "NoCall" = true := by decide +kernel
 have e := fNeP (S := S) (d := AI i) (e := AI j) ⟨by simp, st, trivial, trivial⟩ (by simp [AI, D.ht, D.hts]) ⟨by simp, st, trivial, trivial⟩ (by simp [AI, D.ht, D.hts])
 have q : sX (AI i) (AI j) = decide (i = j) := by
  unfold AI;rw [sL, fR, fR, zP];have a : sX (.str "NoCall") (.str "NoCall") = true := by
   show PyData.eqv (.str "NoCall") (.str "NoCall") = true
   simp [PyData.eqv]
  rw [a, hE, DC];exact zQ (i := i) (j := j) rfl rfl
 rw [q] at e;exact e
theorem wW : ∀ {cs : List kR}, wB (cs.map (mT .int)) (cs.map (mT .int)) = true
 | [] => rfl
 | c :: r => by
  rw [aN, fR, Bo rfl pN rfl pN, wW];simp
theorem HD (S : aO) : LS (deadS S) := fun c hc n => by
 unfold deadS at hc;obtain ⟨d, _, rfl⟩ := aU.mp hc;rfl
theorem JZ {k : List Int} {cs : List kR} (hl : cs.length <= 900) (h : ∀ c ∈ cs, c.2.length <= 900) : vW (.dat (.lst (cs.map cK))) (.cel 1) (sC k (cs.map cK)) = .ok (.dat (.bl false)) (sC k (cs.map cK)) := by
 obtain ⟨b1, b2⟩ := Bg (f := .int) (cs := cs) (CdG.int h) hl;have e := fNeP (S := sC k (cs.map cK)) b1 (show (AK .int cs).ht <= 64 from lN b2 (by decide)) b1 (show (AK .int cs).ht <= 64 from lN b2 (by decide))
 have q : sX (AK .int cs) (AK .int cs) = true := by
  unfold AK;rw [Kc];exact wW
 rw [q] at e;exact e
theorem law_true_k11 : ∀ ns : List Int, ns.length <= 63 -> ∃ S, m_law_k11 [.scr ns] [] = .ok (.dat (.bl true)) S := by
 intro ns hn;refine ⟨[], ?_⟩
 rw [G5];obtain ⟨k0, e0, h0⟩ := JN (S := []) hn;have P0 : PoolAt ([] ++ [PL k0]) 0 k0 := ⟨rfl, h0⟩;obtain ⟨d1, k1, e1, d10, d11, l1⟩ := eN P0 (k := 4) (by decide) (by decide)
 have P1 := P0.next l1;obtain ⟨d2, k2, e2, d20, d21, l2⟩ := eN P1 (k := 3) (by decide) (by decide)
 have P2 := P1.next l2;have ls0 : ∀ k : List Int, LS [PL k] := fun k c hc n => by rw [bK.mp hc]; rfl
 obtain ⟨m, rfl⟩ : ∃ m : Nat, d1 = (m : Int) := ⟨d1.toNat, by omega⟩
 obtain ⟨nf, rfl⟩ : ∃ m : Nat, d2 = (m : Int) := ⟨d2.toNat, by omega⟩
 have sh : ∀ k : List Int, (([] : aO) ++ [PL k]) = [PL k] := fun _ => rfl
 simp only [jB, sh, aP, bM] at e0 e1 e2 P2;obtain ⟨bs, k3, e3, G, l3⟩ := EA (n := m) P2 (ls0 k2) (by omega)
 simp only [aP] at e3;have h3 := G.l3;have hk3 : 2 <= k3.length := by have := P2.2; omega
 have hk : ∀ b ∈ bs, OkL (bs.length : Int) b 3 /\ bH b <= 12 := fun b hb => ⟨G.ok b hb, (G.gd b hb).2.2.1⟩
 have cplen : ∀ c ∈ nU bs, c.2.length <= 900 := fun c hc => by have := lV G c hc; omega
 have few := Bp G;obtain ⟨k4, cs, e4, hk4, nd, hcs, hcl⟩ := vL (K := nU bs) (v0 := some (.scr ns)) (v2 := some (.dat (.int (m : Int)))) (v3 := some (.dat (.int (nf : Int)))) (v4 := some (.dat (.lst (bls bs)))) (v5 := some (.dat (cD bs))) (v6 := some (.dat (.lst (xK (eB 0 bs))))) (v7 := some (.dat (.lst ((nU bs).map cK)))) (v10 := none) (v11 := none) (v12 := none) (v14 := none) (v15 := none) (v16 := none) (nU bs) k3 [] hk3 eQ (Fw bs) (fun c h => nomatch h) (fun c h => h) (by simp; omega)
 have itA : ∀ S, itemsOf (.dat (.lst (xK (eB 0 bs)))) S = .ok (xK (eB 0 bs)) S := fun _ => rfl
 have itK : ∀ S, itemsOf (.dat (.lst ((nU bs).map cK))) S = .ok ((nU bs).map cK) S := fun _ => rfl
 have sC0 : [PL k3] ++ [Cell.lst []] = sC k3 (([] : List kR).map cK) := rfl;unfold oW;simp! [e0, e1, e2, e3, Iq G.ok (show 3 <= 9 by omega) (show bs.length <= 10 by omega), zH (ls0 k3) G, Bu (ls0 k3) (show 3 <= 9 by omega) hk h3, itA, DX G, itK, sC0, e4]
 -- the first answer
 obtain ⟨S, hS⟩ : ∃ S, S = sC k4 (cs.map cK) := ⟨_, rfl⟩;have lsS : LS S := by rw [hS]; exact sC_ls
 have hat : S[1]? = some (.lst (cs.map cK)) := by rw [hS]; rfl
 have G' : Good2 (qQ cs 0 bs) := (vA bs 0 fun b hb => (G.gd b hb).1).good G
 have pl' := uN G';have rg : ∀ S, zL (.dat (.int (bs.length : Int))) S = .ok (gN 0 bs.length) S := fun S => by
  rw [gG (show -(2 ^ 62) <= (bs.length : Int) by omega) (show (bs.length : Int) < 2 ^ 62 by omega), cG]
 have due := Ce (cs := cs) (S := S) (v0 := some (.scr ns)) (v1 := some (.cel 0)) (v2 := some (.dat (.int (m : Int)))) (v3 := some (.dat (.int (nf : Int)))) (v4 := some (.dat (.lst (bls bs)))) (v5 := some (.dat (cD bs))) (v6 := some (.dat (.lst (xK (eB 0 bs))))) (v7 := some (.dat (.lst ((nU bs).map cK)))) (v8 := some (.cel 1)) (v9 := none) (v10 := none) (v11 := none) (v12 := none) (v13 := none) (v14 := none) (v15 := none) lsS G (.cel hat) (e := nR) fun j b q => by
  unfold nR;rw [HF];simp! [q]
 have fl : rQ false (.cel 1) S = .ok (.dat (.lst (cs.map cK))) S := by
  simp only [rQ, kU, hat];rfl
 have sv : cR [.dat (cD bs), .dat (.lst (cs.map cK))] S = .ok (.dat (GQ (qQ cs 0 bs))) S := nK (vC (f := .int) lsS G nd hcs (by omega) (CdG.int fun c hc => cplen c (hcs c hc))) G'
 have t0 : ∀ {cs : List kR} (S : aO), cL (.dat (GQ (qQ cs 0 bs))) (.dat (.int 0)) S = .ok (.dat (.str "told")) S := fun _ => rfl
 have t1 : ∀ {cs : List kR} (S : aO), cL (.dat (GQ (qQ cs 0 bs))) (.dat (.int 1)) S = .ok (.dat (.lst (bls (qQ cs 0 bs)))) S := fun _ => rfl
 have nec : vW (.dat (.lst (cs.map cK))) (.cel 1) S = .ok (.dat (.bl false)) S := by
  rw [hS];exact JZ (by omega) fun c hc => cplen c (hcs c hc)
 have tw : MH gO [.dat (cD bs), .cel 1, .dat (.lst (bls (qQ cs 0 bs)))] S = .ok (.dat (.bl true)) S := by
  refine MG (es := [cD bs, .lst (cs.map cK), .lst (bls (qQ cs 0 bs))]) ?_ (GL (HD S) G nd hcs (by omega)) rfl
  have d : ∀ d, Ku (J2 S 4) (.dat d) = some d := fun _ => rfl
  have c : Ku (J2 S 4) (.cel 1) = some (.lst (cs.map cK)) := by
   show J2 S 4 1 = _
   unfold J2;rw [hat]
  simp only [AN, d, c]
 rw [<- hS];unfold pG;simp! [mQ, rg, due, fl, sv, t0, t1, xP, tU 20 pl'.1 pl'.2, nec];unfold pH;simp! [g_rd, tw]
 -- the faults
 unfold pI;rw [hS];have rn : ∀ S, zL (.dat (.int (nf : Int))) S = .ok (gN 0 nf) S := fun S => by
  rw [gG (show -(2 ^ 62) <= (nf : Int) by omega) (show (nf : Int) < 2 ^ 62 by omega), cG]
 obtain ⟨k5, ds, e5, hA, hdl⟩ := Cp (v0 := some (.scr ns)) (v2 := some (.dat (.int (m : Int)))) (v3 := some (.dat (.int (nf : Int)))) (v4 := some (.dat (.lst (bls bs)))) (v5 := some (.dat (cD bs))) (v7 := some (.dat (.lst ((nU bs).map cK)))) (v10 := some (.dat (.lst (bls (qQ cs 0 bs))))) (v11 := some (.dat (.lst (cs.map cK)))) (v12 := some (.dat (GQ (qQ cs 0 bs)))) (v15 := none) (v16 := none) G (gN 0 nf) k4 (cs.map cK) hk4 (fun d hd => by
  obtain ⟨c, hc, rfl⟩ := aU.mp hd;exact ⟨_, .pl c (cplen c (hcs c hc))⟩) (by rw [bE, show (gN 0 nf).length = nf by simp [gN]]; omega)
 simp! [rn, e5];unfold pJ;obtain ⟨os, hI⟩ := hA.itms;obtain ⟨T, hT⟩ : ∃ T, T = (sC k5 ds).set 1 .dead := ⟨_, rfl⟩;have lsT : LS T := by
  rw [hT];intro c hc n;simp only [sC, aR, aP, bN, gL, or_false] at hc;rcases hc with rfl | rfl <;> rfl
 have ez : An 8 [some (.scr ns), some (.cel 0), some (.dat (.int (m : Int))), some (.dat (.int (nf : Int))), some (.dat (.lst (bls bs))), some (.dat (cD bs)), some (.dat (.lst (xK (eB 0 bs)))), some (.dat (.lst ((nU bs).map cK))), some (.cel 1), none, some (.dat (.lst (bls (qQ cs 0 bs)))), some (.dat (.lst (cs.map cK))), some (.dat (GQ (qQ cs 0 bs))), none, none, none, none] (sC k5 ds) = .next [some (.scr ns), some (.cel 0), some (.dat (.int (m : Int))), some (.dat (.int (nf : Int))), some (.dat (.lst (bls bs))), some (.dat (cD bs)), some (.dat (.lst (xK (eB 0 bs)))), some (.dat (.lst ((nU bs).map cK))), some (.dat (.lst ds)), none, some (.dat (.lst (bls (qQ cs 0 bs)))), some (.dat (.lst (cs.map cK))), some (.dat (GQ (qQ cs 0 bs))), none, none, none, none] T := by
  rw [hT];exact Hy rfl rfl
 have du := Kg (S := T) (ks := nU bs) (by omega) cplen hI (by omega)
 have fl2 : ∀ S, rQ false (.dat (.lst ds)) S = .ok (.dat (.lst ds)) S := fun _ => rfl
 have ft : ∀ S, fTuple (.dat (.lst ds)) S = .ok (.dat (.tup ds)) S := fun _ => rfl
 have no1 : cR [.dat (cD bs), .dat (.tup ds)] T = .ok (.dat (AI (-1))) T := mN (CB lsT rfl);have no2 : cR [.dat (cD bs), .dat .non] T = .ok (.dat (AI (-1))) T := mN (CB lsT rfl);have ng : ∀ S, oG (.dat (.int 1)) S = .ok (.dat (.int (-1))) S := fun _ => rfl
 have G0 : Good2 (qQ [] 0 bs) := (vA bs 0 fun b hb => (G.gd b hb).1).good G
 have pl0 := uN G0;have plb := uN G;have sv0 : cR [.dat (cD bs), .dat (.lst [])] T = .ok (.dat (GQ (qQ [] 0 bs))) T := nK (yM (cs := []) lsT G (by simp) rfl) G0
 have hb : ∀ S, lT S "Book" "bodies" (.dat (cD bs)) = true := fun _ => rfl
 have bo := BF (S := T) G.ok (show 3 <= 9 by omega) (show bs.length <= 10 by omega)
 have tail : ∀ (v12 v15 : Option Vl), nH [some (.scr ns), some (.cel 0), some (.dat (.int (m : Int))), some (.dat (.int (nf : Int))), some (.dat (.lst (bls bs))), some (.dat (cD bs)), some (.dat (.lst (xK (eB 0 bs)))), some (.dat (.lst ((nU bs).map cK))), some (.dat (.lst ds)), none, some (.dat (.lst (bls (qQ cs 0 bs)))), some (.dat (.lst (cs.map cK))), v12, none, none, v15, none] T = .ret (.dat (.bl true)) T := fun v12 v15 => by
  have due0 := Ce (cs := []) (S := T) (v0 := some (.scr ns)) (v1 := some (.cel 0)) (v2 := some (.dat (.int (m : Int)))) (v3 := some (.dat (.int (nf : Int)))) (v4 := some (.dat (.lst (bls bs)))) (v5 := some (.dat (cD bs))) (v6 := some (.dat (.lst (xK (eB 0 bs))))) (v7 := some (.dat (.lst ((nU bs).map cK)))) (v8 := some (.dat (.lst ds))) (v9 := none) (v10 := some (.dat (.lst (bls (qQ cs 0 bs))))) (v11 := some (.dat (.lst (cs.map cK)))) (v12 := v12) (v13 := none) (v14 := none) (v15 := v15) lsT G .dat (e := nP) fun j b q => by
   unfold nP;simp! [q];rfl
  unfold nH;simp! [ft, no1, no2, ng, LD];unfold qZ;simp! [sv0, t1, mQ, rg, due0, tU 20 pl0.1 pl0.2, pV (hb T), bo, tU 20 plb.1 plb.2]
 cases q : lB (nU bs) 0 [] os with
 | none =>
  obtain ⟨cs2, ec, _, _⟩ := wC (seen := []) eQ (fun c h => (nomatch h)) q
  have ed : ds = cs2.map cK := Itms.lets (ec ▸ hI);have l2 : cs2.length <= 900 := by
   have : ds.length = cs2.length := by rw [ed, bE]
   omega
  have G2 : Good2 (qQ cs2 0 bs) := (vA bs 0 fun b hb => (G.gd b hb).1).good G
  have s2 : cR [.dat (cD bs), .dat (.lst ds)] T = .ok (.dat (GQ (qQ cs2 0 bs))) T := by
   rw [ed];exact nK (yM lsT G l2 (ec ▸ q)) G2
  rw [q] at du;simp! [ez, du, NH, fl2, s2];unfold nG;simp! [t0, xP, tail];exact GP
 | some k =>
  have s2 : cR [.dat (cD bs), .dat (.lst ds)] T = .ok (.dat (AI (k : Int))) T := mN (DR lsT G hI q);rw [q] at du;have g0 : decide ((k : Int) ≥ 0) = true := decide_eq_true (by omega)
  have g1 : decide ((k : Int) < 0) = false := decide_eq_false (by omega)
  simp! [ez, du, NH, fl2, s2, g0, LD];unfold nG;simp! [g1, tail];exact GP
end PH
open PySem PySem.W PySem.Calls PyProof.Rows
set_option maxHeartbeats 0 in
theorem PySem.Challenge.cw_penhome_k11_saved_calls_holds : PySem.Challenge.rw_penhome_k11_saved_calls.Holds := by
 w_on; o_law
 refine HandSHeadRun.head_any (r := OpenLaw.row PySem.Challenge.rw_penhome_k11_saved_calls) (q := view (OpenLaw.row PySem.Challenge.rw_penhome_k11_saved_calls).prog [50]) (H := PHZ.hk) (ob := PHZ.ob) (M := 8000) (loose := PHZ.loose) (d := HandSHeadRun.topDef (OpenLaw.row PySem.Challenge.rw_penhome_k11_saved_calls).prog 50) (kwd := []) PHZ.ob_eq
  (by kernel_rfl) (fun s => by kernel_rfl) PHZ.run_ (by kernel_rfl) (by kernel_rfl) (by kernel_rfl) (by rfl) (by first | assumption | decide +kernel) (by decide +kernel) ⟨rfl, rfl, rfl, rfl, rfl, by decide +kernel⟩ ?hw ?hc
 case hw => w_witness2
 case hc =>
  refine PH.walk_x (l := PySem.Challenge.rw_penhome_k11_saved_calls) (n := 63) (k := 37) (x := "_law_script") rfl (by decide) (by kernel_rfl) ⟨rfl, by decide, by decide⟩ ?F
  intro w mg fa h Y G hmg0;obtain ⟨K, KX, c⟩ := Y;have hmg : mg ("law" : PySem.Str) = some (.ref fa) := by
   have e : (HandSHeadRun.topDef (OpenLaw.row PySem.Challenge.rw_penhome_k11_saved_calls).prog 50).name = ("law" : PySem.Str) := by kernel_rfl
   rw [<- e];exact hmg0
  have T := PHZ.txt (w := w) KX G c;have e := hmg.symm.trans T.G_law_k11;cases e;obtain ⟨fd, b, F⟩ := PHZ.law_fn (P := (PySem.Challenge.rw_penhome_k11_saved_calls).prog) T;exact ⟨K, fd, PH.spF K PH.m_law_k11, KX, fun s v => b s [v] rfl, fun H a ns hl hO hS => PH.law_start PH.law_true_k11 H a ns hl hO hS, fun base _ _ => F base⟩
