import PyProof.Rows.All
import Wide.All
import OpenK.AllK
import Wide.FinOn
import KE.KStateDown
import Lean
import HandS.ForMost
import HandS.ForExc
import HandS.More
import HandS.Flow
import HandS.IsInst
import HandS.Defaults
import HandS.Head0
import HandS.Head1
import HandS.Head2
import HandS.HeadEnd
import HandS.HeadHook1
import HandS.HeadHook2
import HandS.HeadHook3
import HandS.TupAny
import HandS.Star
import HandS.Wide
import HandS.Zip
import HandS.Rev
import HandS.TryMany
import HandS.Small
import HandS.RaiseMore
import HandS.OwnEq
import HandS.Walk
import HandS.Deep
import HandS.ExcInit
import HandS.ExcField
import HandS.RevRange
import HandS.SortInts
import KE.GoesMore
import HandS.CallSlots
import PyProof.Rows.NestShow
import HandS.Dict
import HandS.Style
import HandS.Text
import HandS.FStr
import HandS.StrMore
import HandS.SetFor
import PyProof.InstNe
import HandS.ReplaceLit
import KE.SortKeyHeap
import HandS.ExcValue
import HandS.SortKw
import HandS.SetKeys
import HandS.WordsDict
import HandS.Conv
import HandS.DictComp
import HandS.Iter
import HandS.TupLen
import HandS.GenList
import HandS.IterNext
import HandS.DictSub
import HandS.GenOver
import HandS.ExcInitHot
import KE.KExcIs
import PyProof.EqKinds
import PyProof.FactsAll.dict
import PyProof.P3In
import HandS.Property
import HandS.MakeKwOnly
import KE.KCallOwn
import HandS.ExcIs
import HandS.HeadNt
import KE.KEqDict
import PyProof.ReprLen
import PyProof.StrLawsRepr
import PySem.Challenge.RW_penhome_k08_book_keeps_its_own_copy
set_option Elab.async false
set_option linter.all false
set_option maxRecDepth 100000
set_option maxHeartbeats 4000000
open PySem.W renaming Frag → aB, findIn → cR, fnOf → eS, nsIn → gK, view → iW, typeIn → qP, kitOne → qQ, specialIn → tI, takesIn → vP, SharedT → vQ, mroIn → AW, boot_heap → FX, openGood → Ff
open And renaming intro → aD
open List renaming getElem?_eq_some_iff → aH, getElem?_append_left → aJ, map_cons → aM, length_map → aQ, mem_cons_of_mem → aU, getElem?_set → aV, all_eq_true → aW, mem_cons_self → aY, getElem?_eq_getElem → bA, map_nil → bC, length_cons → bE, getElem?_append_right → bH, length_nil → bS, drop_eq_getElem_cons → bW, getElem?_eq_none_iff → cF, getElem?_map → cG, append_nil → cL, set_cons_zero → cM, lookup_cons → cO, length_eq_zero_iff → cP, set_cons_succ → dA, getElem_mem → dN, mem_singleton → dQ, getElem?_take → fC, zip_cons_cons → fD, mem_cons → fK, map_map → gR, mem_map → gS, all_cons → iF, length_append → iV, length → iX, range → kM, mem_append → lM, set_set → lQ, replicate → mS, drop_length → oY, length_drop → oZ, mem_of_getElem? → rR, map_congr_left → tH, ext_getElem? → vE, nil_append → zA, length_set → zC, mem_range → BO, mem_or_eq_of_mem_set → BP, getElem?_replicate → Cf, range_succ_eq_map → Da, set_append_right → EU, forall_mem_cons → FY, range' → Fb
open Nat renaming le_refl → bN, le_of_not_lt → pA, zero_add → qR, mul_le_mul_right → rS, zero_le → zB, sub_self → ET
open Int renaming emod_lt_of_pos → cN, emod_nonneg → cU, toNat_natCast → oM, eq_ofNat_of_zero_le → Dc
open Bool renaming and_eq_true → dM, and_false → BN, and_eq_true_iff → FZ
open Or renaming inr → nJ, inl → qT
namespace PH
open PySem PySem.Spec PyProof.Rows L2
def rO : Stmt -> List Stmt
 | .ClassDef _ _ _ b _ _ _ _ _ _ _ => b
 | _ => []
def limits : List (Str × Nat × Int × Int) := [("go", 1, -9, 9), ("turn", 1, 1, 3), ("mirror", 0, 0, 0), ("scale", 1, -3, 3), ("aim", 2, -9, 9), ("place", 2, -9, 9), ("mark", 0, 0, 0), ("return", 0, 0, 0), ("exchange", 0, 0, 0)]
def Bv (K : aB) (z : Str) : Addr := match gK K (He.ga K "LIMITS") z with
 | some (some (.ref a)) => a
 | _ => 0
def Cj (K : aB) (a : Addr) (vs : List V) : Bool := match K.lookup a with
 | some ⟨.type c, _, .seq its _, _⟩ => decide (c = "tuple") && (decide (its.size <= sizeLine) && He.relAll vs its.toList)
 | _ => false
def limB (K : aB) : Bool := limits.all fun q => He.eqO (gK K (He.ga K "LIMITS") q.1) (some (some (.ref (Bv K q.1)))) && Cj K (Bv K q.1) [.int (q.2.1 : Nat), .int q.2.2.1, .int q.2.2.2]
def Cu : He.Tab := (fun K => He.ga K "LIMITS", limits.map (·.1))
def Ka (K : aB) (C : Addr) : Bool := match K.lookup C with
 | some ⟨.type "type", _, .cls cd, sl⟩ => (match cd.mro, sl.toList with
  | .ref C' :: bm, [_, _, _, _, some (.builtin n), _] => C' == C && n == "ValueError.__new__" && !cd.hasDel && cd.hasDict && PySem.HandSPX.refsVE bm
  | _, _ => false)
 | _ => false
def xaB (K : aB) (x : Str) (fs : List Str) : Bool := Ka K (He.ga K x) && (decide (cR K (.ref (He.ga K x)) "__setattr__" = some (some (.builtin "object.__setattr__"))) && (decide (PySem.W.subIn K (.ref (He.ga K x)) (.type "BaseException") = some true) && (decide (qP K (.ref (He.ga K x)) = some (.type "type")) && (PySem.W.keepIn K (.ref (He.ga K x)) && (decide (cR K (.ref (He.ga K x)) "__init__" = some (some (.ref (He.ma K (He.ga K x) "__init__")))) && (decide (qP K (.ref (He.ma K (He.ga K x) "__init__")) = some (.type "function")) && (xfB K (He.ga K x) && fs.all fun f => decide (cR K (.ref (He.ga K x)) f = some none))))))))
def isB (K : aB) (C : Str) : Bool := decide (cR K (.ref (He.ga K C)) "__class__" = some (some (.builtin "object.__class__"))) && (decide (tI K (.builtin "object.__class__") "__get__" = some (some (.builtin "getset_descriptor.__get__"))) && (decide (vP K (.builtin "object.__class__") = some true) && decide (AW K (He.ga K C) (.type "object") = some true)))
end PH
namespace PH
open PySem PySem.Spec PyProof PyProof.Rows L2
def frR (g : Addr -> Option Obj) (n : Nat) : aB := He.frG g (kM n)
def Kb (n : Nat) (fa : List He.Fa) (fn : List He.DefD) (ts : List He.Tab) (ex : aB -> Bool) (g : Addr -> Option Obj) : He.AlT × Bool := (He.obsT fa fn ts (frR g n), ex (frR g n))
def Jz (n : Nat) (fa : List He.Fa) (fn : List He.DefD) (ts : List He.Tab) (ex : aB -> Bool) : PySem.W.Hook where
 α := He.AlT × Bool
 obs := fun s => Kb n fa fn ts ex s.heap.get?
 val := fun w => (He.valT fn ts w, true)
 says := fun w h => ∃ K : aB, K.In h /\ He.SaysT fa fn ts w K /\ ex K = true
 of := fun _ _ e => ⟨_, He.frG_in, congrArg (fun z : He.AlT × Bool => z.1) e, congrArg (fun z : He.AlT × Bool => z.2) e⟩
 keeps := fun _ _ _ ⟨K, hK, c⟩ k => ⟨K, PySem.W.Frag.In.keeps hK k, c⟩
def obC (c : List He.DefD) (K : aB) : Bool × List He.FnW := (c.all fun d => d.ok K, c.map fun d => He.fnW K d.at_)
theorem zJ {σ β γ : Type} {o : Option σ} {l : σ -> β} {b : β} {sn : σ -> γ} {c : γ} {K : σ -> aB} {fa : List He.Fa} {fs : List (List He.DefD)} {ts : List He.Tab} {ex : aB -> Bool} {tv : List (Option (List (Option (Str × Int))))}
  (hA : (o.map fun s => (l s, sn s, fa.all fun f => f.ok (K s), ts.map fun t => He.dicW (K s) (t.1 (K s)), ex (K s))) = some (b, c, true, tv, true))
  (hD : ∀ f ∈ fs, (o.map fun s => obC f (K s)) = some (true, f.map He.DefD.val)) :
  (o.map fun s => (l s, sn s, (He.obsT fa fs.flatten ts (K s), ex (K s)))) = some (b, c, ((true, fs.flatten.map He.DefD.val), tv), true) := by
 cases o with
 | none => cases hA
 | some s =>
  have hA := Option.some.inj hA;have h1 := congrArg (fun z => z.1) hA
  have h2 := congrArg (fun z => z.2.1) hA
  have h3 := congrArg (fun z => z.2.2.1) hA
  have h4 := congrArg (fun z => z.2.2.2.1) hA
  have h5 := congrArg (fun z => z.2.2.2.2) hA
  dsimp only at h1 h2 h3 h4 h5;have hf : ∀ f ∈ fs, (f.all fun d => d.ok (K s)) = true /\ (f.map fun d => He.fnW (K s) d.at_) = f.map He.DefD.val := fun f hf => by
   have z := Option.some.inj (hD f hf);exact ⟨congrArg (fun z => z.1) z, congrArg (fun z => z.2) z⟩
  have hall : (fs.flatten.all fun d => d.ok (K s)) = true := by
   rw [aW];intro d hd;obtain ⟨f, h1, h2⟩ := List.mem_flatten.mp hd;exact aW.mp (hf f h1).1 d h2
  have hmap : (fs.flatten.map fun d => He.fnW (K s) d.at_) = fs.flatten.map He.DefD.val := by
   rw [List.map_flatten, List.map_flatten]
   congr 1
   exact tH fun f h => (hf f h).2
  show some (l s, sn s, ((((fa.all fun f => f.ok (K s)) && (fs.flatten.all fun d => d.ok (K s)), fs.flatten.map fun d => He.fnW (K s) d.at_), ts.map fun t => He.dicW (K s) (t.1 (K s))), ex (K s))) = _
  rw [h1, h2, h3, h4, h5, hall, hmap];rfl
def oV (n : Str) (s : Stmt) : He.DefD := ⟨(n, none), n, n, defArgs s, defBody s, defScope s, [], []⟩
end PH
namespace PHZ
open PH PySem PySem.Spec PyProof.Rows L2
def top (i : Nat) : Stmt := PySem.Challenge.pw_penhome_k08_book_keeps_its_own_copy.main.body.getD i (.Pass ⟨0, 0, 0, 0⟩)
abbrev nL : Stmt := top 8
abbrev wC : Stmt := top 9
abbrev kQ : Stmt := top 10
abbrev pE : Stmt := top 16
abbrev mK : Stmt := top 17
abbrev iH : Stmt := top 19
abbrev eL : Stmt := top 18
abbrev mL : Stmt := top 20
abbrev mM : Stmt := top 21
abbrev hX : Stmt := (rO (top 23)).getD 0 (.Pass ⟨0, 0, 0, 0⟩)
abbrev lF : Stmt := (rO (top 23)).getD 1 (.Pass ⟨0, 0, 0, 0⟩)
abbrev mX : Stmt := (rO (top 23)).getD 2 (.Pass ⟨0, 0, 0, 0⟩)
abbrev eZ : Stmt := (rO (top 23)).getD 6 (.Pass ⟨0, 0, 0, 0⟩)
abbrev rY : Stmt := top 26
abbrev wH : Stmt := top 27
abbrev pG : Stmt := top 28
abbrev wG : Stmt := top 29
abbrev tO : Stmt := top 31
abbrev tP : Stmt := top 30
abbrev rH : Stmt := top 32
abbrev wJ : Stmt := top 33
abbrev wI : Stmt := top 34
abbrev nO : Stmt := top 35
abbrev wF : Stmt := top 36
abbrev rZ : Stmt := top 37
abbrev nN : Stmt := top 38
abbrev rX : Stmt := top 40
abbrev rG : Stmt := top 41
abbrev rF : Stmt := top 36
abbrev nM : Stmt := top 37
abbrev kR : Stmt := top 38
abbrev kI : Stmt := top 17
abbrev mN : Stmt := top 16
abbrev dX : Stmt := top 18
abbrev fX : Stmt := top 19
abbrev eW : Stmt := (rO (top 23)).getD 0 (.Pass ⟨0, 0, 0, 0⟩)
abbrev kS : Stmt := top 35
abbrev pF : Stmt := top 39
abbrev kH : Stmt := top 17
abbrev dW : Stmt := top 18
abbrev fW : Stmt := top 19
abbrev dU : Stmt := (rO (top 23)).getD 6 (.Pass ⟨0, 0, 0, 0⟩)
abbrev qF : Stmt := top 42
abbrev mV : Stmt := (rO (top 3)).getD 0 (.Pass ⟨0, 0, 0, 0⟩)
def qY : He.DefD := oV "is_integer" nL
def AE : He.DefD := oV "is_bit" wC
def qZ : He.DefD := oV "is_command" kQ
def sP : He.DefD := oV "blocks_of" pE
def pW : He.DefD := oV "with_blocks" mK
def oT : He.DefD := oV "copied_block" iH
def kP : He.DefD := oV "copied_statement" eL
def pX : He.DefD := oV "well_formed" mL
def pY : He.DefD := oV "first_fault" mM
def sS : He.DefD := ⟨("Book", some "__init__"), "__init__", "Book.__init__", defArgs hX, defBody hX, defScope hX, [], []⟩
def uW : He.DefD := ⟨("Book", some "__len__"), "__len__", "Book.__len__", defArgs lF, defBody lF, defScope lF, [], []⟩
def xY : He.DefD := ⟨("Book", some "__eq__"), "__eq__", "Book.__eq__", defArgs mX, defBody mX, defScope mX, [], []⟩
def qB : He.DefD := ⟨("Book", some "bodies"), "bodies", "Book.bodies", defArgs eZ, defBody eZ, defScope eZ, [], []⟩
def AH : He.DefD := oV "_law_pool" rY
def AJ : He.DefD := oV "_law_draw" wH
def sR : He.DefD := oV "_law_command" pG
def AI : He.DefD := oV "_law_pair" wG
def xW : He.DefD := oV "_law_piece" tO
def xX : He.DefD := oV "_law_block" tP
def uV : He.DefD := oV "_law_around" rH
def AM : He.DefD := oV "_law_body" wJ
def AL : He.DefD := oV "_law_book" wI
def uU : He.DefD := oV "_law_blocks" nO
def AF : He.DefD := oV "_law_with" wF
def AK : He.DefD := oV "_law_copy" rZ
def uT : He.DefD := oV "_law_copies" nN
def AG : He.DefD := oV "_law_same" rX
def uR : He.DefD := oV "_law_good" rG
def uQ : He.DefD := oV "_law_with" rF
def uS : He.DefD := oV "_law_copy" nM
def rA : He.DefD := oV "_law_copies" kR
def nD : He.DefD := oV "with_blocks" kI
def pZ : He.DefD := oV "blocks_of" mN
def jE : He.DefD := oV "copied_statement" dX
def mD : He.DefD := oV "copied_block" fX
def qA : He.DefD := ⟨("Book", some "__init__"), "__init__", "Book.__init__", defArgs eW, defBody eW, defScope eW, [], []⟩
def rB : He.DefD := oV "_law_blocks" kS
def sQ : He.DefD := oV "_law_lists" pF
def nC : He.DefD := oV "with_blocks" kH
def jD : He.DefD := oV "copied_statement" dW
def lZ : He.DefD := oV "copied_block" fW
def nE : He.DefD := ⟨("Book", some "bodies"), "bodies", "Book.bodies", defArgs dU, defBody dU, defScope dU, [], []⟩
def xV : He.DefD := oV "law" qF
def xU : He.DefD := ⟨("NoBook", some "__init__"), "__init__", "NoBook.__init__", defArgs mV, defBody mV, defScope mV, [], []⟩
def fa : List He.Fa := ([.free "isinstance", .free "int", .free "bool", .free "tuple", .free "len", .free "str", .glo "LIMITS", .free "all", .int "DEEPEST" 3, .free "list", .free "enumerate", .int "MOST_IN_LIST" 8, .int "MOST_IN_PROCEDURE" 12, .int "MOST_PROCEDURES" 3, .glo "NoBook", .cls "Book", .noat "Book" "own", .cls "Book", .glo "Book", .free "range"] : List He.Fa) ++ ([.cls "Book", .mkr "Book", .glo "Book", .glo "is_integer", .glo "is_bit", .glo "is_command", .glo "blocks_of", .glo "with_blocks", .glo "copied_block", .glo "copied_statement", .glo "well_formed", .glo "first_fault", .meth "Book" "__init__", .meth "Book" "__len__", .meth "Book" "__eq__", .meth "Book" "bodies", .glo "_law_pool", .glo "_law_draw", .glo "_law_command", .glo "_law_pair"] : List He.Fa) ++ ([.glo "_law_piece", .glo "_law_block", .glo "_law_around", .glo "_law_body", .glo "_law_book", .glo "_law_blocks", .glo "_law_with", .glo "_law_copy", .glo "_law_copies", .glo "_law_same", .glo "_law_good", .glo "_law_with", .glo "_law_copy", .glo "_law_copies", .glo "with_blocks", .glo "blocks_of", .glo "copied_statement", .glo "copied_block", .meth "Book" "__init__", .glo "_law_blocks"] : List He.Fa) ++ ([.glo "_law_lists", .glo "with_blocks", .glo "copied_statement", .glo "copied_block", .meth "Book" "bodies", .glo "law"] : List He.Fa)
def fn0 : List He.DefD := [xU, qY, AE, qZ, sP, pW, oT, kP, pX, pY, sS, uW, xY, qB, AH, AJ, sR, AI, xW, xX, uV, AM, AL, uU, AF, AK, uT, AG, uR, uQ, uS, rA, nD, pZ, jE, mD, qA, rB, sQ, nC, jD, lZ, nE, xV]
def fns : List (List He.DefD) := [fn0]
def fn : List He.DefD := fns.flatten
def ts : List He.Tab := [Cu]
def exs (K : aB) : List Bool := [limB K, xaB K "NoBook" ["procedure", "path"], isB K "Book"]
def ex (K : aB) : Bool := (exs K).all id
def loose : List Str := (["_wall", "HomeError", "NoBook", "NoProcedure", "NoPath", "LIMITS", "is_integer", "is_bit", "is_command", "MOST_PROCEDURES", "MOST_IN_LIST", "MOST_IN_PROCEDURE", "DEEPEST", "blocks_of", "with_blocks", "copied_statement", "copied_block", "well_formed", "first_fault", "statement_at", "Book", "has_procedure", "_law_pool", "_law_draw", "_law_command", "_law_pair", "_law_block", "_law_piece", "_law_around", "_law_body"] : List Str) ++ (["_law_book", "_law_blocks", "_law_with", "_law_copy", "_law_copies", "_law_lists", "_law_same", "_law_good"] : List Str)
abbrev R : PySem.W.OpenRow := PySem.W.OpenLaw.row PySem.Challenge.rw_penhome_k08_book_keeps_its_own_copy
abbrev hk : PySem.W.Hook := Jz 1200 fa fn ts ex
def ob (s : vQ) : He.AlT × Bool := Kb 1200 fa fn ts ex (HandSHeadRun.getT s)
abbrev HY (w : World) : Prop := HandSHeadRun.RunEq R (iW R.prog [42]) hk ob 8000 loose w
noncomputable abbrev JW (w : World) (os : OsState) := HandSHeadRun.endF (HandSHeadRun.stepQ (HandSHeadRun.denQ HandSHeadRun.tabQ) R.prog w) 8000 R.prog w os
abbrev Hj (s : vQ) : aB := frR (HandSHeadRun.getT s) 1200
set_option maxHeartbeats 0 in
theorem IB (w : World) : ∀ os : OsState, (JW (w.withFollow "special-get-raises" false) os).map (fun s => (HandSHeadRun.looksF R.prog (FX (w.withFollow "special-get-raises" false).params) s.abs, HandSHeadRun.seenQ (iW R.prog [42]) loose (PySem.importedModules R.prog.main.body) (fun s => PySem.W.xlAt (iW R.prog [42]) [] s && PySem.W.recOk R.toRowW.records s) s.abs, fa.all fun f => f.ok (Hj s), ts.map fun t => He.dicW (Hj s) (t.1 (Hj s)), ex (Hj s))) = some (true, Ff (iW R.prog [42]) loose, true, ts.map (fun t => some (He.keysIn (w.withFollow "special-get-raises" false).params t.2)), true) := by
 intro os
 kernel_rfl
set_option maxHeartbeats 0 in
theorem IC (w : World) : ∀ os : OsState, (JW (w.withFollow "special-get-raises" false) os).map (fun s => obC fn0 (Hj s)) = some (true, fn0.map He.DefD.val) := by
 intro os
 kernel_rfl
theorem run_f (w : World) : HY (w.withFollow "special-get-raises" false) := fun os => zJ (fs := fns) (IB w os) (FY.mpr ⟨IC w os, fun f hf => nomatch hf⟩)
set_option maxHeartbeats 0 in
theorem I8 (w : World) : ∀ os : OsState, (JW (w.withFollow "special-get-raises" true) os).map (fun s => (HandSHeadRun.looksF R.prog (FX (w.withFollow "special-get-raises" true).params) s.abs, HandSHeadRun.seenQ (iW R.prog [42]) loose (PySem.importedModules R.prog.main.body) (fun s => PySem.W.xlAt (iW R.prog [42]) [] s && PySem.W.recOk R.toRowW.records s) s.abs, fa.all fun f => f.ok (Hj s), ts.map fun t => He.dicW (Hj s) (t.1 (Hj s)), ex (Hj s))) = some (true, Ff (iW R.prog [42]) loose, true, ts.map (fun t => some (He.keysIn (w.withFollow "special-get-raises" true).params t.2)), true) := by
 intro os
 kernel_rfl
set_option maxHeartbeats 0 in
theorem I9 (w : World) : ∀ os : OsState, (JW (w.withFollow "special-get-raises" true) os).map (fun s => obC fn0 (Hj s)) = some (true, fn0.map He.DefD.val) := by
 intro os
 kernel_rfl
theorem run_t (w : World) : HY (w.withFollow "special-get-raises" true) := fun os => zJ (fs := fns) (I8 w os) (FY.mpr ⟨I9 w os, fun f hf => nomatch hf⟩)
theorem run_ (w : World) : HY w := PySem.W.byRow2 "special-get-raises" run_f run_t w
end PHZ
namespace PH
open PySem PySem.Spec PyProof.Rows L2
section
variable {X : Cx}
theorem bP {e : Expr} {t u : TE} (h : PE X e t) (i : ∀ σ H Q, u σ H Q -> t σ H Q) : PE X e u := ⟨fun pins s σ H Q I q => h.run pins s σ H Q I (i σ H Q q)⟩
theorem yG {e : Expr} {t u : TT} (h : PT X e t) (i : ∀ σ H Q, u σ H Q -> t σ H Q) : PT X e u := ⟨fun pins s σ H Q I q => h.run pins s σ H Q I (i σ H Q q)⟩
theorem fF {f : Value -> Value -> Sem Value} {r u : R2} (h : OpR X f r) (i : ∀ x y H Q, u x y H Q -> r x y H Q) : OpR X f u := fun pins s σ H x y v w Q I rx ry q => h pins s σ H x y v w Q I rx ry (i x y H Q q)
theorem iE {f : Value} {r u : List V -> Hp -> VK -> Prop} (h : CallR X f r) (i : ∀ xs H Q, u xs H Q -> r xs H Q) : CallR X f u := fun pins s σ H xs us Q I rx q => h pins s σ H xs us Q I rx (i xs H Q q)
theorem ES {r u : R2} (h : IxR X r) (i : ∀ x y H Q, u x y H Q -> r x y H Q) : IxR X u := fun e1 e2 pins s σ H x y v w Q I rx ry q => h e1 e2 pins s σ H x y v w Q I rx ry (i x y H Q q)
def sl : L2.St -> Nat -> Option V
 | [], _ => none
 | x :: _, 0 => x
 | _ :: r, n + 1 => sl r n
theorem Jk : ∀ {σ : L2.St} {i : Nat} {v : V}, sl σ i = some v -> σ[i]? = some (some v)
 | [], _, _, h => by cases h
 | x :: _, 0, v, h => by
  have e : x = some v := h;rw [e]; rfl
 | _ :: r, n + 1, v, h => by
  have e := Jk (σ := r) (i := n) (v := v) h
  simpa using e
def yX (i : Nat) : TE := fun σ H Q => match sl σ i with
 | some v => Q v H
 | none => False
theorem cv (i : Nat) {x : Str} {pos : Pos} (hN : X.N[i]? = some x := by rfl) (hv : Vis X.env.scope x := by first | exact qT rfl | exact nJ (qT rfl) | exact nJ (nJ rfl)) (hd : (x == ("__debug__" : Str)) = false := by decide)
  (hcd : (x == ("__classdict__" : Str)) = false := by decide) : PE X (.Name x pos) (yX i) := bP (pe_var hN hv hd hcd) fun σ H Q h => by
 unfold yX at h;cases e : sl σ i with
 | none => rw [e] at h; exact h.elim
 | some v => rw [e] at h; exact ⟨v, Jk e, h⟩
def cI0 (g : Int -> Int -> V) : R2 := fun x y H Q => match x, y with
 | .int i, .int j => Q (g i j) H
 | _, _ => False
def cI (C : Int -> Int -> Prop) (g : Int -> Int -> V) : R2 := fun x y H Q => match x, y with
 | .int i, .int j => C i j /\ Q (g i j) H
 | _, _ => False
theorem rP {g : Int -> Int -> V} : ∀ x y H Q, cI0 g x y H Q -> rI0 g x y H Q := fun x y H Q h => by
 cases x with
 | int i => cases y with
  | int j => exact ⟨i, j, rfl, rfl, h⟩
  | _ => exact h.elim
 | _ => exact h.elim
theorem EL {C : Int -> Int -> Prop} {g : Int -> Int -> V} : ∀ x y H Q, cI C g x y H Q -> rI C g x y H Q := fun x y H Q h => by
 cases x with
 | int i => cases y with
  | int j => exact ⟨i, j, rfl, rfl, h.1, h.2⟩
  | _ => exact h.elim
 | _ => exact h.elim
def rAddI : R2 := fun x y H Q => match x, y with
 | .int i, .int j => Q (.int (i + j)) H
 | _, _ => False
def Fu : R2 := fun x y H Q => match x, y with
 | .int i, .int j => Q (.int (i - j)) H
 | _, _ => False
def Jn : R2 := fun x y H Q => match x, y with
 | .int i, .int j => IntMulOk i j /\ Q (.int (i * j)) H
 | _, _ => False
def Jo : R2 := fun x y H Q => match x, y with
 | .int i, .int j => (0 < j) /\ Q (.int (i % j)) H
 | _, _ => False
def Fw : R2 := fun x y H Q => match x, y with
 | .int i, .int j => (CDiv i j) /\ Q (.int (i / j)) H
 | _, _ => False
def Jm : R2 := fun x y H Q => match x, y with
 | .int i, .int j => (CPow i j) /\ Q (.int (i ^ j.toNat)) H
 | _, _ => False
def rLtC : R2 := fun x y H Q => match x, y with
 | .int i, .int j => Q (.bl (decide (i < j))) H
 | _, _ => False
def rLeC : R2 := fun x y H Q => match x, y with
 | .int i, .int j => Q (.bl (decide (i <= j))) H
 | _, _ => False
def rGtC : R2 := fun x y H Q => match x, y with
 | .int i, .int j => Q (.bl (decide (j < i))) H
 | _, _ => False
def rGeC : R2 := fun x y H Q => match x, y with
 | .int i, .int j => Q (.bl (decide (j <= i))) H
 | _, _ => False
def FM (K : aB) : R2 := fun x y H Q => match x, y with
 | .int i, .int j => Q (.int (i + j)) H
 | .str a, .str b => a.length + b.length <= sizeLine /\ Q (.str (a ++ b)) H
 | .ref _, .ref _ => rCat x y H Q \/ rCatA K x y H Q
 | _, _ => False
theorem bM : OpR X (binaryOp .Add) (FM X.K) := by
 refine fF (OpR.or (X := X) op_add (OpR.or op_add_str (OpR.or op_cat op_catA))) fun x y H Q h => ?_
 cases x with
 | int i => cases y with
  | int j => exact .inl ⟨i, j, rfl, rfl, h⟩
  | _ => exact h.elim
 | str i => cases y with
  | str j => exact .inr (.inl ⟨i, j, rfl, rfl, h.1, h.2⟩)
  | _ => exact h.elim
 | ref i => cases y with
  | ref j => exact .inr (.inr h)
  | _ => exact h.elim
 | _ => exact h.elim
theorem gV : OpR X (binaryOp .Sub) Fu := fF op_sub fun x y H Q h => rP (g := fun i j => .int (i - j)) x y H Q h
theorem IK : OpR X (binaryOp .Mult) (rI IntMulOk fun i j => .int (i * j)) := opI fun _ _ _ _ _ _ _ hc q => mul_int q hc
theorem vG : OpR X (binaryOp .Mult) Jn := fF IK fun x y H Q h => EL (C := IntMulOk) (g := fun i j => .int (i * j)) x y H Q h
theorem mulL {i j : Int} (h1 : -(2 ^ 64) < i) (h2 : i < 2 ^ 64) : IntMulOk i j := CMul.ok (.inl ⟨h1, h2⟩)
theorem mulR {i j : Int} (h1 : -(2 ^ 64) < j) (h2 : j < 2 ^ 64) : IntMulOk i j := CMul.ok (.inr ⟨h1, h2⟩)
theorem fY : OpR X (binaryOp .Mod) Jo := fF op_mod fun x y H Q h => EL (C := fun _ j => 0 < j) (g := fun i j => .int (i % j)) x y H Q h
theorem pK : OpR X (binaryOp .FloorDiv) Fw := fF op_fdiv fun x y H Q h => EL (C := CDiv) (g := fun i j => .int (i / j)) x y H Q h
theorem IJ : OpR X (binaryOp .Pow) Jm := fF op_pow fun x y H Q h => EL (C := CPow) (g := fun i j => .int (i ^ j.toNat)) x y H Q h
theorem nQ : OpR X (compareOp .Lt) rLtC := fF op_lt fun x y H Q h => rP (g := fun i j => .bl (decide (i < j))) x y H Q h
theorem nR : OpR X (compareOp .LtE) rLeC := fF op_le fun x y H Q h => rP (g := fun i j => .bl (decide (i <= j))) x y H Q h
theorem mO : OpR X (compareOp .Gt) rGtC := fF op_gt fun x y H Q h => rP (g := fun i j => .bl (decide (j < i))) x y H Q h
theorem G1 : OpR X (compareOp .GtE) rGeC := fF op_ge fun x y H Q h => rP (g := fun i j => .bl (decide (j <= i))) x y H Q h
def cNeg : V -> Hp -> VK -> Prop := fun x H Q => match x with
 | .int i => Q (.int (-i)) H
 | _ => False
theorem Hm : UnR X (unaryOp .USub) cNeg := fun pins s σ H x v Q I rx h => un_neg pins s σ H x v Q I rx (by
 cases x with
 | int i => exact ⟨i, rfl, h⟩
 | _ => exact h.elim)
def cEq (K : aB) : R2 := fun x y H Q => match x, y with
 | .int i, .int j => Q (.bl (decide (i = j))) H
 | .str i, .str j => Q (.bl (decide (i = j))) H
 | _, _ => rEqD K x y H Q
def cNe (K : aB) : R2 := fun x y H Q => match x, y with
 | .int i, .int j => Q (.bl (!decide (i = j))) H
 | .str i, .str j => Q (.bl (!decide (i = j))) H
 | _, _ => rNeD K x y H Q
theorem dI {i j : Int} : decide (V.int i = V.int j) = decide (i = j) := by
 by_cases h : i = j
 ·rw [decide_eq_true h, h, decide_eq_true rfl]
 ·rw [decide_eq_false h, decide_eq_false fun e => h (V.int.inj e)]
theorem dS {i j : Str} : decide (V.str i = V.str j) = decide (i = j) := by
 by_cases h : i = j
 ·rw [decide_eq_true h, h, decide_eq_true rfl]
 ·rw [decide_eq_false h, decide_eq_false fun e => h (V.str.inj e)]
theorem bB (hu : X.A.units + 64 < cLine) : OpR X (compareOp .Eq) (cEq X.K) := by
 refine fF (OpR.or (X := X) op_eq (op_eqD hu)) fun x y H Q h => ?_
 cases x with
 | int i => cases y with
  | int j => exact .inl ⟨rfl, by rw [dI]; exact h⟩
  | _ => exact .inr h
 | str i => cases y with
  | str j => exact .inl ⟨rfl, by rw [dS]; exact h⟩
  | _ => exact .inr h
 | _ => exact .inr h
theorem nP (hu : X.A.units + 64 < cLine) : OpR X (compareOp .NotEq) (cNe X.K) := by
 refine fF (OpR.or (X := X) op_ne (op_neD hu)) fun x y H Q h => ?_
 cases x with
 | int i => cases y with
  | int j => exact .inl ⟨rfl, by rw [dI]; exact h⟩
  | _ => exact .inr h
 | str i => cases y with
  | str j => exact .inl ⟨rfl, by rw [dS]; exact h⟩
  | _ => exact .inr h
 | _ => exact .inr h
variable {a b c : Expr} {ta tb tc : TE} {pos : Pos}
def cT (K : aB) : V -> Hp -> (Bool -> Hp -> Prop) -> Prop := fun x H Q => match x with
 | .bl k => Q k H
 | .non => Q false H
 | .int i => Q (i != 0) H
 | x => ∃ k, TruV K x H k /\ Q k H
def cTest (K : aB) (t : TE) : TT := fun σ H Q => t σ H fun x H' => cT K x H' Q
theorem HQ {K : aB} : ∀ x H Q, cT K x H Q -> ∃ k, TruV K x H k /\ Q k H := fun x H Q h => by
 cases x with
 | bl k => exact ⟨k, rfl, h⟩
 | non => exact ⟨false, rfl, h⟩
 | int i => exact ⟨_, rfl, h⟩
 | _ => exact h
theorem t_val (ha : PE X a ta) (he : ∀ whole, isTrue a X.env whole = (do let v <- whole; standAt a.pos; holding [v] (truthy v)) := by intro _; rfl) : PT X a (cTest X.K ta) := by
 refine ⟨fun pins s σ H Q I h => ?_⟩
 exact isTrue_plain (thn (ha.run pins s σ H _ I h) fun v s1 ⟨x, H1, I1, r1, q1⟩ => tru_ok pins s1 σ H1 x v Q I1 r1 (HQ x H1 Q q1)) (he _)
def cB (t : TE) : TT := fun σ H Q => t σ H fun x H' => match x with
 | .bl k => Q k H'
 | _ => False
theorem Jj {op : CmpOp} {r : R2} (ho : OpR X (compareOp op) r) (ha : PE X a ta) (hb : PE X b tb) (hm : behindInMarks op b = false := by rfl) : PT X (.Compare a [op] [b] pos) (cB (tOp r ta tb)) := by
 refine ⟨fun pins s σ H Q I h => ?_⟩
 have h' : ta σ H fun x H1 => tb σ H1 fun y H2 => r x y H2 fun z H3 => (match z with | .bl k => Q k H3 | _ => False) := h
 refine wpAny_isTrue_Compare1 (thn (ha.run pins s σ H _ I h') fun v s1 ⟨x, H1, I1, r1, q1⟩ => thn (hb.run pins s1 σ H1 _ I1 q1) fun u s2 ⟨y, H2, I2, r2, q2⟩ => thn (ho pins s2 σ H2 x y v u _ I2 r1 r2 q2) fun d s3 hz => ?_) hm
 obtain ⟨z, H3, I3, r3, q3⟩ := hz;cases z with
 | bl k => cases r3; exact wpAny_truthy_bool ⟨H3, I3, q3⟩
 | _ => exact q3.elim
theorem e_cmp {op : CmpOp} {r : R2} (ho : OpR X (compareOp op) r) (ha : PE X a ta) (hb : PE X b tb) (hm : behindInMarks op b = false := by rfl) : PE X (.Compare a [op] [b] pos) (tOp r ta tb) := pe_cmpR ho ha hb hm
end
section
variable {X : Cx} {a b c : Expr} {ta tb tc : TE} {pos : Pos}
variable {rest : List Expr}
def cAndV (ta tb : TE) : TE := fun σ H Q => ta σ H fun x H1 => match x with
 | .bl c => if c = true then tb σ H1 Q else Q (.bl false) H1
 | _ => False
def cNotV (K : aB) (ta : TE) : TE := fun σ H Q => ta σ H fun x H1 => cT K x H1 fun k H2 => Q (.bl (!k)) H2
theorem e_and (ha : PE X a ta) (hb : PE X (.BoolOp .And (b :: rest) pos) tb) : PE X (.BoolOp .And (a :: b :: rest) pos) (cAndV ta tb) := by
 refine ⟨fun pins s σ H Q I h => ?_⟩
 refine BoolOp_and (thn (ha.run pins s σ H _ I h) fun v s1 hq => ?_)
 obtain ⟨x, H1, I1, r1, q1⟩ := hq;cases x with
 | bl c =>
  cases r1;refine wpAny_truthy_bool ?_
  cases c with
  | true => exact hb.run pins s1 σ H1 Q I1 q1
  | false => exact ⟨.bl false, H1, I1, rfl, q1⟩
 | _ => exact q1.elim
theorem e_not (ha : PE X a ta) : PE X (.UnaryOp .Not a pos) (cNotV X.K ta) := by
 refine ⟨fun pins s σ H Q I h => ?_⟩
 refine UnaryOp_ (thn (ha.run pins s σ H _ I h) fun v s1 hq => ?_)
 obtain ⟨x, H1, I1, r1, q1⟩ := hq;exact not_of (thn (tru_ok pins s1 σ H1 x v (fun c H2 => Q (.bl (!c)) H2) I1 r1 (HQ x H1 _ q1)) fun c s2 ⟨H2, I2, q2⟩ => ⟨.bl (!c), H2, I2, rfl, q2⟩)
def BE (r r' : R2) (ta tb tc : TE) : TE := fun σ H Q => ta σ H fun x H1 => tb σ H1 fun y H2 => r x y H2 fun z H3 => match z with
 | .bl k => if k = true then tc σ H3 fun w' H4 => r' y w' H4 Q else Q (.bl false) H3
 | _ => False
theorem JX {op op' : CmpOp} {r r' : R2} (ho : OpR X (compareOp op) r) (ho' : OpR X (compareOp op') r') (ha : PE X a ta) (hb : PE X b tb) (hc : PE X c tc)
  (hm : lastMarks [op, op'] [b, c] = false := by with_unfolding_all rfl) : PE X (.Compare a [op, op'] [b, c] pos) (BE r r' ta tb tc) := by
 refine ⟨fun pins s σ H Q I h => ?_⟩
 refine Compare_chain (thn (ha.run pins s σ H _ I h) fun v s1 ⟨x, H1, I1, r1, q1⟩ => chain_link (thn (hb.run pins s1 σ H1 _ I1 q1) fun u s2 ⟨y, H2, I2, r2, q2⟩ =>
  thn (ho pins s2 σ H2 x y v u _ I2 r1 r2 q2) fun d s3 hz => ?_)) hm
 obtain ⟨z, H3, I3, r3, q3⟩ := hz;cases z with
 | bl k =>
  cases r3;refine wpAny_truthy_bool ?_
  cases k with
  | false => exact ite_ff ⟨.bl false, H3, I3, rfl, q3⟩
  | true => exact ite_tt (chain_last (thn (hc.run pins s3 σ H3 _ I3 q3) fun w' s4 ⟨z', H4, I4, r4, q4⟩ => ho' pins s4 σ H4 y z' u w' Q I4 r2 r4 q4))
 | _ => exact q3.elim
theorem Hn {op op' : CmpOp} {r r' : R2} (ho : OpR X (compareOp op) r) (ho' : OpR X (compareOp op') r') (ha : PE X a ta) (hb : PE X b tb) (hc : PE X c tc)
  (hm : lastMarks [op, op'] [b, c] = false := by with_unfolding_all rfl) : PT X (.Compare a [op, op'] [b, c] pos) (cB (BE r r' ta tb tc)) := by
 refine ⟨fun pins s σ H Q I h => ?_⟩
 refine isTrue_chain (thn (ha.run pins s σ H _ I h) fun v s1 ⟨x, H1, I1, r1, q1⟩ => test_link (thn (hb.run pins s1 σ H1 _ I1 q1) fun u s2 ⟨y, H2, I2, r2, q2⟩ =>
  thn (ho pins s2 σ H2 x y v u _ I2 r1 r2 q2) fun d s3 hz => ?_)) hm
 obtain ⟨z, H3, I3, r3, q3⟩ := hz;cases z with
 | bl k =>
  cases r3;refine wpAny_truthy_bool ?_
  cases k with
  | false => exact ite_ff ⟨H3, I3, q3⟩
  | true =>
   refine ite_tt (test_last (thn (hc.run pins s3 σ H3 _ I3 q3) fun w' s4 ⟨z', H4, I4, r4, q4⟩ => thn (ho' pins s4 σ H4 y z' u w' _ I4 r2 r4 q4) fun d' s5 hz2 => ?_))
   obtain ⟨z2, H5, I5, r5, q5⟩ := hz2;cases z2 with
   | bl k2 => cases r5; exact wpAny_truthy_bool ⟨H5, I5, q5⟩
   | _ => exact q5.elim
 | _ => exact q3.elim
def cIx (K : aB) : R2 := fun x y H Q => match x, y with
 | .ref p, .int i => ∃ xs v, (SqL K H p xs \/ SqT K H p xs) /\ atI xs i = some v /\ Q v H
 | .str z, .int i => z.length <= sizeLine /\ ∃ c, atI z.cps.toList i = some c /\ Q (.str ⟨#[c]⟩) H
 | _, _ => False
theorem ix_C : IxR X (cIx X.K) := ES ix_seq fun x y H Q h => by
 cases x with
 | ref p => cases y with
  | int i =>
   obtain ⟨xs, v, h1 | h1, h2, q⟩ := h
   ·exact .inl ⟨p, xs, i, v, rfl, rfl, h1, h2, q⟩
   ·exact .inr (.inl ⟨p, xs, i, v, rfl, rfl, h1, h2, q⟩)
  | _ => exact h.elim
 | str z => cases y with
  | int i =>
   obtain ⟨h1, c, h2, q⟩ := h;exact .inr (.inr ⟨z, i, c, rfl, rfl, h1, h2, q⟩)
  | _ => exact h.elim
 | _ => exact h.elim
theorem M8 (ha : PE X a ta) (hb : PE X b tb) (hs : PlainIx b := by intro _ _; rfl) : PE X (.Subscript a b pos) (tOp (cIx X.K) ta tb) := pe_ix ix_C ha hb hs
def MD (K : aB) : V -> Hp -> VK -> Prop := fun x H Q => match x with
 | .str z => z.length <= sizeLine /\ Q (.int z.length) H
 | .ref p => ∃ ys, (SqL K H p ys \/ SqT K H p ys) /\ Q (.int ys.length) H
 | _ => False
def c1 (r : V -> Hp -> VK -> Prop) : List V -> Hp -> VK -> Prop := fun xs H Q => match xs with
 | [x] => r x H Q
 | _ => False
theorem K4 {p : Pos} (hm : X.mg "len" = none) (ha : PE X a ta) (hg : Gl X "len" := by rfl) (hs : starEach [a] X.env = [(false, eval a X.env)] := by rfl) : PE X (.Call (.Name "len" p) [a] [] pos) (tCB (c1 (MD X.K)) (tCons ta tNil)) :=
 pe_callB (iE (CallR.or call_len_seq call_len_str) fun xs H Q h => by
  match xs, h with
  | [x], h =>
   cases x with
   | str z => exact .inr ⟨z, rfl, h.1, h.2⟩
   | ref p =>
    obtain ⟨ys, h1, q⟩ := h;exact .inl ⟨p, ys, rfl, h1, q⟩
   | _ => exact h.elim) hg hm boot_len (pa_cons ha pa_nil hs) (he := hs)
def cInt : V -> Hp -> VK -> Prop := fun x H Q => match x with
 | .int i => Q (.int i) H
 | .bl k => Q (.int (if k then 1 else 0)) H
 | _ => False
theorem e_int {p : Pos} (hm : X.mg "int" = none) (ha : PE X a ta) (hg : Gl X "int" := by rfl) (hs : starEach [a] X.env = [(false, eval a X.env)] := by rfl) : PE X (.Call (.Name "int" p) [a] [] pos) (tCB (c1 cInt) (tCons ta tNil)) :=
 pe_callTy (iE call_int1 fun xs H Q h => by
  match xs, h with
  | [x], h =>
   cases x with
   | int i => exact .inl ⟨i, rfl, h⟩
   | bl k => exact .inr ⟨k, rfl, h⟩
   | _ => exact h.elim) hg hm boot_int (pa_cons ha pa_nil hs) (he := hs)
def isTy (T n : String) : Bool := n == T || (n == "bool" && T == "int")
def kinds : List String := ["NoneType", "bool", "int", "str", "list", "tuple", "dict"]
def targets : List String := ["int", "bool", "str", "list", "tuple", "dict"]
theorem IU (K : aB) : (kinds.all fun n => targets.all fun T => decide (qQ K (.type n) (.type T) = some (isTy T n))) = true := by kernel_rfl
theorem Cv {K : aB} {n T : String} (hn : n ∈ kinds) (hT : T ∈ targets) : qQ K (.type n) (.type T) = some (isTy T n) :=
 of_decide_eq_true (aW.mp (aW.mp (IU K) n hn) T hT)
def yI (K : aB) (H : Hp) (a : Addr) (n : String) : Prop := n ∈ ["list", "tuple", "dict"] /\ TyX K H (.ref a) (.type n)
def HU (K : aB) (T : String) : V -> Hp -> VK -> Prop := fun x H Q => match x with
 | .non => Q (.bl false) H
 | .bl _ => Q (.bl (T == "bool" || T == "int")) H
 | .int _ => Q (.bl (T == "int")) H
 | .str _ => Q (.bl (T == "str")) H
 | .ref a => ∃ n, yI K H a n /\ Q (.bl (n == T)) H
 | _ => False
def cIsiL (K : aB) (T : String) : List V -> Hp -> VK -> Prop := fun xs H Q => match xs with
 | [x, .ty n] => if n = T then HU K T x H Q else False
 | _ => False
theorem FK {T : String} (hT : T ∈ targets) : CallR X (.builtin "isinstance") (cIsiL X.K T) := iE call_isi fun xs H Q h => by
 match xs, h with
 | [x, .ty n], h =>
  have h0 : if n = T then HU X.K T x H Q else False := h
  by_cases e : n = T
  case neg => rw [if_neg e] at h0; exact h0.elim
  rw [if_pos e] at h0
  replace h := h0
  subst e;have go : ∀ (k : String) (b : Bool), k ∈ kinds -> TyX X.K H x (.type k) -> b = isTy n k -> Q (.bl b) H -> rIsi X.K [x, .ty n] H Q := fun k b hk ty e q => ⟨x, .ty n, .type k, .type n, isTy n k, rfl, .ty n, ty, Cv hk hT, by rw [<- e]; exact q⟩
  have h6 : n = "int" \/ n = "bool" \/ n = "str" \/ n = "list" \/ n = "tuple" \/ n = "dict" := by simpa [targets] using hT
  cases x with
  | non => exact go "NoneType" false (by decide) (.base .non) (by rcases h6 with e | e | e | e | e | e <;> subst e <;> decide) h
  | bl b => exact go "bool" _ (by decide) (.base (.bl b)) (by rcases h6 with e | e | e | e | e | e <;> subst e <;> decide) h
  | int b => exact go "int" _ (by decide) (.base (.int b)) (by rcases h6 with e | e | e | e | e | e <;> subst e <;> decide) h
  | str b => exact go "str" _ (by decide) (.base (.str b)) (by rcases h6 with e | e | e | e | e | e <;> subst e <;> decide) h
  | ref a =>
   obtain ⟨k, ⟨hk, ty⟩, q⟩ := h;have h3 : k = "list" \/ k = "tuple" \/ k = "dict" := by simpa using hk
   exact go k _ (by rcases h3 with e | e | e <;> subst e <;> decide) ty (by rcases h6 with e | e | e | e | e | e <;> rcases h3 with e' | e' | e' <;> subst e <;> subst e' <;> decide) q
  | _ => exact h.elim
def cIsE (K : aB) (T : String) (ta : TE) : TE := fun σ H Q => ta σ H fun x H1 => HU K T x H1 Q
theorem e_isi {p q : Pos} {T : String} {y : Str} (hm : X.mg "isinstance" = none) (hmT : X.mg y = none) (ha : PE X a ta) (hT : T ∈ targets := by decide) (hv : bootBuiltins y = some (.type T) := by decide +kernel)
  (hg : Gl X "isinstance" := by rfl) (hgT : Gl X y := by rfl) (hn : y ≠ "__name__" := by decide) (hd : (y == ("__debug__" : Str)) = false := by decide) (hs : starEach [a, .Name y q] X.env = (false, eval a X.env) :: starEach [.Name y q] X.env := by rfl) :
  PE X (.Call (.Name "isinstance" p) [a, .Name y q] [] pos) (cIsE X.K T ta) :=
 bP (pe_callB (FK hT) hg hm boot_isinstance (pa_cons ha (pa_cons (pe_bltn (v := .ty T) hgT hmT hv rfl hn hd) pa_nil) hs) (he := hs)) fun σ H Q h => by
  show ta σ H fun x H1 => if T = T then HU X.K T x H1 Q else False
  simp only [if_true];exact h
def cAll (K : aB) : V -> Hp -> VK -> Prop := fun x H Q => match x with
 | .ref p => ∃ bs : List Bool, SqL K H p (bs.map V.bl) /\ Q (.bl (bs.all id)) H
 | _ => False
theorem e_all {p : Pos} (hm : X.mg "all" = none) (ha : PE X a ta) (hc : X.calm = true := by rfl) (hg : Gl X "all" := by rfl) (hs : starEach [a] X.env = [(false, eval a X.env)] := by rfl) : PE X (.Call (.Name "all" p) [a] [] pos) (tCB (c1 (cAll X.K)) (tCons ta tNil)) :=
 pe_callB (iE (cr_all hc) fun xs H Q h => by
  match xs, h with
  | [x], h =>
   cases x with
   | ref p =>
    obtain ⟨bs, h1, q⟩ := h;exact ⟨p, bs, rfl, h1, q⟩
   | _ => exact h.elim) hg hm boot_all (pa_cons ha pa_nil hs) (he := hs)
def HR (K : aB) : V -> Hp -> VK -> Prop := fun x H Q => match x with
 | .ref p => ∃ ys, (SqL K H p ys \/ SqT K H p ys) /\ ∀ l, H l = none -> Q (.ref l) (upd H l (.lst ys))
 | _ => False
theorem HL {p : Pos} (hm : X.mg "list" = none) (ha : PE X a ta) (hg : Gl X "list" := by rfl) (hs : starEach [a] X.env = [(false, eval a X.env)] := by rfl) : PE X (.Call (.Name "list" p) [a] [] pos) (tCB (c1 (HR X.K)) (tCons ta tNil)) :=
 pe_callTy (iE call_list_of fun xs H Q h => by
  match xs, h with
  | [x], h =>
   cases x with
   | ref p =>
    obtain ⟨bs, h1, q⟩ := h;exact ⟨p, bs, rfl, h1, q⟩
   | _ => exact h.elim) hg hm boot_list (pa_cons ha pa_nil hs) (he := hs)
def DR (K : aB) : V -> Hp -> VK -> Prop := fun x H Q => match x with
 | .ref p => ∃ ys, SqL K H p ys /\ ∀ l, H l = none -> Q (.ref l) (upd H l (.tup ys))
 | _ => False
theorem EI {p : Pos} (hm : X.mg "tuple" = none) (ha : PE X a ta) (hg : Gl X "tuple" := by rfl) (hs : starEach [a] X.env = [(false, eval a X.env)] := by rfl) : PE X (.Call (.Name "tuple" p) [a] [] pos) (tCB (c1 (DR X.K)) (tCons ta tNil)) :=
 pe_callTy (iE call_tuple_of fun xs H Q h => by
  match xs, h with
  | [x], h =>
   cases x with
   | ref p =>
    obtain ⟨ys, h1, q⟩ := h;exact ⟨p, ys, rfl, .inl ⟨h1, q⟩⟩
   | _ => exact h.elim) hg hm boot_tuple (pa_cons ha pa_nil hs) (he := hs)
end
section
variable {P : Program} {w : World} {K : aB} {mg : Str -> Option Value} {base : Heap}
abbrev mT (K : aB) (x : Str) (st : Stmt) : Prop := ∃ fd, FunD K x x (defArgs st) (defBody st) (defScope st) [] [] (He.ga K x) fd
end
section
variable {X : Cx} {o i e : Expr} {to ti te : TE} {pos tpos : Pos}
def EM : V -> V -> Hp -> VK -> Prop := fun x y H Q => match x, y with
 | .ref p, .int i => ∃ xs v, H p = some (.lst xs) /\ 0 <= i /\ xs[i.toNat]? = some v /\ Q v H
 | _, _ => False
theorem Et : PGet X EM := by
 intro pins s σ H o i ov iv Q I ro ri h;cases o with
 | ref p => cases i with
  | int k =>
   obtain ⟨xs, v, hp, h0, hx, q⟩ := h;cases ro;obtain ⟨t, rfl⟩ := ri;obtain ⟨its, r, pl, hz⟩ := I.list (.inl (.inl hp));obtain ⟨w, ew, rw'⟩ := r.get hx;have hl := r.length;have hn := line63;have hlt : k.toNat < xs.length := (aH.mp hx).1;exact wpAny_getItem_list pl.isList h0 (by omega) (by simpa using ew) ⟨v, H, I, rw', q⟩
  | _ => exact h.elim
 | _ => exact h.elim
def EK : V -> V -> V -> Hp -> (Hp -> Prop) -> Prop := fun o i v H Q => match o, i with
 | .ref p, .int k => ∃ xs, H p = some (.lst xs) /\ 0 <= k /\ k.toNat < xs.length /\ Q (upd H p (.lst (xs.set k.toNat v)))
 | _, _ => False
theorem zF : PSet X EK := by
 intro pins s σ H o i v ov iv u Q I ro ri rv h;refine set_list pins s σ H o i v ov iv u Q I ro ri rv ?_
 cases o with
 | ref p => cases i with
  | int k =>
   obtain ⟨xs, hp, h0, hk, q⟩ := h;exact ⟨p, xs, k, k.toNat, rfl, rfl, hp, by unfold ixN; rw [if_pos h0, if_pos (by omega)], q⟩
  | _ => exact h.elim
 | _ => exact h.elim
def cIp (r : R2) : TIp := fun x y H Q => r x y H Q
theorem E7 : PIp X .Add (cIp rAddI) := fun pins s σ H x y v u Q I r1 r2 h => ip_add pins s σ H x y v u Q I r1 r2 (rP (g := fun i j => .int (i + j)) x y H Q h)
theorem Ie : PIp X .Sub (cIp Fu) := fun pins s σ H x y v u Q I r1 r2 h => ip_sub pins s σ H x y v u Q I r1 r2 (rP (g := fun i j => .int (i - j)) x y H Q h)
theorem Fq {op : Operator} {tip : TIp} (ho : PE X o to) (hi : PE X i ti) (he : PE X e te) (hp : PIp X op tip)
  (ha : ∀ ov iv new, augStore i ov iv new = (do holding [new, ov, iv] (setItem ov iv new); release [new, ov, iv] []; pure .next) := by intros; rfl) : PS X (.AugAssign (.Subscript o i tpos) op e pos) (tAugS to ti te EM tip EK) :=
 ps_augS ho hi Et he hp zF ha
end
section
variable {X : Cx} {tg e : Expr} {te : TE} {pos p : Pos}
def rIsNC : R2 := fun x y H Q => match y with
 | .non => Q (.bl (decide (x = .non))) H
 | _ => False
def Fv : R2 := fun x y H Q => match y with
 | .non => Q (.bl (!decide (x = .non))) H
 | _ => False
theorem wO : OpR X (compareOp .IsNot) Fv := fF op_notN fun x y H Q h => by
 cases y with
 | non => exact ⟨rfl, h⟩
 | _ => exact h.elim
def cPart (t : TE) : TO := fun σ H Q => t σ H fun x H1 => match x with
 | .int i => Q (some i) H1
 | _ => False
theorem Fy (h : PE X e te) : PO X (some e) (cPart te) := by
 refine ⟨fun pins s σ H Q I hw => ?_⟩
 rw [evalPart_some];refine thn (h.run pins s σ H _ I hw) fun u s1 hq => ?_
 obtain ⟨x, H1, I1, r1, q1⟩ := hq;cases x with
 | int i =>
  obtain ⟨t, rfl⟩ := r1;exact ⟨some i, H1, I1, .int i t, q1⟩
 | _ => exact q1.elim
theorem Je {r u : V -> Option Int -> Option Int -> Hp -> VK -> Prop} (h : SlR X r) (i : ∀ x lo hi H Q, u x lo hi H Q -> r x lo hi H Q) : SlR X u := by
 intro pins s σ H x v vl vu lo hi sl Q I rx hs pl pu q;exact h pins s σ H x v vl vu lo hi sl Q I rx hs pl pu (i x lo hi H Q q)
def cSl (K : aB) : V -> Option Int -> Option Int -> Hp -> VK -> Prop := fun x lo hi H Q => match x with
 | .ref a => (∃ xs, SqL K H a xs /\ ∀ p, H p = none -> Q (.ref p) (upd H p (.lst (cutV xs lo hi)))) \/ (∃ xs, SqT K H a xs /\
  (HT.sIx xs.length 0 lo = 0 /\ HT.sIx xs.length xs.length hi = xs.length -> Q (.ref a) H) /\ (¬ (HT.sIx xs.length 0 lo = 0 /\ HT.sIx xs.length xs.length hi = xs.length) -> ∀ p, H p = none -> Q (.ref p) (upd H p (.tup (cutV xs lo hi)))))
 | .str z => z.length <= sizeLine /\ Q (.str (cutS z lo hi)) H
 | _ => False
theorem sl_C : SlR X (cSl X.K) := Je (SlR.or sl_list (SlR.or sl_tupA sl_str)) fun x lo hi H Q h => by
 cases x with
 | ref a =>
  rcases h with ⟨xs, h1, q⟩ | ⟨xs, h1, q⟩
  ·exact .inl ⟨a, xs, rfl, h1, q⟩
  ·exact .inr (.inl ⟨a, xs, rfl, h1, q⟩)
 | str z => exact .inr (.inr ⟨z, rfl, h⟩)
 | _ => exact h.elim
def Ik (K : aB) (tl : TE) : TI := fun σ H R => tl σ H fun x H1 => match x with
 | .ref a => ((∃ xs, SqL K H1 a xs) /\ R (Itl K a) H1) \/ ((∃ xs, SqT K H1 a xs) /\ R (Itt K a) H1)
 | _ => False
theorem An (hl : PE X e te) : PI X tg e (Ik X.K te) := by
 refine ⟨fun pins s σ H R I h => ?_⟩
 refine thn (hl.run pins s σ H _ I h) fun v s1 hq => ?_
 obtain ⟨x, H1, I1, r1, q1⟩ := hq;cases x with
 | ref a =>
  rcases q1 with ⟨h1, q⟩ | ⟨h1, q⟩
  ·cases r1
   obtain ⟨xs, hq⟩ := h1;obtain ⟨its, rv, p, hz⟩ := I1.list hq;refine wpAny_pyIter_list p.isList ?_
   refine ⟨s1.heap.objs.size, [s1.heap.objs.size], _, _, H1, rfl, I1.kept (t' := s1.toks) fun b o e => Heap.get?_push_of_some _ e, turn_list a _, ⟨_, Heap.get?_push_size _ rfl, rfl, rfl⟩, fun b hb => ?_, q⟩
   have e : b = s1.heap.objs.size := by simpa using hb
   subst e;exact I1.fpOk (bN _) (I1.hok.fresh (bN _))
  ·cases r1
   obtain ⟨xs, hq⟩ := h1;obtain ⟨its, rv, p, hz⟩ := I1.tuple hq;refine wpAny_pyIter_tuple (show s1.heap.IsTuple a its.toArray from p) ?_
   refine ⟨s1.heap.objs.size, [s1.heap.objs.size], _, _, H1, rfl, I1.kept (t' := s1.toks) fun b o e => Heap.get?_push_of_some _ e, turn_tuple a _, ⟨_, Heap.get?_push_size _ rfl, rfl, rfl⟩, fun b hb => ?_, q⟩
   have e : b = s1.heap.objs.size := by simpa using hb
   subst e;exact I1.fpOk (bN _) (I1.hok.fresh (bN _))
 | _ => exact q1.elim
def EN : V -> List V -> Hp -> VK -> Prop := fun x vs H Q => match x, vs with
 | .ref l, [y] => ∃ xs, H l = some (.lst xs) /\ xs.length < sizeLine /\ Q .non (upd H l (.lst (xs ++ [y])))
 | _, _ => False
theorem wW : MtR X "list.append" EN := fun pins s σ H x xs v us Q I rx r h => mt_append pins s σ H x xs v us Q I rx r (by
 match x, xs, h with
 | .ref l, [y], ⟨xs, h1, h2, q⟩ => exact ⟨l, xs, y, rfl, rfl, h1, h2, q⟩)
theorem MA {x : Str} {i : Int} (h : ∃ t, X.mg x = some (.int i t)) (hg : Gl X x := by rfl) (hd : (x == ("__debug__" : Str)) = false := by decide) : PE X (.Name x pos) (tC (.int i)) := by
 obtain ⟨t, h⟩ := h;exact pe_glob hg h ⟨t, rfl⟩ hd
def K9 (K : aB) (d : Addr) (neg : Bool) : R2 := fun x y H Q => match x, y with
 | .str z, .ref a => a = d /\ ∃ r, gK K d z = some r /\ Q (.bl (if neg then !r.isSome else r.isSome)) H
 | _, _ => False
theorem Ao {d : Addr} (D : ∃ es n, KDict X.K X.w d es n) : OpR X (compareOp .NotIn) (K9 X.K d true) := by
 obtain ⟨es, n, D⟩ := D;refine fF (op_notIn_kd D) fun x y H Q h => ?_
 match x, y, h with
 | .str z, .ref a, ⟨e, r, h1, q⟩ => exact ⟨z, r, rfl, by rw [e], h1, q⟩
def cIxKd (K : aB) (d : Addr) : R2 := fun x y H Q => match x, y with
 | .ref a, .str z => a = d /\ ∃ u v, gK K d z = some (some u) /\ RelV v u /\ Q v H
 | _, _ => False
theorem L5 {d : Addr} (D : ∃ es n, KDict X.K X.w d es n) : IxR X (cIxKd X.K d) := by
 obtain ⟨es, n, D⟩ := D;refine ES ix_kdict fun x y H Q h => ?_
 match x, y, h with
 | .ref a, .str z, ⟨e, u, v, h1, h2, q⟩ => exact ⟨d, z, v, by rw [e], rfl, ⟨es, n, u, D.at_, D.lit, h1, h2⟩, q⟩
end
def lN (P : Program) (w : World) (K : aB) (mg : Str -> Option Value) (base : Heap) (k : Nat) (x : Str) (ps : List Str) (sp : Sp) : Prop :=
 ∃ fd, FnOk P w K mg base (L2.CX P w) k (He.ga K x) fd ps sp /\ mg x = some (.ref (He.ga K x)) /\ PySem.W.keepIn K (.ref (He.ga K x)) = true /\ Binds K fd ps []
section
variable {P : Program} {w : World} {K : aB} {mg : Str -> Option Value} {base : Heap}
theorem G3 {x : Str} {st : Stmt} {N ps : List Str} {k : Nat} {sp : Sp} (F : mT K x st) (g : mg x = some (.ref (He.ga K x))) (S : FnScope N ps (defScope st)) (len : ∀ vs H Q E, sp vs H Q E -> vs.length = ps.length)
  (bnd : ∀ (kV doc pm : Value) (an : Option Addr) (cdv ct : Value) (us : List Value), us.length = ps.length -> bindArgs (eS x x (defArgs st) (defBody st) (defScope st) .none kV doc pm an cdv ct) ⟨us, []⟩ = pure (ps.zip us))
  (hbody : ∀ (cdv : Value) (A : Around) (outer : List Env) (s : Shared) (H : Hp) (vs : List V) (Q : VK) (E : XK), Room k (A.deeper (envOfC x (defScope st) s.heap.objs.size (He.ga K x) cdv)) -> sp vs H Q E ->
   ∃ t, PSs (cxOf (L2.CX P w) P w K mg base N x (defScope st) (He.ga K x) cdv A outer s H E) (defBody st) t /\ t { nx := fun _ H' => Q .non H', rt := Q } (start N vs) H) : lN P w K mg base (k + 1) x ps sp := by
 obtain ⟨fd, F⟩ := F;refine ⟨fd, ?_, g, F.kp, F.bindsN bnd⟩
 obtain ⟨oc, od, dV, kV, doc, pm, an, cdv, ct, osl, e, lk, hc⟩ := F.ex;subst e;exact fn_of lk hc.1 S len fun A outer s H vs Q E hr hsp => hbody cdv A outer s H vs Q E hr hsp
end
def BV : WX := fun _ _ _ _ => False
def K7 (K : aB) (T U : String) : V -> Hp -> (Bool -> Prop) -> Prop := fun x H Q => match x with
 | .non => Q false
 | .bl _ => Q (isTy T "bool" || isTy U "bool")
 | .int _ => Q (isTy T "int" || isTy U "int")
 | .str _ => Q (isTy T "str" || isTy U "str")
 | .ref a => ∃ n, yI K H a n /\ Q (isTy T n || isTy U n)
 | _ => False
def HS (K : aB) (T U : String) : List V -> Hp -> VK -> Prop := fun xs H Q => match xs with
 | [x, .ref tp] => H tp = some (.tup [.ty T, .ty U]) /\ K7 K T U x H fun b => Q (.bl b) H
 | _ => False
def cIsE2 (K : aB) (T U : String) (ta : TE) : TE := tCB (HS K T U) (tCons ta (tCons (tTup (tCons (tC (.ty T)) (tCons (tC (.ty U)) tNil))) tNil))
section
variable {X : Cx} {a : Expr} {ta : TE} {pos p : Pos}
theorem IV {K : aB} {n T U : String} (hn : n ∈ kinds) (hT : T ∈ targets) (hU : U ∈ targets) : PySem.W.kitAny K (.type n) [.type T, .type U] = some (isTy T n || isTy U n) := by
 have h1 := Cv (K := K) hn hT;have h2 := Cv (K := K) hn hU;cases e1 : isTy T n with
 | true =>
  rw [e1] at h1;exact kitAny_cons h1 (fun z => by cases z) fun _ => rfl
 | false =>
  rw [e1] at h1;refine kitAny_cons h1 (fun _ => ?_) (fun z => by cases z)
  cases e2 : isTy U n with
  | true =>
   rw [e2] at h2;exact kitAny_cons h2 (fun z => by cases z) fun _ => rfl
  | false =>
   rw [e2] at h2;exact kitAny_cons h2 (fun _ => rfl) (fun z => by cases z)
theorem FL {T U : String} (hT : T ∈ targets) (hU : U ∈ targets) : CallR X (.builtin "isinstance") (HS X.K T U) := iE call_isiT fun xs H Q h => by
 match xs, h with
 | [x, .ref tp], ⟨ht, h⟩ =>
  have go : ∀ (k : String) (b : Bool), k ∈ kinds -> TyX X.K H x (.type k) -> b = (isTy T k || isTy U k) -> Q (.bl b) H -> rIsiT X.K [x, .ref tp] H Q := fun k b hk ty e q => ⟨x, tp, _, .type k, [.type T, .type U], _, rfl, ht, .cons (.ty T) (.cons (.ty U) .nil), ty, IV hk hT hU, by rw [<- e]; exact q⟩
  cases x with
  | non =>
   refine go "NoneType" false (by decide) (.base .non) ?_ h
   have : ∀ T ∈ targets, isTy T "NoneType" = false := by decide
   rw [this T hT, this U hU];rfl
  | bl b => exact go "bool" _ (by decide) (.base (.bl b)) rfl h
  | int b => exact go "int" _ (by decide) (.base (.int b)) rfl h
  | str b => exact go "str" _ (by decide) (.base (.str b)) rfl h
  | ref a =>
   obtain ⟨k, ⟨hk, ty⟩, q⟩ := h;have h3 : k = "list" \/ k = "tuple" \/ k = "dict" := by simpa using hk
   exact go k _ (by rcases h3 with e | e | e <;> subst e <;> decide) ty rfl q
  | _ => exact h.elim
theorem M9 {q1 q2 tpos : Pos} {j : Nat} {T U : String} {y z : Str} (hm : X.mg "isinstance" = none) (hmT : X.mg y = none) (hmU : X.mg z = none) (ha : PE X a ta) (hT : T ∈ targets := by decide) (hU : U ∈ targets := by decide)
  (hv : bootBuiltins y = some (.type T) := by decide +kernel) (hw : bootBuiltins z = some (.type U) := by decide +kernel) (hg : Gl X "isinstance" := by rfl) (hgT : Gl X y := by rfl) (hgU : Gl X z := by rfl) (hn : y ≠ "__name__" := by decide) (hd : (y == ("__debug__" : Str)) = false := by decide) (hn2 : z ≠ "__name__" := by decide) (hd2 : (z == ("__debug__" : Str)) = false := by decide)
  (hs : starEach [a, .Tuple [.Name y q1, .Name z q2] j tpos] X.env = (false, eval a X.env) :: starEach [.Tuple [.Name y q1, .Name z q2] j tpos] X.env := by rfl) :
  PE X (.Call (.Name "isinstance" p) [a, .Tuple [.Name y q1, .Name z q2] j tpos] [] pos) (cIsE2 X.K T U ta) :=
 pe_callB (FL hT hU) hg hm boot_isinstance (pa_cons ha (pa_cons (pe_tup (pa_cons (pe_bltn (v := .ty T) hgT hmT hv rfl hn hd) (pa_cons (pe_bltn (v := .ty U) hgU hmU hw rfl hn2 hd2) pa_nil))) pa_nil) hs) (he := hs)
end
structure OkMX (P : Program) (w : World) (K : aB) (mg : Str -> Option Value) (base : Heap) (k : Nat) (C m : Str) (ps : List Str) (sp : Sp) : Prop where
 ex : ∃ fd, FnOk P w K mg base (L2.CX P w) k (He.ma K (He.ga K C) m) fd ps sp /\ Binds K fd ps []
 mt : Meth K (He.ga K C) m (He.ma K (He.ga K C) m)
section
variable {X : Cx} {o e : Expr} {es : List Expr} {t : TA} {ta : TE} {apos pos p : Pos} {C m x : Str} {ps : List Str} {sp : Sp} {k j : Nat} {E : XK} {W : WX}
def cMeth (C : Addr) (m : Str) (sp : Sp) (E : XK) (ta : TE) (t : TA) : TE := fun σ H Q => ta σ H fun x H1 => match x with
 | .ref a => ∃ dx fs, H1 a = some (.ins C dx fs) /\ fs.lookup m = none /\ t σ H1 fun vs H2 => sp (.ref a :: vs) H2 Q E
 | _ => False
def cFld (C : Addr) (f : Str) (ta : TE) : TE := fun σ H Q => ta σ H fun x H1 => match x with
 | .ref a => ∃ dx fs v, H1 a = some (.ins C dx fs) /\ fs.lookup f = some v /\ Q v H1
 | _ => False
theorem e_fld {C : Addr} {f : Str} (c : Cls X.K C) (n : NoAttr X.K C f) (he : PE X e ta) (hb : attributeBase e f X.env (eval e X.env) = eval e X.env := by rfl) : PE X (.Attribute e f pos) (cFld C f ta) := by
 refine ⟨fun pins s σ H Q I h => ?_⟩
 refine attr_of hb (thn (he.run pins s σ H _ I h) fun u s1 hh => ?_)
 obtain ⟨x, H1, I1, rx, hq⟩ := hh;cases x with
 | ref a =>
  obtain ⟨dx, fs, v, ea, l, q⟩ := hq;obtain rfl : u = Value.ref a := rx;exact getattr_ok I1 ea c n l fun _ _ I2 ru => ⟨v, H1, I2, ru, q⟩
 | _ => exact hq.elim
def cSetF (C : Addr) (f : Str) (ta tv : TE) : TS := fun D σ H => tv σ H fun y H1 => ta σ H1 fun x H2 => match x with
 | .ref a => ∃ dx fs, H2 a = some (.ins C dx fs) /\ fs.length < 1000 /\ D.nx σ (upd H2 a (.ins C dx (putF f y fs)))
 | _ => False
theorem KO {C : Addr} {f : Str} {value : Expr} {tv : TE} {pos' : Pos} (c : Cls X.K C) (n : NoAttr X.K C f) (ha : PE X o ta) (hv : PE X value tv) (hs : swapsWith value (some (.Attribute o f pos')) pos.line X.env = pure false := by rfl) : PS X (.Assign [.Attribute o f pos'] value pos) (cSetF C f ta tv) := by
 refine ⟨fun pins s σ H D I h => ?_⟩
 refine plainObj_wpAny_Assign_Attribute (thn (hv.run pins s σ H _ I h) fun u s1 hh => ?_) hs
 obtain ⟨y, H1, I1, ry, q⟩ := hh;refine thn (ha.run pins s1 σ H1 _ I1 q) fun ov s2 hh => ?_
 obtain ⟨x, H2, I2, rx, hq⟩ := hh;cases x with
 | ref a =>
  obtain ⟨dx, fs, ea, l, q2⟩ := hq;obtain rfl : ov = Value.ref a := rx;exact setattr_ok I2 ea c n l ry fun _ I3 => ⟨σ, _, I3, q2⟩
 | _ => exact hq.elim
structure ClF (K : aB) (mg : Str -> Option Value) (C : Str) : Prop where
 cls : Cls K (He.ga K C)
 mak : Mk K (He.ga K C) (He.ma K (He.ga K C) "__init__")
 glo : mg C = some (.ref (He.ga K C))
def rLenO (C : Addr) (sp : Sp) (E : XK) : V -> Hp -> VK -> Prop := fun x H Q => match x with
 | .ref a => ∃ dx fs, H a = some (.ins C dx fs) /\ sp [.ref a] H (fun v H' => match v with | .int n => (0 <= n /\ n < 2 ^ 62) /\ Q (.int n) H' | _ => False) E
 | _ => False
def rEqO (C : Addr) (sp : Sp) : R2 := fun x y H Q => match x, y with
 | .ref a, .ref b => ∃ dx fs dy gs, H a = some (.ins C dx fs) /\ H b = some (.ins C dy gs) /\ sp [.ref a, .ref b] H (fun v H' => match v with | .bl r => Q (.bl r) H' | _ => False) E0
 | _, _ => False
def cIsC (K : aB) (C : Addr) : V -> Hp -> VK -> Prop := fun x H Q => match x with
 | .ref a => ∃ dx fs, H a = some (.ins C dx fs) /\ Q (.bl true) H
 | _ => False
structure IsF (K : aB) (C : Str) : Prop where
 cl : Cls K (He.ga K C)
 ha : cR K (.ref (He.ga K C)) "__class__" = some (some (.builtin "object.__class__"))
 hn : tI K (.builtin "object.__class__") "__get__" = some (some (.builtin "getset_descriptor.__get__"))
 htk : vP K (.builtin "object.__class__") = some true
 hm : AW K (He.ga K C) (.type "object") = some true
def K8 (K : aB) (C : Addr) : List V -> Hp -> VK -> Prop := fun xs H Q => match xs with
 | [x, .ref D] => D = C /\ cIsC K C x H Q
 | _ => False
theorem HP (T : IsF X.K C) : CallR X (.builtin "isinstance") (K8 X.K (He.ga X.K C)) := iE call_isi fun xs H Q h => by
 match xs, h with
 | [x, .ref D], ⟨e, h⟩ =>
  subst e;cases x with
  | ref a =>
   obtain ⟨dx, fs, ha, q⟩ := h;exact ⟨.ref a, .ref (He.ga X.K C), .ref (He.ga X.K C), .ref (He.ga X.K C), true, rfl, .own _, .base (.ins ha T.cl T.ha T.hn T.htk T.hm), by unfold qQ; rw [if_pos (by simp)], q⟩
  | _ => exact h.elim
def cIsCE (K : aB) (C : Addr) (ta : TE) : TE := tCB (K8 K C) (tCons ta (tCons (tC (.ref C)) tNil))
theorem e_isC {a : Expr} {ta : TE} {q : Pos} (T : IsF X.K C) (hm : X.mg "isinstance" = none) (g : X.mg C = some (.ref (He.ga X.K C))) (ha : PE X a ta) (hg : Gl X "isinstance" := by rfl) (hgC : Gl X C := by rfl) (hdb : (C == ("__debug__" : Str)) = false := by decide)
  (hs : starEach [a, .Name C q] X.env = (false, eval a X.env) :: starEach [.Name C q] X.env := by rfl) : PE X (.Call (.Name "isinstance" p) [a, .Name C q] [] pos) (cIsCE X.K (He.ga X.K C) ta) :=
 pe_callB (HP T) hg hm boot_isinstance (pa_cons ha (pa_cons (pe_glob (v := .ref (He.ga X.K C)) hgC g rfl hdb) pa_nil) hs) (he := hs)
end
abbrev Hh (K : aB) (C m q : Str) (st : Stmt) : Prop := ∃ fd, FunD K m q (defArgs st) (defBody st) (defScope st) [] [] (He.ma K (He.ga K C) m) fd
section
variable {P : Program} {w : World} {K : aB} {mg : Str -> Option Value} {base : Heap}
theorem IL {C m q : Str} {st : Stmt} {N ps : List Str} {k : Nat} {sp : Sp} (F : Hh K C m q st) (g : Meth K (He.ga K C) m (He.ma K (He.ga K C) m)) (S : FnScope N ps (defScope st)) (len : ∀ vs H Q E, sp vs H Q E -> vs.length = ps.length)
  (bnd : ∀ (kV doc pm : Value) (an : Option Addr) (cdv ct : Value) (us : List Value), us.length = ps.length -> bindArgs (eS m q (defArgs st) (defBody st) (defScope st) .none kV doc pm an cdv ct) ⟨us, []⟩ = pure (ps.zip us))
  (hbody : ∀ (cdv : Value) (A : Around) (outer : List Env) (s : Shared) (H : Hp) (vs : List V) (Q : VK) (E : XK), Room k (A.deeper (envOfC q (defScope st) s.heap.objs.size (He.ma K (He.ga K C) m) cdv)) -> sp vs H Q E ->
   ∃ t, PSs (cxOf (L2.CX P w) P w K mg base N q (defScope st) (He.ma K (He.ga K C) m) cdv A outer s H E) (defBody st) t /\ t { nx := fun _ H' => Q .non H', rt := Q } (start N vs) H) : OkMX P w K mg base (k + 1) C m ps sp := by
 obtain ⟨fd, F⟩ := F;exact ⟨⟨fd, FunD.ok F S len fun cdv A outer s H vs Q E hr hsp => hbody cdv A outer s H vs Q E hr hsp, F.bindsN bnd⟩, g⟩
end
inductive D where
 | non | bl (b : Bool) | int (i : Int) | str (x : Str) | lst (xs : List D) | tup (xs : List D) | ins (C : Str) (ns : List Str) (xs : List D) | dct | opq (k : Option (Int × Int))
inductive TIt where
 | inl (d : D) | inr (n : Nat) | tup (xs : List TIt)
inductive Vl where
 | dat (d : D) | cel (n : Nat) | cels (ns : List Nat) | scr (ns : List Int) | tc (xs : List TIt)
inductive Cell where
 | dead | lst (xs : List D) | ins (C : Str) (fs : List (Str × Vl)) | dct (fs : List (Str × Vl)) | lv (xs : List Vl) | dki (ks : List Int) (xs : List Vl) | dkt (ks : List (Int × Int)) (xs : List Vl)
abbrev aK := List Cell
abbrev Ev := List (Option Vl)
structure Er where
 cls : Str
 ns : List Str := []
 xs : List D := []
inductive Res (α : Type) where
 | ok (a : α) (S : aK) | err (e : Er) (S : aK) | stuck
def Res.bind {α β : Type} (r : Res α) (k : α -> aK -> Res β) : Res β := match r with
 | .ok a S => k a S
 | .err e S => .err e S
 | .stuck => .stuck
def gJ (φ : List Addr) (S : aK) (a : Addr) : Prop := ∃ (n : Nat) (c : Cell), S[n]? = some c /\ c ≠ .dead /\ φ[n]? = some a
def fG (B : Addr -> Prop) (φ : List Addr) (S : aK) (a : Addr) : Prop := B a \/ gJ φ S a
mutual
/-- the tree d is at v -/
def Rep (K : aB) (Bk : Addr -> Prop) (H : Hp) : D -> V -> Prop
 | .non, v => v = .non
 | .bl b, v => v = .bl b
 | .int i, v => v = .int i
 | .str x, v => v = .str x
 | .lst ds, v => ∃ a vs, v = .ref a /\ ¬ Bk a /\ H a = some (.lst vs) /\ RepL K Bk H ds vs
 | .tup ds, v => ∃ a vs, v = .ref a /\ SqT K H a vs /\ RepL K Bk H ds vs
 | .ins C ns ds, v => ∃ a dx vs, v = .ref a /\ ¬ Bk a /\ H a = some (.ins (He.ga K C) dx (ns.zip vs)) /\ RepL K Bk H ds vs
 | .dct, v => ∃ a, v = .ref a /\ ¬ Bk a /\ H a = some (.dK [])
 | .opq none, v => ∃ a, v = .ref a
 | .opq (some k), v => ∃ a, v = .ref a /\ ¬ Bk a /\ H a = some (.tup [.int k.1, .int k.2])
def RepL (K : aB) (Bk : Addr -> Prop) (H : Hp) : List D -> List V -> Prop
 | [], vs => vs = []
 | d :: ds, vs => ∃ v ws, vs = v :: ws /\ Rep K Bk H d v /\ RepL K Bk H ds ws
end
structure Kp (Bk : Addr -> Prop) (H : Hp) (Bk' : Addr -> Prop) (H' : Hp) : Prop where
 old : ∀ b o, H b = some o -> ¬ Bk b -> H' b = some o /\ ¬ Bk' b
 tup : ∀ b u, Rd H b (.tup u) -> Rd H' b (.tup u)
theorem SqT.kp {K : aB} {H H' : Hp} {a : Addr} {vs : List V} (t : ∀ b u, Rd H b (.tup u) -> Rd H' b (.tup u)) (h : SqT K H a vs) : SqT K H' a vs := by
 rcases h with h | h
 ·exact .inl (t _ _ h)
 ·exact .inr h
mutual
theorem Rep.kp {K : aB} {Bk Bk' : Addr -> Prop} {H H' : Hp} (k' : Kp Bk H Bk' H') : ∀ (d : D) (v : V), Rep K Bk H d v -> Rep K Bk' H' d v
 | .non, v, h => h
 | .bl b, v, h => h
 | .int i, v, h => h
 | .str x, v, h => h
 | .lst ds, v, ⟨a, vs, e, nb, h, r⟩ => ⟨a, vs, e, (k'.old _ _ h nb).2, (k'.old _ _ h nb).1, RepL.kp k' ds vs r⟩
 | .tup ds, v, ⟨a, vs, e, h, r⟩ => ⟨a, vs, e, SqT.kp k'.tup h, RepL.kp k' ds vs r⟩
 | .ins C ns ds, v, ⟨a, dx, vs, e, nb, h, r⟩ => ⟨a, dx, vs, e, (k'.old _ _ h nb).2, (k'.old _ _ h nb).1, RepL.kp k' ds vs r⟩
 | .dct, v, ⟨a, e, nb, h⟩ => ⟨a, e, (k'.old _ _ h nb).2, (k'.old _ _ h nb).1⟩
 | .opq none, v, h => h
 | .opq (some k), v, ⟨a, e, nb, h⟩ => ⟨a, e, (k'.old _ _ h nb).2, (k'.old _ _ h nb).1⟩
theorem RepL.kp {K : aB} {Bk Bk' : Addr -> Prop} {H H' : Hp} (k : Kp Bk H Bk' H') : ∀ (ds : List D) (vs : List V), RepL K Bk H ds vs -> RepL K Bk' H' ds vs
 | [], vs, h => h
 | d :: ds, vs, ⟨v, ws, e, h1, h2⟩ => ⟨v, ws, e, Rep.kp k d v h1, RepL.kp k ds ws h2⟩
end
def ScrAt (K : aB) (H : Hp) (a : Addr) (vs : List V) : Prop := (∃ o, H a = some (.frz o (.lst vs))) \/ SqL K (fun _ => none) a vs
theorem ScrAt.sq {K : aB} {H : Hp} {a : Addr} {vs : List V} (h : ScrAt K H a vs) : SqL K H a vs := by
 rcases h with ⟨o, h⟩ | (h | ⟨o, h⟩) | h
 ·exact .inl (.inr ⟨o, h⟩)
 ·cases h
 ·cases h
 ·exact .inr h
theorem ScrAt.keep {K : aB} {H H' : Hp} {a : Addr} {vs : List V} (h : ScrAt K H a vs) (k : ∀ o u, H a = some (.frz o u) -> H' a = some (.frz o u)) : ScrAt K H' a vs := by
 rcases h with ⟨o, h⟩ | h
 ·exact .inl ⟨o, k _ _ h⟩
 ·exact .inr h
mutual
/-- an item of a tuple that holds cells -/
def RepI (K : aB) (Bk : Addr -> Prop) (φ : List Addr) (H : Hp) : TIt -> V -> Prop
 | .inl d, v => Rep K Bk H d v
 | .inr n, v => ∃ a, v = .ref a /\ φ[n]? = some a
 | .tup xs, v => ∃ a vs, v = .ref a /\ SqT K H a vs /\ RepIs K Bk φ H xs vs
def RepIs (K : aB) (Bk : Addr -> Prop) (φ : List Addr) (H : Hp) : List TIt -> List V -> Prop
 | [], vs => vs = []
 | x :: xs, vs => ∃ v ws, vs = v :: ws /\ RepI K Bk φ H x v /\ RepIs K Bk φ H xs ws
end
mutual
theorem RepI.kp {K : aB} {Bk Bk' : Addr -> Prop} {φ φ' : List Addr} {H H' : Hp} (k : Kp Bk H Bk' H') (hφ : ∀ (n : Nat) (a : Addr), φ[n]? = some a -> φ'[n]? = some a) : ∀ {x : TIt} {v : V}, RepI K Bk φ H x v -> RepI K Bk' φ' H' x v
 | .inl d, v, h => Rep.kp k d v h
 | .inr n, v, ⟨a, h1, h2⟩ => ⟨a, h1, hφ _ _ h2⟩
 | .tup xs, v, ⟨a, vs, h1, h2, h3⟩ => ⟨a, vs, h1, SqT.kp k.tup h2, RepIs.kp k hφ h3⟩
theorem RepIs.kp {K : aB} {Bk Bk' : Addr -> Prop} {φ φ' : List Addr} {H H' : Hp} (k : Kp Bk H Bk' H') (hφ : ∀ (n : Nat) (a : Addr), φ[n]? = some a -> φ'[n]? = some a) : ∀ {xs : List TIt} {vs : List V}, RepIs K Bk φ H xs vs -> RepIs K Bk' φ' H' xs vs
 | [], vs, h => h
 | x :: xs, vs, ⟨v, ws, e, h1, h2⟩ => ⟨v, ws, e, RepI.kp k hφ h1, RepIs.kp k hφ h2⟩
end
def RepV (K : aB) (B : Addr -> Prop) (φ : List Addr) (S : aK) (H : Hp) : Vl -> V -> Prop
 | .dat d, v => Rep K (fG B φ S) H d v
 | .cel n, v => ∃ a, v = .ref a /\ φ[n]? = some a
 | .cels ns, v => ∃ (a : Addr) (as : List Addr), v = .ref a /\ ¬ fG B φ S a /\ H a = some (.lst (as.map V.ref)) /\ ns.map (fun n => φ[n]?) = as.map some
 | .scr ns, v => ∃ a, v = .ref a /\ ScrAt K H a (ns.map V.int)
 | .tc xs, v => ∃ a vs, v = .ref a /\ SqT K H a vs /\ RepIs K (fG B φ S) φ H xs vs
def RepVs (K : aB) (B : Addr -> Prop) (φ : List Addr) (S : aK) (H : Hp) : List Vl -> List V -> Prop
 | [], vs => vs = []
 | d :: ds, vs => ∃ v ws, vs = v :: ws /\ RepV K B φ S H d v /\ RepVs K B φ S H ds ws
def RepF (K : aB) (B : Addr -> Prop) (φ : List Addr) (S : aK) (H : Hp) : List (Str × Vl) -> List (Str × V) -> Prop
 | [], vs => vs = []
 | d :: ds, vs => ∃ v ws, vs = (d.1, v) :: ws /\ RepV K B φ S H d.2 v /\ RepF K B φ S H ds ws
def kvOf (fs : List (Str × V)) : List (Key × V) := fs.map fun p => (Sum.inr p.1, p.2)
def kvI (ks : List Int) (vs : List V) : List (Key × V) := (ks.map Sum.inl).zip vs
def kvT (ks : List (Int × Int)) (vs : List V) : List (List Key × V) := (ks.map fun p => [Sum.inl p.1, Sum.inl p.2]).zip vs
def yJ (K : aB) (B : Addr -> Prop) (φ : List Addr) (S : aK) (H : Hp) : Cell -> Addr -> Prop
 | .dead, _ => True
 | .lst ds, a => ∃ vs, H a = some (.lst vs) /\ RepL K (fG B φ S) H ds vs
 | .ins C fs, a => ∃ dx vfs, H a = some (.ins (He.ga K C) dx vfs) /\ RepF K B φ S H fs vfs
 | .dct fs, a => ∃ vfs, H a = some (.dK (kvOf vfs)) /\ RepF K B φ S H fs vfs
 | .lv xs, a => ∃ vs, H a = some (.lst vs) /\ RepVs K B φ S H xs vs
 | .dki ks xs, a => ∃ vs, H a = some (.dK (kvI ks vs)) /\ RepVs K B φ S H xs vs
 | .dkt ks xs, a => ∃ vs, H a = some (.dT (kvT ks vs)) /\ RepVs K B φ S H xs vs
structure GInv (K : aB) (B : Addr -> Prop) (φ : List Addr) (S : aK) (H : Hp) : Prop where
 len : φ.length = S.length
 ok : ∀ (n : Nat) (c : Cell) (a : Addr), S[n]? = some c -> φ[n]? = some a -> yJ K B φ S H c a
 inj : ∀ (n m : Nat) (c c' : Cell) (a : Addr), S[n]? = some c -> c ≠ .dead -> S[m]? = some c' -> c' ≠ .dead -> φ[n]? = some a -> φ[m]? = some a -> n = m
 blk : ∀ a, gJ φ S a -> ¬ B a
 btr : ∀ a, B a -> ∃ o, H a = some o
structure Ext (φ : List Addr) (S : aK) (H : Hp) (φ' : List Addr) (S' : aK) (H' : Hp) : Prop where
 old : ∀ b o, H b = some o -> ¬ gJ φ S b -> H' b = some o /\ ¬ gJ φ' S' b
 ids : ∀ (n : Nat) (a : Addr), φ[n]? = some a -> φ'[n]? = some a
section
variable {K : aB} {B : Addr -> Prop} {φ φ' φ₂ : List Addr} {S S' S₂ : aK} {H H' H₂ : Hp}
theorem Ext.refl : Ext φ S H φ S H := ⟨fun _ _ h n => ⟨h, n⟩, fun _ _ h => h⟩
theorem Ext.trans (a : Ext φ S H φ' S' H') (b : Ext φ' S' H' φ₂ S₂ H₂) : Ext φ S H φ₂ S₂ H₂ :=
 ⟨fun c o h n => b.old c o (a.old c o h n).1 (a.old c o h n).2, fun n x h => b.ids n x (a.ids n x h)⟩
theorem GInv.at_ (I : GInv K B φ S H) {a : Addr} (h : gJ φ S a) : (∃ vs, H a = some (.lst vs)) \/ (∃ C dx fs, H a = some (.ins C dx fs)) \/ (∃ kvs, H a = some (.dK kvs)) \/ ∃ kvs, H a = some (.dT kvs) := by
 obtain ⟨n, c, h1, h2, h3⟩ := h;have q := I.ok n c a h1 h3;cases c with
 | dead => exact absurd rfl h2
 | lst ds => obtain ⟨vs, e, _⟩ := q; exact .inl ⟨vs, e⟩
 | ins C fs => obtain ⟨dx, vs, e, _⟩ := q; exact .inr (.inl ⟨_, dx, vs, e⟩)
 | dct fs => obtain ⟨vs, e, _⟩ := q; exact .inr (.inr (.inl ⟨_, e⟩))
 | lv xs => obtain ⟨vs, e, _⟩ := q; exact .inl ⟨vs, e⟩
 | dki ks xs => obtain ⟨vs, e, _⟩ := q; exact .inr (.inr (.inl ⟨_, e⟩))
 | dkt ks xs => obtain ⟨vs, e, _⟩ := q; exact .inr (.inr (.inr ⟨_, e⟩))
theorem GInv.some_ (I : GInv K B φ S H) {a : Addr} (h : gJ φ S a) : H a ≠ none := by
 rcases I.at_ h with ⟨_, e⟩ | ⟨_, _, _, e⟩ | ⟨_, e⟩ | ⟨_, e⟩ <;> rw [e] <;> simp
theorem GInv.fresh (I : GInv K B φ S H) {a : Addr} (h : H a = none) : ¬ gJ φ S a := fun q => I.some_ q h
theorem GInv.nblk (I : GInv K B φ S H) {a : Addr} (h : H a = none) : ¬ fG B φ S a := fun q => by
 rcases q with q | q
 ·obtain ⟨u, e⟩ := I.btr a q; rw [h] at e; cases e
 ·exact I.fresh h q
theorem GInv.ntup (I : GInv K B φ S H) {a : Addr} {xs : List V} (h : H a = some (.tup xs)) : ¬ gJ φ S a := fun q => by
 rcases I.at_ q with ⟨_, e⟩ | ⟨_, _, _, e⟩ | ⟨_, e⟩ | ⟨_, e⟩ <;> rw [h] at e <;> cases e
theorem GInv.nfrz (I : GInv K B φ S H) {a : Addr} {o : Obj} {u : HO} (h : H a = some (.frz o u)) : ¬ gJ φ S a := fun q => by
 rcases I.at_ q with ⟨_, e⟩ | ⟨_, _, _, e⟩ | ⟨_, e⟩ | ⟨_, e⟩ <;> rw [h] at e <;> cases e
theorem Ext.kp (e : Ext φ S H φ' S' H') (I : GInv K B φ S H) : Kp (fG B φ S) H (fG B φ' S') H' where
 old := fun b o h n => by
  obtain ⟨h1, h2⟩ := e.old b o h (fun q => n (.inr q))
  exact ⟨h1, fun q => by
   rcases q with q | q
   ·exact n (.inl q)
   ·exact h2 q⟩
 tup := fun b u h => by
  rcases h with h | ⟨o, h⟩
  ·exact .inl (e.old _ _ h (I.ntup h)).1
  ·exact .inr ⟨o, (e.old _ _ h (I.nfrz h)).1⟩
theorem vH (e : ∀ (n : Nat) (a : Addr), φ[n]? = some a -> φ'[n]? = some a) : ∀ (ns : List Nat) (as : List Addr), ns.map (fun n => φ[n]?) = as.map some -> ns.map (fun n => φ'[n]?) = as.map some
 | [], as, h => h
 | n :: ns, [], h => by simp at h
 | n :: ns, a :: as, h => by
  simp only [aM, List.cons.injEq] at h ⊢;exact ⟨e _ _ h.1, vH e ns as h.2⟩
theorem RepV.ext (e : Ext φ S H φ' S' H') (I : GInv K B φ S H) : ∀ {d : Vl} {v : V}, RepV K B φ S H d v -> RepV K B φ' S' H' d v
 | .dat d, v, h => Rep.kp (e.kp I) d v h
 | .cel n, v, ⟨a, h1, h2⟩ => ⟨a, h1, e.ids _ _ h2⟩
 | .cels ns, v, ⟨a, as, h1, h2, h3, h4⟩ => ⟨a, as, h1, ((e.kp I).old _ _ h3 h2).2, ((e.kp I).old _ _ h3 h2).1, vH e.ids ns as h4⟩
 | .scr ns, v, ⟨a, h1, h2⟩ => ⟨a, h1, h2.keep fun o u h => (e.old _ _ h (I.nfrz h)).1⟩
 | .tc xs, v, ⟨a, vs, h1, h2, h3⟩ => ⟨a, vs, h1, SqT.kp (e.kp I).tup h2, h3.kp (e.kp I) e.ids⟩
theorem RepVs.ext (e : Ext φ S H φ' S' H') (I : GInv K B φ S H) : ∀ {ds : List Vl} {vs : List V}, RepVs K B φ S H ds vs -> RepVs K B φ' S' H' ds vs
 | [], vs, h => h
 | d :: ds, vs, ⟨v, ws, e1, h1, h2⟩ => ⟨v, ws, e1, h1.ext e I, RepVs.ext e I h2⟩
theorem RepF.ext (e : Ext φ S H φ' S' H') (I : GInv K B φ S H) : ∀ {ds : List (Str × Vl)} {vs : List (Str × V)}, RepF K B φ S H ds vs -> RepF K B φ' S' H' ds vs
 | [], vs, h => h
 | d :: ds, vs, ⟨v, ws, e1, h1, h2⟩ => ⟨v, ws, e1, h1.ext e I, RepF.ext e I h2⟩
theorem Ext.repL (e : Ext φ S H φ' S' H') (I : GInv K B φ S H) {ds : List D} {vs : List V} (h : RepL K (fG B φ S) H ds vs) : RepL K (fG B φ' S') H' ds vs := RepL.kp (e.kp I) ds vs h
theorem bY {B' : Addr -> Prop} (hV : ∀ {d : Vl} {v : V}, RepV K B φ S H d v -> RepV K B' φ' S' H' d v) : ∀ {ds : List Vl} {vs : List V}, RepVs K B φ S H ds vs -> RepVs K B' φ' S' H' ds vs
 | [], vs, h => h
 | d :: ds, vs, ⟨v, ws, e1, h1, h2⟩ => ⟨v, ws, e1, hV h1, bY hV h2⟩
def RepE (K : aB) (B : Addr -> Prop) (φ : List Addr) (S : aK) (H : Hp) (ρ : Ev) (σ : L2.St) : Prop :=
 ρ.length = σ.length /\ ∀ (i : Nat) (d : Vl), ρ[i]? = some (some d) -> ∃ v, σ[i]? = some (some v) /\ RepV K B φ S H d v
theorem RepE.ext {ρ : Ev} {σ : L2.St} (e : Ext φ S H φ' S' H') (I : GInv K B φ S H) (h : RepE K B φ S H ρ σ) : RepE K B φ' S' H' ρ σ :=
 ⟨h.1, fun i d q => by
  obtain ⟨v, h1, h2⟩ := h.2 i d q;exact ⟨v, h1, h2.ext e I⟩⟩
theorem RepE.set {ρ : Ev} {σ : L2.St} {d : Vl} {v : V} (h : RepE K B φ S H ρ σ) (r : RepV K B φ S H d v) (i : Nat) : RepE K B φ S H (ρ.set i (some d)) (σ.set i (some v)) := by
 refine ⟨by simp [h.1], fun j d' q => ?_⟩
 rw [aV] at q ⊢
 by_cases e : i = j
 ·subst e
  rw [if_pos rfl] at q ⊢
  by_cases hl : i < ρ.length
  ·rw [if_pos hl] at q
   cases q;rw [if_pos (by rw [<- h.1]; exact hl)]
   exact ⟨v, rfl, r⟩
  ·rw [if_neg hl] at q; cases q
 ·rw [if_neg e] at q ⊢
  exact h.2 j d' q
theorem RepE.forget {ρ : Ev} {σ : L2.St} (h : RepE K B φ S H ρ σ) (i : Nat) : RepE K B φ S H (ρ.set i none) σ := by
 refine ⟨by simp [h.1], fun j d' q => ?_⟩
 rw [aV] at q
 by_cases e : i = j
 ·subst e
  rw [if_pos rfl] at q
  by_cases hl : i < ρ.length
  ·rw [if_pos hl] at q; cases q
  ·rw [if_neg hl] at q; cases q
 ·rw [if_neg e] at q
  exact h.2 j d' q
theorem iD {x : Cell} {p a : Addr} (hl : φ.length = S.length) : gJ (φ ++ [p]) (S ++ [x]) a ↔ gJ φ S a \/ (x ≠ .dead /\ a = p) := by
 constructor
 ·rintro ⟨n, c, h1, h2, h3⟩
  by_cases hn : n < S.length
  ·rw [aJ hn] at h1
   rw [aJ (by omega)] at h3
   exact .inl ⟨n, c, h1, h2, h3⟩
  ·have e : n = S.length := by
    have := (aH.mp h1).1;simp at this;omega
   subst e;rw [bH (bN _)] at h1;rw [<- hl, bH (bN _)] at h3;simp at h1 h3;subst h1;exact .inr ⟨h2, h3.symm⟩
 ·rintro (⟨n, c, h1, h2, h3⟩ | ⟨h, rfl⟩)
  ·exact ⟨n, c, by rw [aJ (aH.mp h1).1]; exact h1, h2, by rw [aJ (aH.mp h3).1]; exact h3⟩
  ·exact ⟨S.length, x, by simp, h, by rw [<- hl]; simp⟩
theorem Ext.new {p : Addr} {o : HO} (I : GInv K B φ S H) (hp : H p = none) : Ext φ S H φ S (upd H p o) :=
 ⟨fun b u h n => ⟨by rw [upd_ne (ne_of_none h hp)]; exact h, n⟩, fun _ _ h => h⟩
theorem GInv.mono {o : Ext φ S H φ S H'} (I : GInv K B φ S H) (h : ∀ (n : Nat) (c : Cell) (a : Addr), S[n]? = some c -> c ≠ .dead -> φ[n]? = some a -> H' a = H a) : GInv K B φ S H' where
 len := I.len
 ok := fun n c a h1 h2 => by
  have q := I.ok n c a h1 h2;cases c with
  | dead => trivial
  | lst ds => obtain ⟨vs, e, r⟩ := q; exact ⟨vs, by rw [h n _ a h1 (by simp) h2]; exact e, o.repL I r⟩
  | ins C fs => obtain ⟨dx, vs, e, r⟩ := q; exact ⟨dx, vs, by rw [h n _ a h1 (by simp) h2]; exact e, r.ext o I⟩
  | dct fs => obtain ⟨vs, e, r⟩ := q; exact ⟨vs, by rw [h n _ a h1 (by simp) h2]; exact e, r.ext o I⟩
  | lv xs => obtain ⟨vs, e, r⟩ := q; exact ⟨vs, by rw [h n _ a h1 (by simp) h2]; exact e, r.ext o I⟩
  | dki ks xs => obtain ⟨vs, e, r⟩ := q; exact ⟨vs, by rw [h n _ a h1 (by simp) h2]; exact e, r.ext o I⟩
  | dkt ks xs => obtain ⟨vs, e, r⟩ := q; exact ⟨vs, by rw [h n _ a h1 (by simp) h2]; exact e, r.ext o I⟩
 inj := I.inj
 blk := I.blk
 btr := fun a h => by
  obtain ⟨u, e⟩ := I.btr a h;exact ⟨u, (o.old a u e fun q => I.blk a q h).1⟩
theorem GInv.new {p : Addr} {o : HO} (I : GInv K B φ S H) (hp : H p = none) : GInv K B φ S (upd H p o) :=
 GInv.mono (o := Ext.new I hp) I fun n c a h1 h2 h3 => by
  rw [upd_ne];intro e;subst e;exact I.fresh hp ⟨n, c, h1, h2, h3⟩
theorem Ext.newC {p : Addr} {o : HO} {x : Cell} (I : GInv K B φ S H) (hp : H p = none) : Ext φ S H (φ ++ [p]) (S ++ [x]) (upd H p o) where
 old := fun b u h n => by
  have hb : b ≠ p := ne_of_none h hp;exact ⟨by rw [upd_ne hb]; exact h, fun q => by
   rcases (iD I.len).mp q with q | ⟨_, q⟩
   ·exact n q
   ·exact hb q⟩
 ids := fun n a h => by rw [aJ (aH.mp h).1]; exact h
theorem GInv.newC {p : Addr} {o : HO} {x : Cell} (I : GInv K B φ S H) (hp : H p = none) (hx : x ≠ .dead -> yJ K B (φ ++ [p]) (S ++ [x]) (upd H p o) x p) : GInv K B (φ ++ [p]) (S ++ [x]) (upd H p o) where
 len := by simp [I.len]
 ok := fun n c a h1 h2 => by
  by_cases hn : n < S.length
  ·rw [aJ hn] at h1
   rw [aJ (by rw [I.len]; exact hn)] at h2
   have q := I.ok n c a h1 h2;have ex := Ext.newC (o := o) (x := x) I hp;have ha : c ≠ .dead -> upd H p o a = H a := fun hc => by
    rw [upd_ne];intro e;subst e;exact I.fresh hp ⟨n, c, h1, hc, h2⟩
   cases c with
   | dead => trivial
   | lst ds => obtain ⟨vs, e, r⟩ := q; exact ⟨vs, by rw [ha (by simp)]; exact e, ex.repL I r⟩
   | ins C fs => obtain ⟨dx, vs, e, r⟩ := q; exact ⟨dx, vs, by rw [ha (by simp)]; exact e, r.ext ex I⟩
   | dct fs => obtain ⟨vs, e, r⟩ := q; exact ⟨vs, by rw [ha (by simp)]; exact e, r.ext ex I⟩
   | lv xs => obtain ⟨vs, e, r⟩ := q; exact ⟨vs, by rw [ha (by simp)]; exact e, r.ext ex I⟩
   | dki ks xs => obtain ⟨vs, e, r⟩ := q; exact ⟨vs, by rw [ha (by simp)]; exact e, r.ext ex I⟩
   | dkt ks xs => obtain ⟨vs, e, r⟩ := q; exact ⟨vs, by rw [ha (by simp)]; exact e, r.ext ex I⟩
  ·have e : n = S.length := by
    have := (aH.mp h1).1;simp at this;omega
   subst e;rw [bH (bN _)] at h1;rw [<- I.len, bH (bN _)] at h2;simp at h1 h2;subst h1 h2;cases x with
   | dead => trivial
   | _ => exact hx (by simp)
 inj := fun n m c c' a h1 h2 h3 h4 h5 h6 => by
  have key : ∀ (n : Nat) (c : Cell), (S ++ [x])[n]? = some c -> (n < S.length /\ S[n]? = some c) \/ n = S.length := fun n c h => by
   by_cases hn : n < S.length
   ·rw [aJ hn] at h; exact .inl ⟨hn, h⟩
   ·have := (aH.mp h).1
    simp at this;exact .inr (by omega)
  have kφ : ∀ n : Nat, n < S.length -> (φ ++ [p])[n]? = φ[n]? := fun n hn => aJ (by rw [I.len]; exact hn)
  have kp : (φ ++ [p])[S.length]? = some p := by rw [<- I.len]; simp
  rcases key n c h1 with ⟨hn, e1⟩ | e1 <;> rcases key m c' h3 with ⟨hm, e2⟩ | e2
  ·rw [kφ n hn] at h5
   rw [kφ m hm] at h6;exact I.inj n m c c' a e1 h2 e2 h4 h5 h6
  ·subst e2
   rw [kp] at h6;cases h6;rw [kφ n hn] at h5;exact absurd ⟨n, c, e1, h2, h5⟩ (I.fresh hp)
  ·subst e1
   rw [kp] at h5;cases h5;rw [kφ m hm] at h6;exact absurd ⟨m, c', e2, h4, h6⟩ (I.fresh hp)
  ·omega
 blk := fun a h => by
  rcases (iD I.len).mp h with h | ⟨_, h⟩
  ·exact I.blk a h
  ·rw [h]; intro q; obtain ⟨u, e⟩ := I.btr p q; rw [hp] at e; cases e
 btr := fun a h => by
  obtain ⟨u, e⟩ := I.btr a h;exact ⟨u, by rw [upd_ne (ne_of_none e hp)]; exact e⟩
theorem AV {n : Nat} {c x : Cell} {a : Addr} (h : S[n]? = some c) (hc : c ≠ .dead) (hx : x ≠ .dead) : gJ φ (S.set n x) a ↔ gJ φ S a := by
 constructor
 ·rintro ⟨m, c', h1, h2, h3⟩
  rw [aV] at h1
  by_cases e : n = m
  ·subst e
   exact ⟨n, c, h, hc, h3⟩
  ·rw [if_neg e] at h1
   exact ⟨m, c', h1, h2, h3⟩
 ·rintro ⟨m, c', h1, h2, h3⟩
  by_cases e : n = m
  ·subst e
   exact ⟨n, x, by rw [aV, if_pos rfl, if_pos (aH.mp h).1], hx, h3⟩
  ·exact ⟨m, c', by rw [aV, if_neg e]; exact h1, h2, h3⟩
theorem yD {n : Nat} {a : Addr} (h : gJ φ (S.set n .dead) a) : gJ φ S a := by
 obtain ⟨m, c', h1, h2, h3⟩ := h;rw [aV] at h1
 by_cases e : n = m
 ·rw [if_pos e] at h1
  by_cases hl : n < S.length
  ·rw [if_pos hl] at h1; cases h1; exact absurd rfl h2
  ·rw [if_neg hl] at h1; cases h1
 ·rw [if_neg e] at h1
  exact ⟨m, c', h1, h2, h3⟩
theorem Ext.put {n : Nat} {c x : Cell} {a : Addr} {o : HO} (hn : S[n]? = some c) (hc : c ≠ .dead) (ha : φ[n]? = some a) (hx : x ≠ .dead) : Ext φ S H φ (S.set n x) (upd H a o) where
 old := fun b u h nb => by
  have hb : b ≠ a := fun e => by subst e; exact nb ⟨n, c, hn, hc, ha⟩
  exact ⟨by rw [upd_ne hb]; exact h, fun q => nb ((AV hn hc hx).mp q)⟩
 ids := fun _ _ h => h
theorem GInv.put {n : Nat} {c x : Cell} {a : Addr} {o : HO} (I : GInv K B φ S H) (hn : S[n]? = some c) (hc : c ≠ .dead) (ha : φ[n]? = some a) (hx : x ≠ .dead) (ok : yJ K B φ (S.set n x) (upd H a o) x a) : GInv K B φ (S.set n x) (upd H a o) where
 len := by simp [I.len]
 ok := fun m c' b h1 h2 => by
  by_cases e : n = m
  ·subst e
   rw [aV, if_pos rfl, if_pos (aH.mp hn).1] at h1;cases h1;rw [ha] at h2;cases h2;exact ok
  ·rw [aV, if_neg e] at h1
   have q := I.ok m c' b h1 h2;have ex := Ext.put (H := H) (o := o) hn hc ha hx;have hb : c' ≠ .dead -> upd H a o b = H b := fun hc' => upd_ne fun e2 => by
    subst e2;exact e (I.inj n m c c' b hn hc h1 hc' ha h2)
   cases c' with
   | dead => trivial
   | lst ds => obtain ⟨vs, e, r⟩ := q; exact ⟨vs, by rw [hb (by simp)]; exact e, ex.repL I r⟩
   | ins C fs => obtain ⟨dx, vs, e, r⟩ := q; exact ⟨dx, vs, by rw [hb (by simp)]; exact e, r.ext ex I⟩
   | dct fs => obtain ⟨vs, e, r⟩ := q; exact ⟨vs, by rw [hb (by simp)]; exact e, r.ext ex I⟩
   | lv xs => obtain ⟨vs, e, r⟩ := q; exact ⟨vs, by rw [hb (by simp)]; exact e, r.ext ex I⟩
   | dki ks xs => obtain ⟨vs, e, r⟩ := q; exact ⟨vs, by rw [hb (by simp)]; exact e, r.ext ex I⟩
   | dkt ks xs => obtain ⟨vs, e, r⟩ := q; exact ⟨vs, by rw [hb (by simp)]; exact e, r.ext ex I⟩
 inj := fun i j d d' b h1 h2 h3 h4 h5 h6 => by
  have key : ∀ (i : Nat) (d : Cell), (S.set n x)[i]? = some d -> d ≠ .dead -> ∃ d0, S[i]? = some d0 /\ d0 ≠ .dead := fun i d h hd => by
   by_cases e : n = i
   ·subst e; exact ⟨c, hn, hc⟩
   ·rw [aV, if_neg e] at h; exact ⟨d, h, hd⟩
  obtain ⟨d0, e1, e2⟩ := key i d h1 h2;obtain ⟨d1, e3, e4⟩ := key j d' h3 h4;exact I.inj i j d0 d1 b e1 e2 e3 e4 h5 h6
 blk := fun b h => I.blk b ((AV hn hc hx).mp h)
 btr := fun b h => by
  obtain ⟨u, e⟩ := I.btr b h;exact ⟨u, by rw [upd_ne]; exact e; intro q; subst q; exact I.blk b ⟨n, c, hn, hc, ha⟩ h⟩
theorem Ext.kill {n : Nat} : Ext φ S H φ (S.set n .dead) H := ⟨fun b o h nb => ⟨h, fun q => nb (yD q)⟩, fun _ _ h => h⟩
theorem GInv.kill {n : Nat} (I : GInv K B φ S H) : GInv K B φ (S.set n .dead) H where
 len := by simp [I.len]
 ok := fun m c' b h1 h2 => by
  by_cases e : n = m
  ·rw [aV, if_pos e] at h1
   by_cases hl : n < S.length
   ·rw [if_pos hl] at h1; cases h1; trivial
   ·rw [if_neg hl] at h1; cases h1
  ·rw [aV, if_neg e] at h1
   have q := I.ok m c' b h1 h2;have ex := Ext.kill (φ := φ) (S := S) (H := H) (n := n);cases c' with
   | dead => trivial
   | lst ds => obtain ⟨vs, e, r⟩ := q; exact ⟨vs, e, ex.repL I r⟩
   | ins C fs => obtain ⟨dx, vs, e, r⟩ := q; exact ⟨dx, vs, e, r.ext ex I⟩
   | dct fs => obtain ⟨vs, e, r⟩ := q; exact ⟨vs, e, r.ext ex I⟩
   | lv xs => obtain ⟨vs, e, r⟩ := q; exact ⟨vs, e, r.ext ex I⟩
   | dki ks xs => obtain ⟨vs, e, r⟩ := q; exact ⟨vs, e, r.ext ex I⟩
   | dkt ks xs => obtain ⟨vs, e, r⟩ := q; exact ⟨vs, e, r.ext ex I⟩
 inj := fun i j d d' b h1 h2 h3 h4 h5 h6 => by
  have key : ∀ (i : Nat) (d : Cell), (S.set n .dead)[i]? = some d -> d ≠ .dead -> S[i]? = some d := fun i d h hd => by
   rw [aV] at h
   by_cases e : n = i
   ·rw [if_pos e] at h
    by_cases hl : n < S.length
    ·rw [if_pos hl] at h; cases h; exact absurd rfl hd
    ·rw [if_neg hl] at h; cases h
   ·rw [if_neg e] at h; exact h
  exact I.inj i j d d' b (key i d h1 h2) h2 (key j d' h3 h4) h4 h5 h6
 blk := fun b h => I.blk b (yD h)
 btr := I.btr
theorem GInv.killed {n : Nat} {c : Cell} {a : Addr} (I : GInv K B φ S H) (hn : S[n]? = some c) (hc : c ≠ .dead) (ha : φ[n]? = some a) : ¬ fG B φ (S.set n .dead) a := fun q => by
 rcases q with q | ⟨m, c', h1, h2, h3⟩
 ·exact I.blk a ⟨n, c, hn, hc, ha⟩ q
 ·rw [aV] at h1
  by_cases e : n = m
  ·rw [if_pos e] at h1
   by_cases hl : n < S.length
   ·rw [if_pos hl] at h1; cases h1; exact h2 rfl
   ·rw [if_neg hl] at h1; cases h1
  ·rw [if_neg e] at h1
   exact e (I.inj n m c c' a hn hc h1 h2 ha h3)
end
abbrev FE := Ev -> aK -> Res Vl
abbrev FT := Ev -> aK -> Res Bool
abbrev FA := Ev -> aK -> Res (List Vl)
abbrev FO := Ev -> aK -> Res (Option Int)
abbrev Rl (α β : Type) := (Addr -> Prop) -> List Addr -> aK -> Hp -> α -> β -> Prop
def RepX (K : aB) (B : Addr -> Prop) (φ : List Addr) (S : aK) (H : Hp) (e : Er) (c : Value) (x : Option Addr) : Prop :=
 c = .ref (He.ga K e.cls) /\ ((e.ns = [] /\ x = none) \/ ∃ d vs, x = some d /\ H d = some (.xd (e.ns.zip vs)) /\ RepL K (fG B φ S) H e.xs vs)
section
variable {α β α' β' : Type}
def Fin (K : aB) (W : WX) (σ : L2.St) (R : Rl α β) (B : Addr -> Prop) (φ : List Addr) (S : aK) (H : Hp) (r : Res α) (Q : β -> Hp -> Prop) : Prop := match r with
 | .ok d S' => ∀ φ' v H', GInv K B φ' S' H' -> Ext φ S H φ' S' H' -> R B φ' S' H' d v -> Q v H'
 | .err e S' => ∀ φ' c x H', GInv K B φ' S' H' -> Ext φ S H φ' S' H' -> RepX K B φ' S' H' e c x -> W c x σ H'
 | .stuck => False
def rd (K : aB) (W : WX) (R : Rl α β) (m : Ev -> aK -> Res α) : L2.St -> Hp -> (β -> Hp -> Prop) -> Prop := fun σ H Q =>
 ∃ B φ S ρ, GInv K B φ S H /\ RepE K B φ S H ρ σ /\ Fin K W σ R B φ S H (m ρ S) Q
end
def RB : Rl Bool Bool := fun _ _ _ _ b c => c = b
def RO : Rl (Option Int) (Option Int) := fun _ _ _ _ b c => c = b
abbrev bU (K : aB) (W : WX) (m : FE) : TE := rd K W (RepV K) m
abbrev qU (K : aB) (W : WX) (m : FT) : TT := rd K W RB m
abbrev Fc (K : aB) (W : WX) (m : FA) : TA := rd K W (RepVs K) m
abbrev rdO (K : aB) (W : WX) (m : FO) : TO := rd K W RO m
section
variable {α β α' β' : Type} {K : aB} {W : WX} {σ : L2.St} {R : Rl α β} {R' : Rl α' β'} {B : Addr -> Prop} {φ φ' : List Addr} {S S' : aK} {H H' : Hp}
theorem Fin.ext {r : Res α} {Q : β -> Hp -> Prop} (f : Fin K W σ R B φ S H r Q) (e : Ext φ S H φ' S' H') : Fin K W σ R B φ' S' H' r Q := by
 cases r with
 | ok d S1 => exact fun φ1 v H1 I1 X r => f φ1 v H1 I1 (e.trans X) r
 | err x S1 => exact fun φ1 c x H1 I1 X r => f φ1 c x H1 I1 (e.trans X) r
 | stuck => exact f
theorem bJ {m : Ev -> aK -> Res α} {k : α -> Ev -> aK -> Res α'} {Q : β' -> Hp -> Prop} {Q1 : β -> Hp -> Prop} (h : rd K W R' (fun ρ S => (m ρ S).bind fun a S' => k a ρ S') σ H Q)
  (hk : ∀ B φ S ρ d v H1, GInv K B φ S H1 -> RepE K B φ S H1 ρ σ -> R B φ S H1 d v -> Fin K W σ R' B φ S H1 (k d ρ S) Q -> Q1 v H1) : rd K W R m σ H Q1 := by
 obtain ⟨B, φ, S, ρ, I, E, f⟩ := h;refine ⟨B, φ, S, ρ, I, E, ?_⟩
 dsimp only at f;cases e : m ρ S with
 | stuck => rw [e] at f; exact f
 | err x S' => rw [e] at f; exact f
 | ok d S' =>
  rw [e] at f;exact fun φ' v H' I' X r => hk B φ' S' ρ d v H' I' (E.ext X I) r (Fin.ext f X)
theorem gP {ρ : Ev} {m : Ev -> aK -> Res α} {k : α -> aK -> Res α'} {Q : β' -> Hp -> Prop} {Q1 : β -> Hp -> Prop} (I : GInv K B φ S H) (E : RepE K B φ S H ρ σ) (f : Fin K W σ R' B φ S H ((m ρ S).bind k) Q)
  (hk : ∀ φ' S' d v H1, GInv K B φ' S' H1 -> Ext φ S H φ' S' H1 -> RepE K B φ' S' H1 ρ σ -> R B φ' S' H1 d v -> Fin K W σ R' B φ' S' H1 (k d S') Q -> Q1 v H1) : rd K W R m σ H Q1 := by
 refine ⟨B, φ, S, ρ, I, E, ?_⟩
 cases e : m ρ S with
 | stuck => rw [e] at f; exact f
 | err x S' => rw [e] at f; exact f
 | ok d S' =>
  rw [e] at f;exact fun φ' v H' I' X r => hk φ' S' d v H' I' X (E.ext X I) r (Fin.ext f X)
theorem Fin.now {d : α} {v : β} {Q : β -> Hp -> Prop} (f : Fin K W σ R B φ S H (.ok d S) Q) (I : GInv K B φ S H) (r : R B φ S H d v) : Q v H := f φ v H I Ext.refl r
end
def newL (c : Bool) (ds : List D) (S : aK) : Res Vl := if c then .ok (.cel S.length) (S ++ [.lst ds]) else .ok (.dat (.lst ds)) S
section
variable {K : aB} {W : WX} {σ : L2.St} {B : Addr -> Prop} {φ φ' : List Addr} {S S' : aK} {H H' : Hp} {Q : VK}
theorem iB {l : List Addr} {p : Addr} : (l ++ [p])[l.length]? = some p := by simp
theorem Fin.newT {ds : List D} {vs : List V} {p : Addr} (f : Fin K W σ (RepV K) B φ S H (.ok (.dat (.tup ds)) S) Q) (I : GInv K B φ S H) (r : RepL K (fG B φ S) H ds vs) (hp : H p = none) : Q (.ref p) (upd H p (.tup vs)) :=
 f φ _ _ (I.new hp) (Ext.new I hp) ⟨p, vs, rfl, .inl (.inl upd_same), (Ext.new I hp).repL I r⟩
theorem Fin.newL {c : Bool} {ds : List D} {vs : List V} {p : Addr} (f : Fin K W σ (RepV K) B φ S H (newL c ds S) Q) (I : GInv K B φ S H) (r : RepL K (fG B φ S) H ds vs) (hp : H p = none) : Q (.ref p) (upd H p (.lst vs)) := by
 unfold PH.newL at f;cases c with
 | false =>
  refine f φ _ _ (I.new hp) (Ext.new I hp) ⟨p, vs, rfl, I.nblk hp, upd_same, (Ext.new I hp).repL I r⟩
 | true =>
  have X := Ext.newC (o := .lst vs) (x := .lst ds) I hp;refine f (φ ++ [p]) _ _ (I.newC hp fun _ => ⟨vs, upd_same, X.repL I r⟩) X ⟨p, rfl, ?_⟩
  rw [<- I.len];exact iB
end
instance instIntMulOk (a b : Int) : Decidable (IntMulOk a b) := by unfold IntMulOk; infer_instance
instance instCDiv (a b : Int) : Decidable (CDiv a b) := by unfold CDiv; infer_instance
instance instCPow (a b : Int) : Decidable (CPow a b) := by unfold CPow; infer_instance
def lk : Ev -> Nat -> Option Vl
 | [], _ => none
 | x :: _, 0 => x
 | _ :: r, n + 1 => lk r n
theorem G9 : ∀ {ρ : Ev} {i : Nat} {d : Vl}, lk ρ i = some d -> ρ[i]? = some (some d)
 | [], _, _, h => by cases h
 | x :: _, 0, d, h => by
  have e : x = some d := h;rw [e]; rfl
 | _ :: r, n + 1, d, h => by
  have e := G9 (ρ := r) (i := n) (d := d) h
  simpa using e
def aE (i : Nat) : FE := fun ρ S => match lk ρ i with
 | some d => .ok d S
 | none => .stuck
def mC (d : D) : FE := fun _ S => .ok (.dat d) S
def aZ (f : Vl -> Vl -> aK -> Res Vl) (a b : FE) : FE := fun ρ S => (a ρ S).bind fun x S1 => (b ρ S1).bind fun y S2 => f x y S2
def m1 (f : Vl -> aK -> Res Vl) (a : FE) : FE := fun ρ S => (a ρ S).bind fun x S1 => f x S1
def dO (K : aB) (r : R2) (f : Vl -> Vl -> aK -> Res Vl) : Prop := ∀ {W : WX} {σ : L2.St} {B : Addr -> Prop} {φ : List Addr} {S : aK} {H : Hp} {x y : V} {d e : Vl} {Q : VK}, GInv K B φ S H -> RepV K B φ S H d x -> RepV K B φ S H e y -> Fin K W σ (RepV K) B φ S H (f d e S) Q -> r x y H Q
def yE (K : aB) (r : V -> Hp -> VK -> Prop) (f : Vl -> aK -> Res Vl) : Prop := ∀ {W : WX} {σ : L2.St} {B : Addr -> Prop} {φ : List Addr} {S : aK} {H : Hp} {x : V} {d : Vl} {Q : VK}, GInv K B φ S H -> RepV K B φ S H d x -> Fin K W σ (RepV K) B φ S H (f d S) Q -> r x H Q
section
variable {X : Cx} {W : WX} {e a b c : Expr} {pos p : Pos} {x : Str}
theorem fv (i : Nat) (hN : X.N[i]? = some x := by rfl) (hv : Vis X.env.scope x := by first | exact qT rfl | exact nJ (qT rfl) | exact nJ (nJ rfl)) (hd : (x == ("__debug__" : Str)) = false := by decide)
  (hcd : (x == ("__classdict__" : Str)) = false := by decide) : PE X (.Name x pos) (bU X.K W (aE i)) := bP (pe_var hN hv hd hcd) fun σ H Q h => by
 obtain ⟨B, φ, S, ρ, I, E, f⟩ := h;unfold aE at f;cases q : lk ρ i with
 | none => rw [q] at f; exact f.elim
 | some d =>
  rw [q] at f;obtain ⟨v, h1, h2⟩ := E.2 i d (G9 q);exact ⟨v, h1, f.now I h2⟩
theorem HF {v : V} {d : D} (h : PE X e (tC v)) (r : ∀ Bk H, Rep X.K Bk H d v) : PE X e (bU X.K W (mC d)) := bP h fun σ H Q h => by
 obtain ⟨B, φ, S, ρ, I, E, f⟩ := h;exact Fin.now (v := v) f I (r _ _)
theorem tK {K : aB} {r : R2} {f : Vl -> Vl -> aK -> Res Vl} {ma mb : FE} {σ : L2.St} {H : Hp} {Q : VK} (s : dO K r f) (h : bU K W (aZ f ma mb) σ H Q) : tOp r (bU K W ma) (bU K W mb) σ H Q :=
 bJ (k := fun x ρ S => (mb ρ S).bind fun y S2 => f x y S2) h fun B φ S ρ d v H1 I E r1 f' => gP I E f' fun φ' S' e w H2 I2 X2 E2 r2 f2 => s I2 (r1.ext X2 I) r2 f2
theorem cA {op : Operator} {r : R2} {f : Vl -> Vl -> aK -> Res Vl} {ma mb : FE} (o : OpR X (binaryOp op) r) (s : dO X.K r f) (ha : PE X a (bU X.K W ma)) (hb : PE X b (bU X.K W mb)) : PE X (.BinOp a op b pos) (bU X.K W (aZ f ma mb)) :=
 bP (pe_op o ha hb) fun σ H Q h => tK s h
theorem kO {op : CmpOp} {r : R2} {f : Vl -> Vl -> aK -> Res Vl} {ma mb : FE} (o : OpR X (compareOp op) r) (s : dO X.K r f) (ha : PE X a (bU X.K W ma)) (hb : PE X b (bU X.K W mb)) (hm : behindInMarks op b = false := by rfl) : PE X (.Compare a [op] [b] pos) (bU X.K W (aZ f ma mb)) :=
 bP (e_cmp o ha hb hm) fun σ H Q h => tK s h
theorem Fn {K : aB} {r : V -> Hp -> VK -> Prop} {f : Vl -> aK -> Res Vl} {ma : FE} {σ : L2.St} {H : Hp} {Q : VK} (s : yE K r f) (h : bU K W (m1 f ma) σ H Q) : bU K W ma σ H fun x H1 => r x H1 Q :=
 bJ (k := fun x ρ S => f x S) h fun B φ S ρ d v H1 I E r1 f' => s I r1 f'
def rM : Vl -> Vl -> aK -> Res Vl
 | .dat (.int i), .dat (.int j), S => .ok (.dat (.int (i - j))) S
 | _, _, _ => .stuck
def DK : Vl -> Vl -> aK -> Res Vl
 | .dat (.int i), .dat (.int j), S => if IntMulOk i j then .ok (.dat (.int (i * j))) S else .stuck
 | _, _, _ => .stuck
def qS : Vl -> Vl -> aK -> Res Vl
 | .dat (.int i), .dat (.int j), S => if 0 < j then .ok (.dat (.int (i % j))) S else .stuck
 | _, _, _ => .stuck
def oS : Vl -> Vl -> aK -> Res Vl
 | .dat (.int i), .dat (.int j), S => if CDiv i j then .ok (.dat (.int (i / j))) S else .stuck
 | _, _, _ => .stuck
def JU : Vl -> Vl -> aK -> Res Vl
 | .dat (.int i), .dat (.int j), S => if CPow i j then .ok (.dat (.int (i ^ j.toNat))) S else .stuck
 | _, _, _ => .stuck
def Fd : Vl -> Vl -> aK -> Res Vl
 | .dat (.int i), .dat (.int j), S => .ok (.dat (.bl (decide (i < j)))) S
 | _, _, _ => .stuck
def Fe : Vl -> Vl -> aK -> Res Vl
 | .dat (.int i), .dat (.int j), S => .ok (.dat (.bl (decide (i <= j)))) S
 | _, _, _ => .stuck
def FF : Vl -> Vl -> aK -> Res Vl
 | .dat (.int i), .dat (.int j), S => .ok (.dat (.bl (decide (j < i)))) S
 | _, _, _ => .stuck
def fGe : Vl -> Vl -> aK -> Res Vl
 | .dat (.int i), .dat (.int j), S => .ok (.dat (.bl (decide (j <= i)))) S
 | _, _, _ => .stuck
variable {K : aB}
theorem oO : dO K Fu rM := fun {W σ B φ S H x y d e Q} I r1 r2 f => by
 unfold rM at f;split at f
 ·cases r1; cases r2; exact Fin.now f I rfl
 ·exact f.elim
theorem Di : dO K Jn DK := fun {W σ B φ S H x y d e Q} I r1 r2 f => by
 unfold DK at f;split at f
 ·cases r1; cases r2
  split at f
  ·rename_i h; exact ⟨h, Fin.now f I rfl⟩
  ·exact f.elim
 ·exact f.elim
theorem mW : dO K Jo qS := fun {W σ B φ S H x y d e Q} I r1 r2 f => by
 unfold qS at f;split at f
 ·cases r1; cases r2
  split at f
  ·rename_i h; exact ⟨h, Fin.now f I rfl⟩
  ·exact f.elim
 ·exact f.elim
theorem wD : dO K Fw oS := fun {W σ B φ S H x y d e Q} I r1 r2 f => by
 unfold oS at f;split at f
 ·cases r1; cases r2
  split at f
  ·rename_i h; exact ⟨h, Fin.now f I rfl⟩
  ·exact f.elim
 ·exact f.elim
theorem s_pow : dO K Jm JU := fun {W σ B φ S H x y d e Q} I r1 r2 f => by
 unfold JU at f;split at f
 ·cases r1; cases r2
  split at f
  ·rename_i h; exact ⟨h, Fin.now f I rfl⟩
  ·exact f.elim
 ·exact f.elim
theorem Aj : dO K rLtC Fd := fun {W σ B φ S H x y d e Q} I r1 r2 f => by
 unfold Fd at f;split at f
 ·cases r1; cases r2; exact Fin.now f I rfl
 ·exact f.elim
theorem Ak : dO K rLeC Fe := fun {W σ B φ S H x y d e Q} I r1 r2 f => by
 unfold Fe at f;split at f
 ·cases r1; cases r2; exact Fin.now f I rfl
 ·exact f.elim
theorem yP : dO K rGtC FF := fun {W σ B φ S H x y d e Q} I r1 r2 f => by
 unfold FF at f;split at f
 ·cases r1; cases r2; exact Fin.now f I rfl
 ·exact f.elim
theorem s_ge : dO K rGeC fGe := fun {W σ B φ S H x y d e Q} I r1 r2 f => by
 unfold fGe at f;split at f
 ·cases r1; cases r2; exact Fin.now f I rfl
 ·exact f.elim
def yW : Vl -> aK -> Res Vl
 | .dat (.int i), S => .ok (.dat (.int (-i))) S
 | _, _ => .stuck
theorem xN {ma : FE} (ha : PE X a (bU X.K W ma)) : PE X (.UnaryOp .USub a pos) (bU X.K W (m1 yW ma)) :=
 bP (pe_un Hm ha) fun σ H Q h => Fn (r := cNeg) (fun {W σ B φ S H x d Q} I r f => by
  unfold yW at f;split at f
  ·cases r; exact Fin.now f I rfl
  ·exact f.elim) h
theorem RepL.len {Bk : Addr -> Prop} {H : Hp} : ∀ {ds : List D} {vs : List V}, RepL K Bk H ds vs -> vs.length = ds.length
 | [], vs, h => by cases h; rfl
 | d :: ds, vs, ⟨v, ws, e, _, h2⟩ => by subst e; simp [RepL.len h2]
theorem RepL.get {Bk : Addr -> Prop} {H : Hp} : ∀ {ds : List D} {vs : List V} {i : Nat} {d : D}, RepL K Bk H ds vs -> ds[i]? = some d -> ∃ v, vs[i]? = some v /\ Rep K Bk H d v
 | [], vs, i, d, h, q => by simp at q
 | d :: ds, vs, 0, d', ⟨v, ws, e, h1, h2⟩, q => by simp at q; subst q e; exact ⟨v, rfl, h1⟩
 | d :: ds, vs, i + 1, d', ⟨v, ws, e, h1, h2⟩, q => by
  subst e;obtain ⟨v', h3, h4⟩ := RepL.get (i := i) (d := d') h2 (by simpa using q)
  exact ⟨v', by simpa using h3, h4⟩
theorem RepL.append {Bk : Addr -> Prop} {H : Hp} : ∀ {ds es : List D} {vs ws : List V}, RepL K Bk H ds vs -> RepL K Bk H es ws -> RepL K Bk H (ds ++ es) (vs ++ ws)
 | [], es, vs, ws, h, h' => by cases h; exact h'
 | d :: ds, es, vs, ws, ⟨v, us, e, h1, h2⟩, h' => by subst e; exact ⟨v, us ++ ws, rfl, h1, RepL.append h2 h'⟩
theorem RepL.take {Bk : Addr -> Prop} {H : Hp} : ∀ {ds : List D} {vs : List V} (n : Nat), RepL K Bk H ds vs -> RepL K Bk H (ds.take n) (vs.take n)
 | ds, vs, 0, h => by simp [RepL]
 | [], vs, n + 1, h => by cases h; rfl
 | d :: ds, vs, n + 1, ⟨v, us, e, h1, h2⟩ => by subst e; exact ⟨v, us.take n, rfl, h1, RepL.take n h2⟩
theorem RepL.drop {Bk : Addr -> Prop} {H : Hp} : ∀ {ds : List D} {vs : List V} (n : Nat), RepL K Bk H ds vs -> RepL K Bk H (ds.drop n) (vs.drop n)
 | ds, vs, 0, h => h
 | [], vs, n + 1, h => by cases h; rfl
 | d :: ds, vs, n + 1, ⟨v, us, e, h1, h2⟩ => by subst e; exact RepL.drop n h2
theorem RepL.set {Bk : Addr -> Prop} {H : Hp} {d : D} {v : V} (r : Rep K Bk H d v) : ∀ {ds : List D} {vs : List V} (n : Nat), RepL K Bk H ds vs -> RepL K Bk H (ds.set n d) (vs.set n v)
 | [], vs, n, h => by cases h; rfl
 | _ :: ds, vs, 0, ⟨_, us, e, h1, h2⟩ => by subst e; exact ⟨v, us, rfl, r, h2⟩
 | d' :: ds, vs, n + 1, ⟨v', us, e, h1, h2⟩ => by subst e; exact ⟨v', us.set n v, rfl, h1, RepL.set r n h2⟩
theorem RepL.snoc {Bk : Addr -> Prop} {H : Hp} {ds : List D} {vs : List V} {d : D} {v : V} (h : RepL K Bk H ds vs) (r : Rep K Bk H d v) : RepL K Bk H (ds ++ [d]) (vs ++ [v]) := h.append ⟨v, [], rfl, r, rfl⟩
theorem RepL.atI {Bk : Addr -> Prop} {H : Hp} {ds : List D} {vs : List V} {i : Int} {d : D} (h : RepL K Bk H ds vs) (q : L2.atI ds i = some d) : ∃ v, L2.atI vs i = some v /\ Rep K Bk H d v := by
 unfold L2.atI at q ⊢;rw [h.len];cases e : ixN ds.length i with
 | none => rw [e] at q; cases q
 | some j =>
  rw [e] at q;exact h.get (i := j) q
theorem RepVs.len {B : Addr -> Prop} {φ : List Addr} {S : aK} {H : Hp} : ∀ {ds : List Vl} {vs : List V}, RepVs K B φ S H ds vs -> vs.length = ds.length
 | [], vs, h => by cases h; rfl
 | d :: ds, vs, ⟨v, ws, e, _, h2⟩ => by subst e; simp [RepVs.len h2]
def oX : List Vl -> Option (List D)
 | [] => some []
 | .dat d :: r => match oX r with
  | some ds => some (d :: ds)
  | none => none
 | _ :: _ => none
theorem tE {B : Addr -> Prop} {φ : List Addr} {S : aK} {H : Hp} : ∀ {xs : List Vl} {vs : List V} {ds : List D}, oX xs = some ds -> RepVs K B φ S H xs vs -> RepL K (fG B φ S) H ds vs
 | [], vs, ds, h, r => by cases h; exact r
 | .dat d :: xs, vs, ds, h, ⟨v, ws, e, h1, h2⟩ => by
  unfold oX at h;cases q : oX xs with
  | none => rw [q] at h; cases h
  | some es => rw [q] at h; cases h; exact ⟨v, ws, e, h1, tE q h2⟩
 | .cel _ :: xs, vs, ds, h, _ => by cases h
 | .cels _ :: xs, vs, ds, h, _ => by cases h
 | .scr _ :: xs, vs, ds, h, _ => by cases h
 | .tc _ :: xs, vs, ds, h, _ => by cases h
def lO (S : aK) : Vl -> Option (List D)
 | .dat (.lst xs) => some xs
 | .cel n => match S[n]? with
  | some (.lst xs) => some xs
  | _ => none
 | _ => none
theorem jN {B : Addr -> Prop} {φ : List Addr} {S : aK} {H : Hp} {d : Vl} {v : V} {xs : List D} (I : GInv K B φ S H) (h : lO S d = some xs) (r : RepV K B φ S H d v) : ∃ a vs, v = .ref a /\ H a = some (.lst vs) /\ RepL K (fG B φ S) H xs vs := by
 unfold lO at h;split at h
 ·cases h
  obtain ⟨a, vs, e, _, h1, h2⟩ := r;exact ⟨a, vs, e, h1, h2⟩
 ·rename_i n
  obtain ⟨a, e, h1⟩ := r;split at h
  ·rename_i ys q
   cases h;obtain ⟨vs, h2, h3⟩ := I.ok n _ a q h1;exact ⟨a, vs, e, h2, h3⟩
  ·cases h
 ·cases h
end
section
variable {X : Cx} {W : WX} {e a b c : Expr} {es rest : List Expr} {pos p : Pos} {x : Str} {K : aB} {ma mb mc : FE} {mt mu : FT} {mas : FA} {B : Addr -> Prop} {φ : List Addr} {S : aK} {H : Hp} {σ : L2.St} {Q : VK}
def dY (cl : Bool) (x y : Vl) (S : aK) : Res Vl := match x, y with
 | .dat (.int i), .dat (.int j) => .ok (.dat (.int (i + j))) S
 | .dat (.str a), .dat (.str b) => if a.length + b.length <= sizeLine then .ok (.dat (.str (a ++ b))) S else .stuck
 | .dat (.tup xs), .dat (.tup ys) => if xs.length + ys.length <= sizeLine then .ok (.dat (.tup (xs ++ ys))) S else .stuck
 | x, y => match lO S x, lO S y with
  | some xs, some ys => if xs.length + ys.length <= sizeLine then newL cl (xs ++ ys) S else .stuck
  | _, _ => .stuck
theorem dB {cl : Bool} : dO K (FM K) (dY cl) := fun {W σ B φ S H x y d e Q} I r1 r2 f => by
 unfold dY at f;split at f
 ·cases r1; cases r2; exact Fin.now f I rfl
 ·cases r1; cases r2
  split at f
  ·rename_i h; exact ⟨h, Fin.now f I rfl⟩
  ·exact f.elim
 ·rename_i xs ys
  obtain ⟨a, vs, rfl, h1, l1⟩ := r1;obtain ⟨b, ws, rfl, h2, l2⟩ := r2;split at f
  ·rename_i h
   refine nJ ⟨a, b, vs, ws, rfl, rfl, h1, h2, by rw [l1.len, l2.len]; exact h, fun e => ?_, fun e1 e2 => ?_, fun _ _ p hp => Fin.newT f I (l1.append l2) hp⟩
   ·have l := l1.append l2
    rw [e, zA] at l;exact Fin.now f I ⟨b, ws, rfl, h2, l⟩
   ·have l := l1.append l2
    rw [e2, cL] at l;exact Fin.now f I ⟨a, vs, rfl, h1, l⟩
  ·exact f.elim
 ·split at f
  ·rename_i xs ys q1 q2
   obtain ⟨a, vs, rfl, h1, l1⟩ := jN I q1 r1;obtain ⟨b, ws, rfl, h2, l2⟩ := jN I q2 r2;split at f
   ·rename_i h
    exact qT ⟨a, b, vs, ws, rfl, rfl, h1, h2, by rw [l1.len, l2.len]; exact h, fun p hp => Fin.newL f I (l1.append l2) hp⟩
   ·exact f.elim
  ·exact f.elim
def cV (x y : Vl) (S : aK) : Res Vl := match x, y with
 | .dat (.tup xs), .dat (.int i) => match atI xs i with
  | some d => .ok (.dat d) S
  | none => .stuck
 | .dat (.str z), .dat (.int i) => if z.length <= sizeLine then (match atI z.cps.toList i with
  | some c => .ok (.dat (.str ⟨#[c]⟩)) S
  | none => .stuck) else .stuck
 | .cels ns, .dat (.int i) => match atI ns i with
  | some n => .ok (.cel n) S
  | none => .stuck
 | x, .dat (.int i) => match lO S x with
  | some xs => (match atI xs i with
   | some d => .ok (.dat d) S
   | none => .stuck)
  | none => .stuck
 | _, _ => .stuck
theorem BG {α β : Type} {f : α -> β} {xs : List α} {i : Int} : atI (xs.map f) i = (atI xs i).map f := by
 unfold atI;rw [aQ];cases ixN xs.length i with
 | none => rfl
 | some j => simp
theorem s_ix : dO K (cIx K) cV := fun {W σ B φ S H x y d e Q} I r1 r2 f => by
 unfold cV at f;split at f
 ·cases r2
  obtain ⟨a, vs, rfl, h1, l1⟩ := r1;split at f
  ·rename_i q
   obtain ⟨v, h2, h3⟩ := l1.atI q;exact ⟨vs, v, .inr h1, h2, Fin.now f I h3⟩
  ·exact f.elim
 ·cases r1; cases r2
  split at f
  ·rename_i h
   split at f
   ·rename_i c q
    exact ⟨h, c, q, Fin.now f I rfl⟩
   ·exact f.elim
  ·exact f.elim
 ·rename_i ns i
  cases r2;obtain ⟨a, as, rfl, h1, h2, h3⟩ := r1;split at f
  ·rename_i n q
   have q2 : atI (ns.map fun n => φ[n]?) i = some φ[n]? := by rw [BG, q]; rfl
   rw [h3, BG] at q2;cases q3 : atI as i with
   | none => rw [q3] at q2; cases q2
   | some b =>
    rw [q3] at q2;refine ⟨as.map V.ref, .ref b, .inl (SqL.of h2), by rw [BG, q3]; rfl, Fin.now f I ⟨b, rfl, ?_⟩⟩
    simpa using q2.symm
  ·exact f.elim
 ·cases r2
  split at f
  ·rename_i xs q1
   obtain ⟨a, vs, rfl, h1, l1⟩ := jN I q1 r1;split at f
   ·rename_i q
    obtain ⟨v, h2, h3⟩ := l1.atI q;exact ⟨vs, v, .inl (SqL.of h1), h2, Fin.now f I h3⟩
   ·exact f.elim
  ·exact f.elim
 ·exact f.elim
theorem cE (ha : PE X a (bU X.K W ma)) (hb : PE X b (bU X.K W mb)) (hs : PlainIx b := by intro _ _; rfl) : PE X (.Subscript a b pos) (bU X.K W (aZ cV ma mb)) := bP (M8 ha hb hs) fun σ H Q h => tK s_ix h
mutual
def D.py : D -> Option PyData
 | .non => some .none
 | .bl b => some (.bool b)
 | .int i => some (.int i)
 | .str x => some (.str x)
 | .lst xs => match D.pys xs with
  | some ys => some (.list ys)
  | none => none
 | .tup xs => match D.pys xs with
  | some ys => some (.tuple ys)
  | none => none
 | .ins _ _ _ => none
 | .dct => none
 | .opq _ => none
def D.pys : List D -> Option (List PyData)
 | [] => some []
 | d :: ds => match D.py d, D.pys ds with
  | some x, some xs => some (x :: xs)
  | _, _ => none
end
mutual
theorem Rep.dp {Bk : Addr -> Prop} {H : Hp} : ∀ (d : D) (v : V) (p : PyData), d.py = some p -> Rep K Bk H d v -> Dp K H v p
 | .non, v, p, h, r => by cases h; cases r; exact .non
 | .bl b, v, p, h, r => by cases h; cases r; exact .bl b
 | .int b, v, p, h, r => by cases h; cases r; exact .int b
 | .str b, v, p, h, r => by cases h; cases r; exact .str b
 | .lst xs, v, p, h, ⟨a, vs, e, _, h1, h2⟩ => by
  subst e;unfold D.py at h;cases q : D.pys xs with
  | none => rw [q] at h; cases h
  | some ys => rw [q] at h; cases h; exact .lst (SqL.of h1) (RepL.dp xs vs ys q h2)
 | .tup xs, v, p, h, ⟨a, vs, e, h1, h2⟩ => by
  subst e;unfold D.py at h;cases q : D.pys xs with
  | none => rw [q] at h; cases h
  | some ys => rw [q] at h; cases h; exact .tup h1 (RepL.dp xs vs ys q h2)
 | .ins _ _ _, v, p, h, r => by cases h
 | .dct, v, p, h, r => by cases h
 | .opq _, v, p, h, r => by cases h
theorem RepL.dp {Bk : Addr -> Prop} {H : Hp} : ∀ (ds : List D) (vs : List V) (ps : List PyData), D.pys ds = some ps -> RepL K Bk H ds vs -> DpAll K H vs ps
 | [], vs, ps, h, r => by cases h; cases r; exact .nil
 | d :: ds, vs, ps, h, ⟨v, ws, e, h1, h2⟩ => by
  subst e;unfold D.pys at h;cases q1 : D.py d with
  | none => rw [q1] at h; cases h
  | some x =>
   cases q2 : D.pys ds with
   | none => rw [q1, q2] at h; cases h
   | some xs => rw [q1, q2] at h; cases h; exact .cons (Rep.dp d v x q1 h1) (RepL.dp ds ws xs q2 h2)
end
def Do (S : aK) : Vl -> Option PyData
 | .dat d => d.py
 | .cel n => match S[n]? with
  | some (.lst xs) => D.py (.lst xs)
  | _ => none
 | _ => none
def Eh (S : aK) : List Vl -> Option (List PyData)
 | [] => some []
 | x :: r => match Do S x, Eh S r with
  | some p, some ps => some (p :: ps)
  | _, _ => none
def wK (S : aK) : Vl -> Option PyData
 | .dat d => d.py
 | .cel n => match S[n]? with
  | some (.lst xs) => D.py (.lst xs)
  | some (.lv xs) => (match Eh S xs with
   | some ps => some (.list ps)
   | none => none)
  | _ => none
 | _ => none
theorem Fx {d : Vl} {v : V} {p : PyData} (I : GInv K B φ S H) (h : Do S d = some p) (r : RepV K B φ S H d v) : Dp K H v p := by
 unfold Do at h;split at h
 ·exact Rep.dp _ _ _ h r
 ·rename_i n
  obtain ⟨a, rfl, h1⟩ := r;split at h
  ·rename_i xs q
   obtain ⟨vs, h2, h3⟩ := I.ok n _ a q h1;unfold D.py at h;cases q : D.pys xs with
   | none => rw [q] at h; cases h
   | some ys => rw [q] at h; cases h; exact .lst (SqL.of h2) (RepL.dp xs vs ys q h3)
  ·cases h
 ·cases h
theorem Dm (I : GInv K B φ S H) : ∀ {xs : List Vl} {vs : List V} {ps : List PyData}, Eh S xs = some ps -> RepVs K B φ S H xs vs -> DpAll K H vs ps
 | [], vs, ps, h, r => by cases h; cases r; exact .nil
 | x :: xs, vs, ps, h, ⟨v, ws, e, h1, h2⟩ => by
  subst e;unfold Eh at h;cases q1 : Do S x with
  | none => rw [q1] at h; cases h
  | some p =>
   cases q2 : Eh S xs with
   | none => rw [q1, q2] at h; cases h
   | some qs => rw [q1, q2] at h; cases h; exact .cons (Fx I q1 h1) (Dm I q2 h2)
theorem vF {d : Vl} {v : V} {p : PyData} (I : GInv K B φ S H) (h : wK S d = some p) (r : RepV K B φ S H d v) : Dp K H v p := by
 unfold wK at h;split at h
 ·exact Rep.dp _ _ _ h r
 ·rename_i n
  obtain ⟨a, rfl, h1⟩ := r;split at h
  ·rename_i xs q
   obtain ⟨vs, h2, h3⟩ := I.ok n _ a q h1;unfold D.py at h;cases q : D.pys xs with
   | none => rw [q] at h; cases h
   | some ys => rw [q] at h; cases h; exact .lst (SqL.of h2) (RepL.dp xs vs ys q h3)
  ·rename_i xs q
   obtain ⟨vs, h2, h3⟩ := I.ok n _ a q h1;cases q : Eh S xs with
   | none => rw [q] at h; cases h
   | some ys => rw [q] at h; cases h; exact .lst (SqL.of h2) (Dm I q h3)
  ·cases h
 ·cases h
def KM (p q : PyData) : Bool := SeqAt.shaped p && SeqAt.shaped q
def eK (x y : Vl) (S : aK) : Res Vl := match x, y with
 | .dat (.int i), .dat (.int j) => .ok (.dat (.bl (decide (i = j)))) S
 | .dat (.str i), .dat (.str j) => .ok (.dat (.bl (decide (i = j)))) S
 | x, y => match wK S x, wK S y with
  | some p, some q => if KM p q = true then .ok (.dat (.bl (PyData.eqv p q))) S else .stuck
  | _, _ => .stuck
def Ce (x y : Vl) (S : aK) : Res Vl := match x, y with
 | .dat (.int i), .dat (.int j) => .ok (.dat (.bl (!decide (i = j)))) S
 | .dat (.str i), .dat (.str j) => .ok (.dat (.bl (!decide (i = j)))) S
 | x, y => match wK S x, wK S y with
  | some p, some q => if KM p q = true then .ok (.dat (.bl (!PyData.eqv p q))) S else .stuck
  | _, _ => .stuck
theorem Jb {x y : V} (h : rEqD K x y H Q) : cEq K x y H Q := by
 unfold cEq;split
 ·obtain ⟨d, e, h1, h2, _, _, q⟩ := h
  cases h1; cases h2;exact q
 ·obtain ⟨d, e, h1, h2, _, _, q⟩ := h
  cases h1; cases h2;exact q
 ·exact h
theorem Ja {x y : V} (h : rNeD K x y H Q) : cNe K x y H Q := by
 unfold cNe;split
 ·obtain ⟨d, e, h1, h2, _, _, q⟩ := h
  cases h1; cases h2;exact q
 ·obtain ⟨d, e, h1, h2, _, _, q⟩ := h
  cases h1; cases h2;exact q
 ·exact h
theorem s_eq : dO K (cEq K) eK := fun {W σ B φ S H x y d e Q} I r1 r2 f => by
 unfold eK at f;split at f
 ·cases r1; cases r2; exact Fin.now f I rfl
 ·cases r1; cases r2; exact Fin.now f I rfl
 ·split at f
  ·rename_i p q h1 h2
   split at f
   ·rename_i h
    obtain ⟨h3, h4⟩ := He.ba h;exact Jb ⟨p, q, vF I h1 r1, vF I h2 r2, h3, h4, Fin.now f I rfl⟩
   ·exact f.elim
  ·exact f.elim
theorem Ai : dO K (cNe K) Ce := fun {W σ B φ S H x y d e Q} I r1 r2 f => by
 unfold Ce at f;split at f
 ·cases r1; cases r2; exact Fin.now f I rfl
 ·cases r1; cases r2; exact Fin.now f I rfl
 ·split at f
  ·rename_i p q h1 h2
   split at f
   ·rename_i h
    obtain ⟨h3, h4⟩ := He.ba h;exact Ja ⟨p, q, vF I h1 r1, vF I h2 r2, h3, h4, Fin.now f I rfl⟩
   ·exact f.elim
  ·exact f.elim
def isNon : Vl -> Bool
 | .dat .non => true
 | _ => false
def FC (neg : Bool) (x y : Vl) (S : aK) : Res Vl := match y with
 | .dat .non => .ok (.dat (.bl (if neg then !(isNon x) else isNon x))) S
 | _ => .stuck
theorem GT {d : Vl} {v : V} (r : RepV K B φ S H d v) : decide (v = .non) = isNon d := by
 cases d with
 | dat d =>
  cases d with
  | non => cases r; rfl
  | bl b => cases r; rfl
  | int b => cases r; rfl
  | str b => cases r; rfl
  | lst xs => obtain ⟨a, vs, rfl, _⟩ := r; rfl
  | tup xs => obtain ⟨a, vs, rfl, _⟩ := r; rfl
  | ins C ns xs => obtain ⟨a, dx, vs, rfl, _⟩ := r; rfl
  | dct => obtain ⟨a, rfl, _⟩ := r; rfl
  | opq k => cases k with
   | none => obtain ⟨a, rfl⟩ := r; rfl
   | some k => obtain ⟨a, rfl, _⟩ := r; rfl
 | cel n => obtain ⟨a, rfl, _⟩ := r; rfl
 | cels ns => obtain ⟨a, as, rfl, _⟩ := r; rfl
 | scr ns => obtain ⟨a, rfl, _⟩ := r; rfl
 | tc xs => obtain ⟨a, vs, rfl, _⟩ := r; rfl
theorem Co : dO K Fv (FC true) := fun {W σ B φ S H x y d e Q} I r1 r2 f => by
 unfold FC at f;split at f
 ·cases r2
  show Q (.bl (!decide (x = .non))) H
  rw [GT r1];exact Fin.now f I rfl
 ·exact f.elim
def unB : Vl -> aK -> Res Bool
 | .dat (.bl b), S => .ok b S
 | _, _ => .stuck
def mB (a : FE) : FT := fun ρ S => (a ρ S).bind unB
theorem Fm {Q : Bool -> Hp -> Prop} (h : qU K W (mB ma) σ H Q) : bU K W ma σ H fun x H' => (match x with | .bl k => Q k H' | _ => False) :=
 bJ (k := fun x _ S => unB x S) h fun B φ S ρ d v H1 I E r f => by
  unfold unB at f;split at f
  ·cases r; exact Fin.now f I rfl
  ·exact f.elim
theorem aS {op : CmpOp} {r : R2} {f : Vl -> Vl -> aK -> Res Vl} (o : OpR X (compareOp op) r) (s : dO X.K r f) (ha : PE X a (bU X.K W ma)) (hb : PE X b (bU X.K W mb)) (hm : behindInMarks op b = false := by rfl) : PT X (.Compare a [op] [b] pos) (qU X.K W (mB (aZ f ma mb))) :=
 yG (Jj o ha hb hm) fun σ H Q h => tK s (Fm h)
def vT (x : Vl) (S : aK) : Res Bool := match x with
 | .dat .non => .ok false S
 | .dat (.bl b) => .ok b S
 | .dat (.int i) => .ok (i != 0) S
 | .dat (.str y) => if y.length <= sizeLine then .ok ((y.length : Int) != 0) S else .stuck
 | .dat (.tup xs) => .ok (!xs.isEmpty) S
 | x => match lO S x with
  | some xs => .ok (!xs.isEmpty) S
  | none => .stuck
theorem RepL.emp {Bk : Addr -> Prop} {ds : List D} {vs : List V} (h : RepL K Bk H ds vs) : (!ds.isEmpty) = !vs.isEmpty := by
 have := h.len;cases ds <;> cases vs <;> simp at this ⊢
theorem AY {d : Vl} {v : V} {Q : Bool -> Hp -> Prop} (I : GInv K B φ S H) (r : RepV K B φ S H d v) (f : Fin K W σ RB B φ S H (vT d S) Q) : cT K v H Q := by
 unfold vT at f;split at f
 ·cases r; exact Fin.now f I rfl
 ·cases r; exact Fin.now f I rfl
 ·cases r; exact Fin.now f I rfl
 ·cases r
  split at f
  ·rename_i h; exact ⟨_, ⟨h, rfl⟩, Fin.now f I rfl⟩
  ·exact f.elim
 ·obtain ⟨a, vs, rfl, h1, l1⟩ := r
  exact ⟨_, .inr (.inl ⟨vs, h1, l1.emp⟩), Fin.now f I rfl⟩
 ·split at f
  ·rename_i xs q1
   obtain ⟨a, vs, rfl, h1, l1⟩ := jN I q1 r;exact ⟨_, .inl ⟨vs, SqL.of h1, l1.emp⟩, Fin.now f I rfl⟩
  ·exact f.elim
def dH (a : FE) : FT := fun ρ S => (a ρ S).bind vT
theorem dJ (ha : PE X a (bU X.K W ma)) (he : ∀ whole, isTrue a X.env whole = (do let v <- whole; standAt a.pos; holding [v] (truthy v)) := by intro _; rfl) : PT X a (qU X.K W (dH ma)) :=
 yG (t_val ha he) fun σ H Q h => bJ (k := fun x _ S => vT x S) h fun B φ S ρ d v H1 I E r f => AY I r f
def yV (a b : FT) : FT := fun ρ S => (a ρ S).bind fun c S1 => if c = true then b ρ S1 else .ok false S1
def sG (a b : FT) : FT := fun ρ S => (a ρ S).bind fun c S1 => if c = true then .ok true S1 else b ρ S1
def lP (a : FT) : FT := fun ρ S => (a ρ S).bind fun c S1 => .ok (!c) S1
theorem HZ {e : Expr} {t u : TT} (h : PW X e t) (i : ∀ σ H Q, u σ H Q -> t σ H Q) : PW X e u := ⟨fun whole pins s σ H Q I q => h.run whole pins s σ H Q I (i σ H Q q)⟩
theorem Hw {Q : Bool -> Hp -> Prop} (h : qU K W (yV mt mu) σ H Q) : tAnd (qU K W mt) (qU K W mu) σ H Q :=
 bJ (k := fun c ρ S => if c = true then mu ρ S else .ok false S) h fun B φ S ρ d v H1 I E r f => by
  have r : v = d := r;subst r;cases v with
  | true => exact ⟨B, φ, S, ρ, I, E, f⟩
  | false => exact Fin.now f I rfl
theorem KJ {Q : Bool -> Hp -> Prop} (h : qU K W (sG mt mu) σ H Q) : tOr (qU K W mt) (qU K W mu) σ H Q :=
 bJ (k := fun c ρ S => if c = true then .ok true S else mu ρ S) h fun B φ S ρ d v H1 I E r f => by
  have r : v = d := r;subst r;cases v with
  | false => exact ⟨B, φ, S, ρ, I, E, f⟩
  | true => exact Fin.now f I rfl
theorem rK (ha : PT X a (qU X.K W mt)) (hb : PW X (.BoolOp .And (b :: rest) pos) (qU X.K W mu)) : PW X (.BoolOp .And (a :: b :: rest) pos) (qU X.K W (yV mt mu)) := HZ (pw_and ha hb) fun σ H Q h => Hw h
theorem eT (ha : PT X a (qU X.K W mt)) (hb : PW X (.BoolOp .Or (b :: rest) pos) (qU X.K W mu)) : PW X (.BoolOp .Or (a :: b :: rest) pos) (qU X.K W (sG mt mu)) := HZ (pw_or ha hb) fun σ H Q h => KJ h
theorem eI (ha : PT X a (qU X.K W mt)) : PT X (.UnaryOp .Not a pos) (qU X.K W (lP mt)) := yG (pt_not ha) fun σ H Q h =>
 bJ (k := fun c _ S => .ok (!c) S) h fun B φ S ρ d v H1 I E r f => by cases r; exact Fin.now f I rfl
def lJ (a b : FE) : FE := fun ρ S => (a ρ S).bind fun x S1 => match x with
 | .dat (.bl c) => if c = true then b ρ S1 else .ok (.dat (.bl false)) S1
 | _ => .stuck
def mOrV (a b : FE) : FE := fun ρ S => (a ρ S).bind fun x S1 => match x with
 | .dat (.bl c) => if c = true then .ok (.dat (.bl true)) S1 else b ρ S1
 | _ => .stuck
def G6 (a : FE) : FE := fun ρ S => (a ρ S).bind fun x S1 => (vT x S1).bind fun k S2 => .ok (.dat (.bl (!k))) S2
theorem jI (ha : PE X a (bU X.K W ma)) (hb : PE X (.BoolOp .And (b :: rest) pos) (bU X.K W mb)) : PE X (.BoolOp .And (a :: b :: rest) pos) (bU X.K W (lJ ma mb)) := bP (e_and ha hb) fun σ H Q h =>
 bJ (k := fun x ρ S1 => match x with | .dat (.bl c) => if c = true then mb ρ S1 else .ok (.dat (.bl false)) S1 | _ => .stuck) h fun B φ S ρ d v H1 I E r f => by
  split at f
  ·rename_i c
   cases r;cases c with
   | true => exact ⟨B, φ, S, ρ, I, E, f⟩
   | false => exact Fin.now f I rfl
  ·exact f.elim
def Ki (a b : FE) : FE := fun ρ S => (a ρ S).bind fun x S1 => (vT x S1).bind fun k S2 => if k = true then .ok x S2 else b ρ S2
theorem BY {x : Vl} {k : Bool} {S' : aK} (h : vT x S = .ok k S') : S' = S := by
 unfold vT at h;split at h
 ·cases h; rfl
 ·cases h; rfl
 ·cases h; rfl
 ·split at h <;> cases h; rfl
 ·cases h; rfl
 ·split at h <;> cases h; rfl
theorem tru_V {d : Vl} {v : V} {k : Bool} (I : GInv K B φ S H) (r : RepV K B φ S H d v) (h : vT d S = .ok k S) : TruV K v H k := by
 obtain ⟨k', h1, h2⟩ := HQ v H (fun b _ => b = k) (AY (W := BV) (σ := []) I r (by
  rw [h];exact fun φ' v' H' _ _ r => r))
 rw [<- h2]; exact h1
theorem Lz (ha : PE X a (bU X.K W ma)) (hb : PE X (.BoolOp .Or (b :: rest) pos) (bU X.K W mb)) : PE X (.BoolOp .Or (a :: b :: rest) pos) (bU X.K W (Ki ma mb)) := bP (pe_orT ha hb) fun σ H Q h =>
 bJ (k := fun x ρ S1 => (vT x S1).bind fun k S2 => if k = true then .ok x S2 else mb ρ S2) h fun B φ S ρ d v H1 I E r f => by
  cases q : vT d S with
  | stuck => rw [q] at f; exact f.elim
  | err e S' =>
   exfalso
   unfold vT at q;split at q <;> first | cases q | (split at q <;> cases q)
  | ok k S' =>
   have e := BY q;subst e;rw [q] at f;refine ⟨k, tru_V I r q, ?_⟩
   cases k with
   | true => exact Fin.now f I r
   | false => exact ⟨B, φ, S', ρ, I, E, f⟩
theorem M0 (ha : PE X a (bU X.K W ma)) : PE X (.UnaryOp .Not a pos) (bU X.K W (G6 ma)) := bP (e_not ha) fun σ H Q h =>
 bJ (k := fun x _ S1 => (vT x S1).bind fun k S2 => Res.ok (Vl.dat (D.bl (!k))) S2) h fun B φ S ρ d v H1 I E r f => by
  cases q : vT d S with
  | stuck => rw [q] at f; exact f.elim
  | err e S' =>
   exfalso
   unfold vT at q;split at q <;> first | cases q | (split at q <;> cases q)
  | ok k S' =>
   have e := BY q;subst e;rw [q] at f;refine AY (W := W) (σ := σ) I r ?_
   rw [q];intro φ' v' H' I' X' r';cases r';exact Fin.now (Fin.ext f X') I' rfl
def oA (f g : Vl -> Vl -> aK -> Res Vl) (a b c : FE) : FE := fun ρ S => (a ρ S).bind fun x S1 => (b ρ S1).bind fun y S2 => (f x y S2).bind fun z S3 => match z with
 | .dat (.bl k) => if k = true then (c ρ S3).bind fun w S4 => g y w S4 else .ok (.dat (.bl false)) S3
 | _ => .stuck
theorem zE {r r' : R2} {f g : Vl -> Vl -> aK -> Res Vl} (s : dO K r f) (s' : dO K r' g) (h : bU K W (oA f g ma mb mc) σ H Q) : BE r r' (bU K W ma) (bU K W mb) (bU K W mc) σ H Q := by
 refine bJ (k := fun x ρ S1 => (mb ρ S1).bind fun y S2 => (f x y S2).bind fun z S3 => match z with | .dat (.bl k) => if k = true then (mc ρ S3).bind fun w S4 => g y w S4 else .ok (.dat (.bl false)) S3 | _ => .stuck) h fun B φ S ρ d v H1 I E r1 f' => gP I E f' fun φ' S' e w H2 I2 X2 E2 r2 f2 => ?_
 have r1' := r1.ext X2 I;refine s (W := W) (σ := σ) I2 r1' r2 ?_
 cases q : f d e S' with
 | stuck => rw [q] at f2; exact f2
 | err x S3 => rw [q] at f2; exact f2
 | ok z S3 =>
  rw [q] at f2;intro φ3 v3 H3 I3 X3 r3;have f3 := Fin.ext f2 X3;dsimp only [Res.bind] at f3;split at f3
  ·rename_i k
   cases r3;cases k with
   | false => exact Fin.now f3 I3 rfl
   | true => exact gP I3 (E2.ext X3 I2) f3 fun φ4 S4 d4 v4 H4 I4 X4 E4 r4 f4 => s' I4 ((r2.ext X3 I2).ext X4 I3) r4 f4
  ·exact f3.elim
theorem EF {op op' : CmpOp} {r r' : R2} {f g : Vl -> Vl -> aK -> Res Vl} (ho : OpR X (compareOp op) r) (s : dO X.K r f) (ho' : OpR X (compareOp op') r') (s' : dO X.K r' g) (ha : PE X a (bU X.K W ma)) (hb : PE X b (bU X.K W mb)) (hc : PE X c (bU X.K W mc))
  (hm : lastMarks [op, op'] [b, c] = false := by with_unfolding_all rfl) : PE X (.Compare a [op, op'] [b, c] pos) (bU X.K W (oA f g ma mb mc)) := bP (JX ho ho' ha hb hc hm) fun σ H Q h => zE s s' h
theorem xK {op op' : CmpOp} {r r' : R2} {f g : Vl -> Vl -> aK -> Res Vl} (ho : OpR X (compareOp op) r) (s : dO X.K r f) (ho' : OpR X (compareOp op') r') (s' : dO X.K r' g) (ha : PE X a (bU X.K W ma)) (hb : PE X b (bU X.K W mb)) (hc : PE X c (bU X.K W mc))
  (hm : lastMarks [op, op'] [b, c] = false := by with_unfolding_all rfl) : PT X (.Compare a [op, op'] [b, c] pos) (qU X.K W (mB (oA f g ma mb mc))) := yG (Hn ho ho' ha hb hc hm) fun σ H Q h => zE s s' (Fm h)
def mIf (t : FT) (a b : FE) : FE := fun ρ S => (t ρ S).bind fun c S1 => if c = true then a ρ S1 else b ρ S1
def aL : FA := fun _ S => .ok [] S
def aC (a : FE) (r : FA) : FA := fun ρ S => (a ρ S).bind fun x S1 => (r ρ S1).bind fun xs S2 => .ok (x :: xs) S2
theorem Hb {t u : TA} (h : PA X es t) (i : ∀ σ H Q, u σ H Q -> t σ H Q) : PA X es u := ⟨fun pos pins s σ H Q I q => h.run pos pins s σ H Q I (i σ H Q q)⟩
theorem aG : PA X [] (Fc X.K W aL) := Hb pa_nil fun σ H Q h => by
 obtain ⟨B, φ, S, ρ, I, E, f⟩ := h;exact Fin.now (v := []) f I rfl
theorem aA (ha : PE X a (bU X.K W ma)) (hr : PA X es (Fc X.K W mas)) (hs : starEach (a :: es) X.env = (false, eval a X.env) :: starEach es X.env := by rfl) : PA X (a :: es) (Fc X.K W (aC ma mas)) := Hb (pa_cons ha hr hs) fun σ H Q h =>
 bJ (k := fun x ρ S1 => (mas ρ S1).bind fun xs S2 => .ok (x :: xs) S2) h fun B φ S ρ d v H1 I E r f => gP I E f fun φ' S' ds vs H2 I2 X2 E2 r2 f2 => Fin.now f2 I2 ⟨v, vs, rfl, r.ext X2 I, r2⟩
def cS (cl : Bool) (r : FA) : FE := fun ρ S => (r ρ S).bind fun xs S1 => match oX xs with
 | some ds => if ds.length <= sizeLine then newL cl ds S1 else .stuck
 | none => .stuck
def cZ (r : FA) : FE := fun ρ S => (r ρ S).bind fun xs S1 => match oX xs with
 | some ds => if ds.length <= sizeLine then .ok (.dat (.tup ds)) S1 else .stuck
 | none => .stuck
theorem bX {cl : Bool} (h : PA X es (Fc X.K W mas)) : PE X (.List es pos) (bU X.K W (cS cl mas)) := bP (pe_lst h) fun σ H Q h =>
 bJ (k := fun xs ρ S1 => match oX xs with | some ds => if ds.length <= sizeLine then newL cl ds S1 else .stuck | none => .stuck) h fun B φ S ρ d v H1 I E r f => by
  split at f
  ·rename_i ds q
   have l := tE q r;split at f
   ·rename_i hl
    exact ⟨by rw [l.len]; exact hl, fun p hp => Fin.newL f I l hp⟩
   ·exact f.elim
  ·exact f.elim
theorem bZ (h : PA X es (Fc X.K W mas)) : PE X (.Tuple es x1 pos) (bU X.K W (cZ mas)) := bP (pe_tup h) fun σ H Q h =>
 bJ (k := fun xs ρ S1 => match oX xs with | some ds => if ds.length <= sizeLine then Res.ok (Vl.dat (D.tup ds)) S1 else .stuck | none => .stuck) h fun B φ S ρ d v H1 I E r f => by
  split at f
  ·rename_i ds q
   have l := tE q r;split at f
   ·rename_i hl
    exact ⟨by rw [l.len]; exact hl, fun p hp => Fin.newT f I l hp⟩
   ·exact f.elim
  ·exact f.elim
end
section
variable {X : Cx} {W : WX} {e a b c : Expr} {es rest : List Expr} {pos p q p2 : Pos} {x y z : Str} {K : aB} {ma mb mc : FE} {mt mu : FT} {mas : FA} {B : Addr -> Prop} {φ : List Addr} {S : aK} {H : Hp} {σ : L2.St} {Q : VK}
theorem pC {r : V -> Hp -> VK -> Prop} {f : Vl -> aK -> Res Vl} (s : yE K r f) (h : bU K W (m1 f ma) σ H Q) : tCB (c1 r) (tCons (bU K W ma) tNil) σ H Q := Fn s h
def kD (x : Vl) (S : aK) : Res Vl := match x with
 | .dat (.tup xs) => .ok (.dat (.int xs.length)) S
 | .dat (.str z) => if z.length <= sizeLine then .ok (.dat (.int z.length)) S else .stuck
 | .cels ns => .ok (.dat (.int ns.length)) S
 | x => match lO S x with
  | some xs => .ok (.dat (.int xs.length)) S
  | none => .stuck
theorem s_len : yE K (MD K) kD := fun {W σ B φ S H x d Q} I r f => by
 unfold kD at f;split at f
 ·obtain ⟨a, vs, rfl, h1, l1⟩ := r
  refine ⟨vs, .inr h1, ?_⟩
  rw [l1.len];exact Fin.now f I rfl
 ·cases r
  split at f
  ·rename_i h; exact ⟨h, Fin.now f I rfl⟩
  ·exact f.elim
 ·rename_i ns
  obtain ⟨a, as, rfl, h1, h2, h3⟩ := r;refine ⟨as.map V.ref, .inl (SqL.of h2), ?_⟩
  have e : as.length = ns.length := by
   have := congrArg iX h3
   simpa using this.symm
  rw [aQ, e];exact Fin.now f I rfl
 ·split at f
  ·rename_i xs q1
   obtain ⟨a, vs, rfl, h1, l1⟩ := jN I q1 r;refine ⟨vs, .inl (SqL.of h1), ?_⟩
   rw [l1.len];exact Fin.now f I rfl
  ·exact f.elim
theorem jC (hm : X.mg "len" = none) (ha : PE X a (bU X.K W ma)) (hg : Gl X "len" := by rfl) (hs : starEach [a] X.env = [(false, eval a X.env)] := by rfl) : PE X (.Call (.Name "len" p) [a] [] pos) (bU X.K W (m1 kD ma)) := bP (K4 hm ha hg hs) fun σ H Q h => pC s_len h
def xR (x : Vl) (S : aK) : Res Vl := match x with
 | .dat (.int i) => .ok (.dat (.int i)) S
 | .dat (.bl k) => .ok (.dat (.int (if k then 1 else 0))) S
 | _ => .stuck
theorem s_int : yE K cInt xR := fun {W σ B φ S H x d Q} I r f => by
 unfold xR at f;split at f
 ·cases r; exact Fin.now f I rfl
 ·cases r; exact Fin.now f I rfl
 ·exact f.elim
theorem tZ (hm : X.mg "int" = none) (ha : PE X a (bU X.K W ma)) (hg : Gl X "int" := by rfl) (hs : starEach [a] X.env = [(false, eval a X.env)] := by rfl) : PE X (.Call (.Name "int" p) [a] [] pos) (bU X.K W (m1 xR ma)) := bP (e_int hm ha hg hs) fun σ H Q h => pC s_int h
def tF : List D -> Option (List Bool)
 | [] => some []
 | .bl b :: r => match tF r with
  | some bs => some (b :: bs)
  | none => none
 | _ :: _ => none
theorem CY {Bk : Addr -> Prop} : ∀ {ds : List D} {bs : List Bool} {vs : List V}, tF ds = some bs -> RepL K Bk H ds vs -> vs = bs.map V.bl
 | [], bs, vs, h, r => by cases h; exact r
 | d :: ds, bs, vs, h, ⟨v, ws, e, h1, h2⟩ => by
  subst e;cases d with
  | bl b =>
   unfold tF at h;cases q : tF ds with
   | none => rw [q] at h; cases h
   | some es => rw [q] at h; cases h; cases h1; rw [CY q h2]; rfl
  | _ => cases h
def MJ : List D -> Option (List Int)
 | [] => some []
 | .int b :: r => match MJ r with
  | some bs => some (b :: bs)
  | none => none
 | _ :: _ => none
def uY (x : Vl) (S : aK) : Res Vl := match lO S x with
 | some xs => (match tF xs with
  | some bs => .ok (.dat (.bl (bs.all id))) S
  | none => .stuck)
 | none => .stuck
theorem s_all : yE K (cAll K) uY := fun {W σ B φ S H x d Q} I r f => by
 unfold uY at f;split at f
 ·rename_i xs q1
  obtain ⟨a, vs, rfl, h1, l1⟩ := jN I q1 r;split at f
  ·rename_i bs q2
   rw [CY q2 l1] at h1;exact ⟨bs, SqL.of h1, Fin.now f I rfl⟩
  ·exact f.elim
 ·exact f.elim
theorem K2 (hm : X.mg "all" = none) (ha : PE X a (bU X.K W ma)) (hc : X.calm = true := by rfl) (hg : Gl X "all" := by rfl) (hs : starEach [a] X.env = [(false, eval a X.env)] := by rfl) : PE X (.Call (.Name "all" p) [a] [] pos) (bU X.K W (m1 uY ma)) := bP (e_all hm ha hc hg hs) fun σ H Q h => pC s_all h
def A8 (cl : Bool) (x : Vl) (S : aK) : Res Vl := match x with
 | .dat (.tup xs) => newL cl xs S
 | x => match lO S x with
  | some xs => newL cl xs S
  | none => .stuck
theorem KP {cl : Bool} : yE K (HR K) (A8 cl) := fun {W σ B φ S H x d Q} I r f => by
 unfold A8 at f;split at f
 ·obtain ⟨a, vs, rfl, h1, l1⟩ := r
  exact ⟨vs, .inr h1, fun l hl => Fin.newL f I l1 hl⟩
 ·split at f
  ·rename_i xs q1
   obtain ⟨a, vs, rfl, h1, l1⟩ := jN I q1 r;exact ⟨vs, .inl (SqL.of h1), fun l hl => Fin.newL f I l1 hl⟩
  ·exact f.elim
theorem M4 {cl : Bool} (hm : X.mg "list" = none) (ha : PE X a (bU X.K W ma)) (hg : Gl X "list" := by rfl) (hs : starEach [a] X.env = [(false, eval a X.env)] := by rfl) : PE X (.Call (.Name "list" p) [a] [] pos) (bU X.K W (m1 (A8 cl) ma)) := bP (HL hm ha hg hs) fun σ H Q h => pC KP h
def fTuple (x : Vl) (S : aK) : Res Vl := match lO S x with
 | some xs => .ok (.dat (.tup xs)) S
 | none => .stuck
theorem I6 : yE K (DR K) fTuple := fun {W σ B φ S H x d Q} I r f => by
 unfold fTuple at f;split at f
 ·rename_i xs q1
  obtain ⟨a, vs, rfl, h1, l1⟩ := jN I q1 r;exact ⟨vs, SqL.of h1, fun l hl => Fin.newT f I l1 hl⟩
 ·exact f.elim
theorem JS (hm : X.mg "tuple" = none) (ha : PE X a (bU X.K W ma)) (hg : Gl X "tuple" := by rfl) (hs : starEach [a] X.env = [(false, eval a X.env)] := by rfl) : PE X (.Call (.Name "tuple" p) [a] [] pos) (bU X.K W (m1 fTuple ma)) := bP (EI hm ha hg hs) fun σ H Q h => pC I6 h
def fAbs (x : Vl) (S : aK) : Res Vl := match x with
 | .dat (.int i) => .ok (.dat (.int (if i < 0 then -i else i))) S
 | _ => .stuck
theorem Bx {a : Addr} {xs : List V} (h : SqT K H a xs) : yI K H a "tuple" := by
 refine ⟨by decide, ?_⟩
 rcases h with (h | ⟨o, h⟩) | ⟨o, its, n, h, hc, _⟩
 ·exact .base (.tup h)
 ·exact .fTuple h
 ·exact .kTuple h hc
theorem pP {a : Addr} {xs : List V} (h : SqL K H a xs) : yI K H a "list" := by
 refine ⟨by decide, ?_⟩
 rcases h with (h | ⟨o, h⟩) | ⟨o, its, n, h, hc, _⟩
 ·exact .base (.lst h)
 ·exact .base (.frz h)
 ·exact .kList h hc
def kindOf (S : aK) : Vl -> Option String
 | .dat .non => some "NoneType"
 | .dat (.bl _) => some "bool"
 | .dat (.int _) => some "int"
 | .dat (.str _) => some "str"
 | .dat (.lst _) => some "list"
 | .dat (.tup _) => some "tuple"
 | .dat .dct => some "dict"
 | .dat (.opq _) => none
 | .dat (.ins _ _ _) => none
 | .cels _ => some "list"
 | .scr _ => some "list"
 | .tc _ => some "tuple"
 | .cel n => match S[n]? with
  | some (.lst _) => some "list"
  | some (.dct _) => some "dict"
  | some (.lv _) => some "list"
  | _ => none
def fIsi (T : String) (x : Vl) (S : aK) : Res Vl := match kindOf S x with
 | some n => .ok (.dat (.bl (isTy T n))) S
 | none => .stuck
theorem tU {d : Vl} {v : V} {n : String} (I : GInv K B φ S H) (r : RepV K B φ S H d v) (h : kindOf S d = some n) : (v = .non /\ n = "NoneType") \/ (∃ b, v = .bl b /\ n = "bool") \/ (∃ b, v = .int b /\ n = "int") \/ (∃ b, v = .str b /\ n = "str") \/ ∃ a, v = .ref a /\ yI K H a n := by
 cases d with
 | dat d =>
  cases d with
  | non => cases h; cases r; exact .inl ⟨rfl, rfl⟩
  | bl b => cases h; cases r; exact .inr (.inl ⟨b, rfl, rfl⟩)
  | int b => cases h; cases r; exact .inr (.inr (.inl ⟨b, rfl, rfl⟩))
  | str b => cases h; cases r; exact .inr (.inr (.inr (.inl ⟨b, rfl, rfl⟩)))
  | lst xs => cases h; obtain ⟨a, vs, rfl, _, h1, _⟩ := r; exact .inr (.inr (.inr (.inr ⟨a, rfl, pP (SqL.of h1)⟩)))
  | tup xs => cases h; obtain ⟨a, vs, rfl, h1, _⟩ := r; exact .inr (.inr (.inr (.inr ⟨a, rfl, Bx h1⟩)))
  | ins C ns xs => cases h
  | opq _ => cases h
  | dct => cases h; obtain ⟨a, rfl, _, h1⟩ := r; exact .inr (.inr (.inr (.inr ⟨a, rfl, by decide, .base (.dK h1)⟩)))
 | cels ns => cases h; obtain ⟨a, as, rfl, _, h1, _⟩ := r; exact .inr (.inr (.inr (.inr ⟨a, rfl, pP (SqL.of h1)⟩)))
 | scr ns => cases h; obtain ⟨a, rfl, h1⟩ := r; exact .inr (.inr (.inr (.inr ⟨a, rfl, pP h1.sq⟩)))
 | tc xs => cases h; obtain ⟨a, vs, rfl, h1, _⟩ := r; exact .inr (.inr (.inr (.inr ⟨a, rfl, Bx h1⟩)))
 | cel n =>
  obtain ⟨a, rfl, h1⟩ := r;have h : (match S[n]? with | some (.lst _) => some "list" | some (.dct _) => some "dict" | some (.lv _) => some "list" | _ => none) = some _ := h
  split at h
  ·rename_i q
   cases h;obtain ⟨vs, h2, _⟩ := I.ok n _ a q h1;exact .inr (.inr (.inr (.inr ⟨a, rfl, pP (SqL.of h2)⟩)))
  ·rename_i q
   cases h;obtain ⟨vs, h2, _⟩ := I.ok n _ a q h1;exact .inr (.inr (.inr (.inr ⟨a, rfl, by decide, .base (.dK h2)⟩)))
  ·rename_i q
   cases h;obtain ⟨vs, h2, _⟩ := I.ok n _ a q h1;exact .inr (.inr (.inr (.inr ⟨a, rfl, pP (SqL.of h2)⟩)))
  ·cases h
theorem s_isi {T : String} (hT : T ∈ targets) : yE K (HU K T) (fIsi T) := fun {W σ B φ S H x d Q} I r f => by
 unfold fIsi at f;have h6 : T = "int" \/ T = "bool" \/ T = "str" \/ T = "list" \/ T = "tuple" \/ T = "dict" := by simpa [targets] using hT
 split at f
 ·rename_i n h
  have q : ∀ b, b = isTy T n -> Q (.bl b) H := fun b e => by rw [e]; exact Fin.now f I rfl
  rcases tU I r h with ⟨rfl, rfl⟩ | ⟨b, rfl, rfl⟩ | ⟨b, rfl, rfl⟩ | ⟨b, rfl, rfl⟩ | ⟨a, rfl, hk⟩
  ·exact q false (by rcases h6 with e | e | e | e | e | e <;> subst e <;> decide)
  ·exact q _ (by rcases h6 with e | e | e | e | e | e <;> subst e <;> decide)
  ·exact q _ (by rcases h6 with e | e | e | e | e | e <;> subst e <;> decide)
  ·exact q _ (by rcases h6 with e | e | e | e | e | e <;> subst e <;> decide)
  ·have h3 : n = "list" \/ n = "tuple" \/ n = "dict" := by simpa using hk.1
   exact ⟨n, hk, q _ (by rcases h6 with e | e | e | e | e | e <;> rcases h3 with e' | e' | e' <;> subst e <;> subst e' <;> decide)⟩
 ·exact f.elim
theorem eJ {T : String} (hm : X.mg "isinstance" = none) (hmT : X.mg y = none) (ha : PE X a (bU X.K W ma)) (hT : T ∈ targets := by decide) (hv : bootBuiltins y = some (.type T) := by decide +kernel)
  (hg : Gl X "isinstance" := by rfl) (hgT : Gl X y := by rfl) (hn : y ≠ "__name__" := by decide) (hd : (y == ("__debug__" : Str)) = false := by decide) (hs : starEach [a, .Name y q] X.env = (false, eval a X.env) :: starEach [.Name y q] X.env := by rfl) :
  PE X (.Call (.Name "isinstance" p) [a, .Name y q] [] pos) (bU X.K W (m1 (fIsi T) ma)) := bP (e_isi hm hmT ha hT hv hg hgT hn hd hs) fun σ H Q h => Fn (s_isi hT) h
def fIsi2 (T U : String) (x : Vl) (S : aK) : Res Vl := match kindOf S x with
 | some n => .ok (.dat (.bl (isTy T n || isTy U n))) S
 | none => .stuck
theorem KS {T U : String} (hT : T ∈ targets) (hU : U ∈ targets) {x : V} {d : Vl} (I : GInv K B φ S H) (r : RepV K B φ S H d x) (f : Fin K W σ (RepV K) B φ S H (fIsi2 T U d S) Q) {tp : Addr} {H' : Hp} (ntp : H tp = none) (hH : H' = upd H tp (.tup [.ty T, .ty U])) : K7 K T U x H' fun b => Q (.bl b) H' := by
 unfold fIsi2 at f;split at f
 ·rename_i n h
  have X1 := Ext.new (o := .tup [.ty T, .ty U]) I ntp;have I1 := I.new (o := .tup [.ty T, .ty U]) ntp;have hq : Q (.bl (isTy T n || isTy U n)) H' := by subst hH; exact f φ _ _ I1 X1 rfl
  have r' : RepV K B φ S H' d x := by subst hH; exact r.ext X1 I
  rcases tU I r h with ⟨rfl, rfl⟩ | ⟨b, rfl, rfl⟩ | ⟨b, rfl, rfl⟩ | ⟨b, rfl, rfl⟩ | ⟨a, rfl, hk⟩
  ·have : ∀ T ∈ targets, isTy T "NoneType" = false := by decide
   rw [this T hT, this U hU] at hq;exact hq
  ·exact hq
  ·exact hq
  ·exact hq
  ·have I1' : GInv K B φ S H' := by subst hH; exact I1
   rcases tU I1' r' h with ⟨z, _⟩ | ⟨b, z, _⟩ | ⟨b, z, _⟩ | ⟨b, z, _⟩ | ⟨a', z, hk'⟩ <;> cases z
   exact ⟨n, hk', hq⟩
 ·exact f.elim
theorem HH {q1 q2 tpos : Pos} {j : Nat} {T U : String} (hm : X.mg "isinstance" = none) (hmT : X.mg y = none) (hmU : X.mg z = none) (ha : PE X a (bU X.K W ma)) (hT : T ∈ targets := by decide) (hU : U ∈ targets := by decide)
  (hv : bootBuiltins y = some (.type T) := by decide +kernel) (hw : bootBuiltins z = some (.type U) := by decide +kernel) (hg : Gl X "isinstance" := by rfl) (hgT : Gl X y := by rfl) (hgU : Gl X z := by rfl) (hn : y ≠ "__name__" := by decide) (hd : (y == ("__debug__" : Str)) = false := by decide) (hn2 : z ≠ "__name__" := by decide) (hd2 : (z == ("__debug__" : Str)) = false := by decide)
  (hs : starEach [a, .Tuple [.Name y q1, .Name z q2] j tpos] X.env = (false, eval a X.env) :: starEach [.Tuple [.Name y q1, .Name z q2] j tpos] X.env := by rfl) :
  PE X (.Call (.Name "isinstance" p) [a, .Tuple [.Name y q1, .Name z q2] j tpos] [] pos) (bU X.K W (m1 (fIsi2 T U) ma)) :=
 bP (M9 hm hmT hmU ha hT hU hv hw hg hgT hgU hn hd hn2 hd2 hs) fun σ H Q h => bJ (k := fun x _ S => fIsi2 T U x S) h fun B φ S ρ d v H1 I E r f => by
  show _ /\ _
  exact ⟨(by show 2 <= sizeLine; decide), fun tp htp => ⟨upd_same, KS hT hU I r f htp rfl⟩⟩
def cutD (xs : List D) (lo hi : Option Int) : List D := (xs.drop (HT.sIx xs.length 0 lo)).take (HT.sIx xs.length xs.length hi - HT.sIx xs.length 0 lo)
theorem RepL.cut {Bk : Addr -> Prop} {ds : List D} {vs : List V} {lo hi : Option Int} (h : RepL K Bk H ds vs) : RepL K Bk H (cutD ds lo hi) (cutV vs lo hi) := by
 unfold cutD cutV;rw [h.len];exact (h.drop _).take _
def K3 (cl : Bool) (x : Vl) (lo hi : Option Int) (S : aK) : Res Vl := match x with
 | .dat (.tup xs) => .ok (.dat (.tup (cutD xs lo hi))) S
 | .dat (.str z) => if z.length <= sizeLine then .ok (.dat (.str (cutS z lo hi))) S else .stuck
 | .scr ns => newL cl (cutD (ns.map D.int) lo hi) S
 | x => match lO S x with
  | some xs => newL cl (cutD xs lo hi) S
  | none => .stuck
def yT : FO := fun _ S => .ok none S
def qV (a : FE) : FO := fun ρ S => (a ρ S).bind fun x S1 => match x with
 | .dat (.int i) => .ok (some i) S1
 | _ => .stuck
theorem Ha {e : Option Expr} {t u : TO} (h : PO X e t) (i : ∀ σ H Q, u σ H Q -> t σ H Q) : PO X e u := ⟨fun pins s σ H Q I q => h.run pins s σ H Q I (i σ H Q q)⟩
theorem lY : PO X none (rdO X.K W yT) := Ha po_none fun σ H Q h => by
 obtain ⟨B, φ, S, ρ, I, E, f⟩ := h;exact Fin.now (v := none) f I rfl
theorem lX (ha : PE X a (bU X.K W ma)) : PO X (some a) (rdO X.K W (qV ma)) := Ha (Fy ha) fun σ H Q h =>
 bJ (k := fun x _ S1 => match x with | .dat (.int i) => .ok (some i) S1 | _ => .stuck) h fun B φ S ρ d v H1 I E r f => by
  split at f
  ·cases r; exact Fin.now f I rfl
  ·exact f.elim
theorem zK {Bk : Addr -> Prop} : ∀ ns : List Int, RepL K Bk H (ns.map D.int) (ns.map V.int)
 | [] => rfl
 | n :: ns => ⟨_, _, rfl, rfl, zK ns⟩
theorem AN {xs : List D} {lo hi : Option Int} (h : HT.sIx xs.length 0 lo = 0 /\ HT.sIx xs.length xs.length hi = xs.length) : cutD xs lo hi = xs := by
 unfold cutD;rw [h.1, h.2];simp
def IR (cl : Bool) (a : FE) (l h : FO) : FE := fun ρ S => (a ρ S).bind fun x S1 => (l ρ S1).bind fun lo S2 => (h ρ S2).bind fun hi S3 => K3 cl x lo hi S3
theorem DJ {cl : Bool} {lo hi : Option Expr} {ml mh : FO} (ha : PE X a (bU X.K W ma)) (hl : PO X lo (rdO X.K W ml)) (hh : PO X hi (rdO X.K W mh)) : PE X (.Subscript a (.Slice lo hi none p2) pos) (bU X.K W (IR cl ma ml mh)) := bP (pe_slice sl_C ha hl hh) fun σ H Q h =>
 bJ (k := fun x ρ S1 => (ml ρ S1).bind fun lo S2 => (mh ρ S2).bind fun hi S3 => K3 cl x lo hi S3) h fun B φ S ρ d v H1 I E r f => gP I E f fun φ1 S1 d1 v1 H2 I1 X1 E1 r1 f1 => gP I1 E1 f1 fun φ2 S2 d2 v2 H3 I2 X2 E2 r2 f2 => by
  cases r1;cases r2
  replace r := (r.ext X1 I).ext X2 I1
  unfold K3 at f2;split at f2
  ·rename_i xs
   obtain ⟨a, vs, rfl, h1, l1⟩ := r;refine nJ ⟨vs, h1, fun hw => ?_, fun hw p hp => Fin.newT f2 I2 l1.cut hp⟩
   rw [l1.len] at hw;have e := AN (xs := xs) hw;rw [e] at f2;exact Fin.now f2 I2 ⟨a, vs, rfl, h1, l1⟩
  ·cases r
   split at f2
   ·rename_i hz; exact ⟨hz, Fin.now f2 I2 rfl⟩
   ·exact f2.elim
  ·obtain ⟨a, rfl, h1⟩ := r
   exact qT ⟨_, h1.sq, fun p hp => Fin.newL f2 I2 (zK _).cut hp⟩
  ·split at f2
   ·rename_i xs q1
    obtain ⟨a, vs, rfl, h1, l1⟩ := jN I2 q1 r;exact qT ⟨vs, SqL.of h1, fun p hp => Fin.newL f2 I2 l1.cut hp⟩
   ·exact f2.elim
def Kj (a : FE) : FE := fun ρ S => (a ρ S).bind fun x S1 => match x with
 | .cel n => (match S1[n]? with
  | some (.lst ds) => .ok (.dat (.lst ds)) (S1.set n .dead)
  | _ => .stuck)
 | _ => .stuck
theorem f_frz (ha : PE X a (bU X.K W ma)) : PE X a (bU X.K W (Kj ma)) := bP ha fun σ H Q h =>
 bJ (k := fun x _ S1 => match x with | .cel n => (match S1[n]? with | some (Cell.lst ds) => Res.ok (Vl.dat (D.lst ds)) (S1.set n Cell.dead) | _ => Res.stuck) | _ => Res.stuck) h fun B φ S ρ d v H1 I E r f => by
  split at f
  ·rename_i n
   obtain ⟨a, rfl, h1⟩ := r;split at f
   ·rename_i ds q
    obtain ⟨vs, h2, l⟩ := I.ok n _ a q h1;have X1 := Ext.kill (φ := φ) (S := S) (H := H1) (n := n);exact f φ _ H1 I.kill X1 ⟨a, vs, rfl, I.killed q (by simp) h1, h2, X1.repL I l⟩
   ·exact f.elim
  ·exact f.elim
end
inductive Out where
 | next (ρ : Ev) (S : aK) | ret (d : Vl) (S : aK) | brk (ρ : Ev) (S : aK) | cnt (ρ : Ev) (S : aK) | err (e : Er) (ρ : Ev) (S : aK) | stuck
abbrev FS := Ev -> aK -> Out
def Res.toS {α : Type} (r : Res α) (ρ : Ev) (k : α -> aK -> Out) : Out := match r with
 | .ok a S => k a S
 | .err e S => .err e ρ S
 | .stuck => .stuck
def FinS (K : aB) (W : WX) (D : Ends) (B : Addr -> Prop) (φ : List Addr) (S : aK) (H : Hp) (o : Out) : Prop := match o with
 | .next ρ' S' => ∀ φ' σ' H', GInv K B φ' S' H' -> Ext φ S H φ' S' H' -> RepE K B φ' S' H' ρ' σ' -> D.nx σ' H'
 | .ret d S' => ∀ φ' v H', GInv K B φ' S' H' -> Ext φ S H φ' S' H' -> RepV K B φ' S' H' d v -> D.rt v H'
 | .brk ρ' S' => ∀ φ' σ' H', GInv K B φ' S' H' -> Ext φ S H φ' S' H' -> RepE K B φ' S' H' ρ' σ' -> D.bk σ' H'
 | .cnt ρ' S' => ∀ φ' σ' H', GInv K B φ' S' H' -> Ext φ S H φ' S' H' -> RepE K B φ' S' H' ρ' σ' -> D.ct σ' H'
 | .err e ρ' S' => ∀ φ' σ' c x H', GInv K B φ' S' H' -> Ext φ S H φ' S' H' -> RepE K B φ' S' H' ρ' σ' -> RepX K B φ' S' H' e c x -> W c x σ' H'
 | .stuck => False
def lC (K : aB) (W : WX) (m : FS) : TS := fun D σ H => ∃ B φ S ρ, GInv K B φ S H /\ RepE K B φ S H ρ σ /\ FinS K W D B φ S H (m ρ S)
section
variable {X : Cx} {W : WX} {e a b c : Expr} {es rest : List Expr} {pos p q p2 : Pos} {x y z : Str} {K : aB} {ma mb mc : FE} {mt mu : FT} {mas : FA} {B : Addr -> Prop} {φ φ' : List Addr} {S S' : aK} {H H' : Hp} {σ : L2.St} {Q : VK} {m n : FS} {st : Stmt} {yK : List Stmt} {D : Ends}
theorem iT {t u : TS} (h : PS X st t) (i : ∀ D σ H, u D σ H -> t D σ H) : PS X st u := ⟨fun pins s σ H D I q => h.run pins s σ H D I (i D σ H q)⟩
theorem BH {t u : TS} (h : PSs X yK t) (i : ∀ D σ H, u D σ H -> t D σ H) : PSs X yK u := ⟨fun pins s σ H D I q => h.run pins s σ H D I (i D σ H q)⟩
theorem FinS.ext {o : Out} (f : FinS K W D B φ S H o) (e : Ext φ S H φ' S' H') : FinS K W D B φ' S' H' o := by
 cases o with
 | next ρ S1 => exact fun φ1 v H1 I1 X r => f φ1 v H1 I1 (e.trans X) r
 | ret d S1 => exact fun φ1 v H1 I1 X r => f φ1 v H1 I1 (e.trans X) r
 | brk ρ S1 => exact fun φ1 v H1 I1 X r => f φ1 v H1 I1 (e.trans X) r
 | cnt ρ S1 => exact fun φ1 v H1 I1 X r => f φ1 v H1 I1 (e.trans X) r
 | err x ρ S1 => exact fun φ1 σ1 c x H1 I1 X r => f φ1 σ1 c x H1 I1 (e.trans X) r
 | stuck => exact f
theorem cJ {α β : Type} {R : Rl α β} {ρ : Ev} {m : Ev -> aK -> Res α} {k : α -> aK -> Out} {Q1 : β -> Hp -> Prop} (I : GInv K B φ S H) (E : RepE K B φ S H ρ σ) (f : FinS K W D B φ S H ((m ρ S).toS ρ k))
  (hk : ∀ φ' S' d v H1, GInv K B φ' S' H1 -> Ext φ S H φ' S' H1 -> RepE K B φ' S' H1 ρ σ -> R B φ' S' H1 d v -> FinS K W D B φ' S' H1 (k d S') -> Q1 v H1) : rd K W R m σ H Q1 := by
 refine ⟨B, φ, S, ρ, I, E, ?_⟩
 cases e : m ρ S with
 | stuck => rw [e] at f; exact f
 | err x S' =>
  rw [e] at f;exact fun φ' c d H' I' X r => f φ' σ c d H' I' X (E.ext X I) r
 | ok d S' =>
  rw [e] at f;exact fun φ' v H' I' X r => hk φ' S' d v H' I' X (E.ext X I) r (FinS.ext f X)
def aT (m n : FS) : FS := fun ρ S => match m ρ S with
 | .next ρ' S' => n ρ' S'
 | o => o
def bD : FS := fun ρ S => .next ρ S
def bI (a : FE) : FS := fun ρ S => (a ρ S).toS ρ fun d S1 => .ret d S1
def wZ (a : FE) : FS := fun ρ S => (a ρ S).toS ρ fun _ S1 => .next ρ S1
def bV (t : FT) (m n : FS) : FS := fun ρ S => (t ρ S).toS ρ fun c S1 => if c = true then m ρ S1 else n ρ S1
theorem Hq (h : lC K W (aT m n) D σ H) : tSeq (lC K W m) (lC K W n) D σ H := by
 obtain ⟨B, φ, S, ρ, I, E, f⟩ := h;refine ⟨B, φ, S, ρ, I, E, ?_⟩
 unfold aT at f;cases e : m ρ S with
 | next ρ' S' =>
  rw [e] at f;exact fun φ' σ' H' I' X r => ⟨B, φ', S', ρ', I', r, FinS.ext f X⟩
 | ret d S' => rw [e] at f; exact f
 | brk d S' => rw [e] at f; exact f
 | cnt d S' => rw [e] at f; exact f
 | err x d S' => rw [e] at f; exact f
 | stuck => rw [e] at f; exact f
theorem aP : PSs X [] (lC X.K W bD) := BH pss_nil fun D σ H h => by
 obtain ⟨B, φ, S, ρ, I, E, f⟩ := h;exact f φ σ H I Ext.refl E
theorem aI (h : PS X st (lC X.K W m)) : PSs X [st] (lC X.K W m) := pss_one h
theorem aF (h : PS X st (lC X.K W m)) (hr : PSs X yK (lC X.K W n)) : PSs X (st :: yK) (lC X.K W (aT m n)) := BH (pss_cons h hr) fun D σ H h => Hq h
theorem aN (ha : PE X a (bU X.K W ma)) : PS X (.Return (some a) pos) (lC X.K W (bI ma)) := iT (ps_ret ha) fun D σ H h => by
 obtain ⟨B, φ, S, ρ, I, E, f⟩ := h;exact cJ I E f fun φ' S' d v H1 I1 X1 E1 r f1 => f1 φ' v H1 I1 Ext.refl r
theorem sL (ha : PE X a (bU X.K W ma)) (hs : swapsWith a none pos.line X.env = pure false := by rfl) : PS X (.Expr a pos) (lC X.K W (wZ ma)) := iT (ps_expr ha hs) fun D σ H h => by
 obtain ⟨B, φ, S, ρ, I, E, f⟩ := h;exact cJ I E f fun φ' S' d v H1 I1 X1 E1 r f1 => f1 φ' σ H1 I1 Ext.refl E1
theorem bF {s1 s2 : List Stmt} (ht : PT X c (qU X.K W mt)) (ha : PSs X s1 (lC X.K W m)) (hb : PSs X s2 (lC X.K W n)) : PS X (.If c s1 s2 pos) (lC X.K W (bV mt m n)) := iT (ps_if ht ha hb) fun D σ H h => by
 obtain ⟨B, φ, S, ρ, I, E, f⟩ := h;refine cJ I E f fun φ' S' d v H1 I1 X1 E1 r f1 => ?_
 have r : v = d := r;subst r;cases v with
 | true => exact ⟨B, φ', S', ρ, I1, E1, f1⟩
 | false => exact ⟨B, φ', S', ρ, I1, E1, f1⟩
inductive Tg where
 | nm (i : Nat) | tp (is : List Nat) | tn (i : Nat) (is : List Nat)
def B5 : List Nat -> TGs
 | [] => gNil
 | i :: r => gCons (gName i) (B5 r)
def BZ (K : aB) : Tg -> TG
 | .nm i => gName i
 | .tp is => gTup K is.length (B5 is)
 | .tn i is => gTup K 2 (gCons (gName i) (gCons (gTup K is.length (B5 is)) gNil))
def putAll : List Nat -> List L2.V -> L2.St -> L2.St
 | i :: r, v :: vs, σ => putAll r vs (σ.set i (some v))
 | _, _, σ => σ
def uK : List Nat -> List PH.D -> Ev -> Ev
 | i :: r, v :: vs, σ => uK r vs (σ.set i (some (.dat v)))
 | _, _, σ => σ
def mU : Tg -> Vl -> Ev -> Option Ev
 | .nm i, d, ρ => some (ρ.set i (some d))
 | .tp is, .dat (.tup ds), ρ => if ds.length = is.length then some (uK is ds ρ) else none
 | .tp _, _, _ => none
 | .tn i is, .dat (.tup [d, .tup ds]), ρ => if ds.length = is.length then some (uK is ds (ρ.set i (some (.dat d)))) else none
 | .tn _ _, _, _ => none
def Hi : Tg -> List Nat
 | .nm i => [i]
 | .tp is => is
 | .tn i is => i :: is
theorem qK {Q : L2.St -> Hp -> Prop} : ∀ {is : List Nat} {vs : List L2.V} {σ : L2.St} {H : Hp}, vs.length = is.length -> Q (putAll is vs σ) H -> B5 is vs σ H Q
 | [], [], σ, H, _, q => ⟨rfl, q⟩
 | i :: is, v :: vs, σ, H, h, q => ⟨v, vs, rfl, qK (is := is) (by simpa using h) q⟩
 | [], _ :: _, _, _, h, _ => by simp at h
 | _ :: _, [], _, _, h, _ => by simp at h
theorem wL : ∀ {is : List Nat} {ds : List PH.D} {vs : List L2.V} {ρ : Ev} {σ : L2.St}, RepL K (fG B φ S) H ds vs -> RepE K B φ S H ρ σ -> RepE K B φ S H (uK is ds ρ) (putAll is vs σ)
 | [], ds, vs, ρ, σ, h, E => by cases ds <;> cases vs <;> exact E
 | i :: is, [], vs, ρ, σ, h, E => by cases h; exact E
 | i :: is, d :: ds, vs, ρ, σ, ⟨v, ws, e, h1, h2⟩, E => by subst e; exact wL (is := is) h2 (E.set (d := .dat d) h1 i)
def KH : Tg -> L2.V -> List L2.V -> L2.St -> L2.St
 | .nm i, v, _, σ => σ.set i (some v)
 | .tp is, _, vs, σ => putAll is vs σ
 | .tn i is, _, v :: vs, σ => putAll is vs (σ.set i (some v))
 | .tn _ _, _, [], σ => σ
theorem rE {t : Tg} {d : Vl} {v : L2.V} {ρ ρ' : Ev} {Q : L2.St -> Hp -> Prop} (E : RepE K B φ S H ρ σ) (r : RepV K B φ S H d v) (h : mU t d ρ = some ρ') (q : ∀ vs, RepE K B φ S H ρ' (KH t v vs σ) -> Q (KH t v vs σ) H) : BZ K t v σ H Q := by
 cases t with
 | nm i => cases h; exact q [] (E.set r i)
 | tp is =>
  cases d with
  | dat d =>
   cases d with
   | tup ds =>
    have h : (if ds.length = is.length then some (uK is ds ρ) else none) = some ρ' := h
    split at h
    ·rename_i hl
     cases h;obtain ⟨a, vs, rfl, h1, l⟩ := r;exact ⟨a, vs, rfl, h1, by rw [l.len, hl], qK (by rw [l.len, hl]) (q vs (wL l E))⟩
    ·cases h
   | _ => cases h
  | _ => cases h
 | tn i is =>
  cases d with
  | dat d =>
   cases d with
   | tup xs =>
    cases xs with
    | nil => cases h
    | cons d0 xs =>
     cases xs with
     | nil => cases h
     | cons d1 xs =>
      cases xs with
      | cons _ _ => cases d1 <;> cases h
      | nil =>
       cases d1 with
       | tup ds =>
        have h : (if ds.length = is.length then some (uK is ds (ρ.set i (some (.dat d0)))) else none) = some ρ' := h
        split at h
        ·rename_i hl
         cases h;obtain ⟨a, vs, rfl, h1, v0, ws, rfl, r0, v1, us, rfl, ⟨b, zs, rfl, h2, l⟩, rfl⟩ := r;refine ⟨a, [v0, .ref b], rfl, h1, rfl, v0, _, rfl, .ref b, _, rfl, b, zs, rfl, h2, by rw [l.len, hl], ?_⟩
         refine qK (Q := fun σ' H' => gNil [] σ' H' Q) (by rw [l.len, hl]) ⟨rfl, ?_⟩
         exact q (v0 :: zs) (wL l (E.set (d := .dat d0) r0 i))
        ·cases h
       | _ => cases h
   | _ => cases h
  | _ => cases h
def bT (a : FE) (t : Tg) : FS := fun ρ S => (a ρ S).toS ρ fun d S1 => match mU t d ρ with
 | some ρ' => .next ρ' S1
 | none => .stuck
theorem De {t : Tg} (h : lC K W (bT ma t) D σ H) : tAsg (bU K W ma) (BZ K t) D σ H := by
 obtain ⟨B, φ, S, ρ, I, E, f⟩ := h;refine cJ I E f fun φ' S' d v H1 I1 X1 E1 r f1 => ?_
 split at f1
 ·rename_i ρ' q
  exact rE E1 r q fun vs E2 => f1 φ' _ H1 I1 Ext.refl E2
 ·exact f1.elim
theorem B6 {tg e : Expr} {t : Tg} (he : PE X e (bU X.K W ma)) (hg : PG X tg (BZ X.K t)) (hs : swapsWithSole [tg] e pos.line X.env = pure false := by rfl) (hw : swappedStores [tg] e X.env = pure none := by rfl)
  (h1 : (assignEach [tg] X.env).map (·.2) = [assign tg X.env] := by rfl) : PS X (.Assign [tg] e pos) (lC X.K W (bT ma t)) := iT (ps_asg he hg hs hw h1) fun D σ H h => De h
theorem aX {i : Nat} {x : Str} {e : Expr} {pos' : Pos} (hN : X.N.Nodup) (hi : X.N[i]? = some x) (hx : Loc X.env.scope x) (he : PE X e (bU X.K W ma)) (hs : swapsWith e (some (.Name x pos')) pos.line X.env = pure false := by rfl) (hf : X.fn x = true \/ X.env.scope.names.lookup x = some .local := by first | exact .inl rfl | exact .inr rfl | assumption) :
  PS X (.Assign [.Name x pos'] e pos) (lC X.K W (bT ma (.nm i))) := iT (ps_set hN hi hx he hs hf) fun D σ H h => De (t := .nm i) h
def wipeE (ρ : Ev) : List Nat -> Ev
 | [] => ρ
 | v :: vs => (wipeE ρ vs).set v none
theorem RepE.wipeE {ρ : Ev} (E : RepE K B φ S H ρ σ) : ∀ is : List Nat, RepE K B φ S H (wipeE ρ is) σ
 | [] => E
 | i :: is => (RepE.wipeE E is).forget i
def lU (is : List Nat) (m : FS) : FS := fun ρ S => match m ρ S with
 | .next ρ' S' => .next (wipeE ρ' is) S'
 | .cnt ρ' S' => .cnt (wipeE ρ' is) S'
 | .brk ρ' S' => .brk (wipeE ρ' is) S'
 | o => o
theorem Fj {is : List Nat} (h : lC K W (lU is m) D σ H) : lC K W m D σ H := by
 obtain ⟨B, φ, S, ρ, I, E, f⟩ := h;refine ⟨B, φ, S, ρ, I, E, ?_⟩
 unfold lU at f;cases e : m ρ S with
 | next ρ' S' => rw [e] at f; exact fun φ' σ' H' I' X r => f φ' σ' H' I' X (r.wipeE is)
 | ret d S' => rw [e] at f; exact f
 | brk ρ' S' => rw [e] at f; exact fun φ' σ' H' I' X r => f φ' σ' H' I' X (r.wipeE is)
 | cnt ρ' S' => rw [e] at f; exact fun φ' σ' H' I' X r => f φ' σ' H' I' X (r.wipeE is)
 | err x d S' => rw [e] at f; exact f
 | stuck => rw [e] at f; exact f
theorem iP (is : List Nat) (h : PSs X yK (lC X.K W m)) : PSs X yK (lC X.K W (lU is m)) := BH h fun D σ H h => Fj h
abbrev FI := Ev -> aK -> Res (List PH.D)
def Hg (K : aB) (B : Addr -> Prop) (φ : List Addr) (S : aK) (H : Hp) (J : It) (ds : List PH.D) : Prop := ∀ φ1 S1 H1 B1, GInv K B1 φ1 S1 H1 -> Kp (fG B φ S) H (fG B1 φ1 S1) H1 ->
 (∀ i, i < ds.length -> J.go i H1) /\ J.stop ds.length H1 /\ ∀ i x H2 d, ds[i]? = some d -> J.yld i H1 x H2 -> GInv K B1 φ1 S1 H2 /\ Ext φ1 S1 H1 φ1 S1 H2 /\ Rep K (fG B1 φ1 S1) H2 d x
def RI (K : aB) : Rl (List PH.D) It := fun B φ S H ds J => Hg K B φ S H J ds
abbrev IE (K : aB) (W : WX) (m : FI) : TI := rd K W (RI K) m
theorem BI {tg iter : Expr} {t u : TI} (h : PI X tg iter t) (i : ∀ σ H R, u σ H R -> t σ H R) : PI X tg iter u := ⟨fun pins s σ H R I q => h.run pins s σ H R I (i σ H R q)⟩
theorem Ext.kpB {B1 : Addr -> Prop} {φ1 : List Addr} {S1 : aK} {H1 : Hp} (h1 : ∀ a, B a -> B1 a) (h2 : ∀ a, H a ≠ none -> B1 a -> B a) (I : GInv K B φ S H) (x : Ext φ S H φ1 S1 H1) : Kp (fG B φ S) H (fG B1 φ1 S1) H1 where
 old := fun b o h n => by
  obtain ⟨h3, h4⟩ := x.old b o h (fun q => n (.inr q))
  exact ⟨h3, fun q => by
   rcases q with q | q
   ·exact n (.inl (h2 b (by rw [h]; simp) q))
   ·exact h4 q⟩
 tup := (x.kp I).tup
theorem Ib {v : L2.V} {ds : List PH.D} (I : GInv K B φ S H) (r : Rep K (fG B φ S) H (.lst ds) v) : ∃ a, v = .ref a /\ (∃ xs, SqL K H a xs) /\ Hg K B φ S H (Itl K a) ds := by
 obtain ⟨a, vs, rfl, nb, h1, l⟩ := r;refine ⟨a, rfl, ⟨vs, SqL.of h1⟩, fun φ1 S1 H1 B1 I1 X1 => ?_⟩
 have h2 := (X1.old a _ h1 nb).1;have l2 := RepL.kp X1 ds vs l;have hl := l.len;refine ⟨fun i hi => ⟨vs, vs[i], SqL.of h2, by simp [hl, hi]⟩, ⟨vs, SqL.of h2, by omega⟩, fun i x H2 d hd y => ?_⟩
 obtain ⟨rfl, y⟩ := y;obtain ⟨v', h3, h4⟩ := l2.get hd;rw [y vs (SqL.of h2)] at h3;cases h3;exact ⟨I1, Ext.refl, h4⟩
theorem L8 {v : L2.V} {ds : List PH.D} (I : GInv K B φ S H) (r : Rep K (fG B φ S) H (.tup ds) v) : ∃ a, v = .ref a /\ (∃ xs, SqT K H a xs) /\ Hg K B φ S H (Itt K a) ds := by
 obtain ⟨a, vs, rfl, h1, l⟩ := r;refine ⟨a, rfl, ⟨vs, h1⟩, fun φ1 S1 H1 B1 I1 X1 => ?_⟩
 have h2 : SqT K H1 a vs := SqT.kp X1.tup h1;have l2 := RepL.kp X1 ds vs l;have hl := l.len;refine ⟨fun i hi => ⟨vs, vs[i], h2, by simp [hl, hi]⟩, ⟨vs, h2, by omega⟩, fun i x H2 d hd y => ?_⟩
 obtain ⟨rfl, y⟩ := y;obtain ⟨v', h3, h4⟩ := l2.get hd;rw [y vs h2] at h3;cases h3;exact ⟨I1, Ext.refl, h4⟩
def itemsOf : Vl -> aK -> Res (List PH.D)
 | .dat (.lst ds), S => .ok ds S
 | .dat (.tup ds), S => .ok ds S
 | _, _ => .stuck
def jA (a : FE) : FI := fun ρ S => (a ρ S).bind itemsOf
theorem gL {tg : Expr} (ha : PE X a (bU X.K W ma)) : PI X tg a (IE X.K W (jA ma)) := BI (An ha) fun σ H R h =>
 bJ (k := fun x _ S => itemsOf x S) h fun B φ S ρ d v H1 I E r f => by
  unfold itemsOf at f;split at f
  ·obtain ⟨a, rfl, h1, h2⟩ := Ib I r
   exact qT ⟨h1, Fin.now f I h2⟩
  ·obtain ⟨a, rfl, h1, h2⟩ := L8 I r
   exact nJ ⟨h1, Fin.now f I h2⟩
  ·exact f.elim
def oU (lo : Int) (n : Nat) : List PH.D := (kM n).map fun (k : Nat) => PH.D.int (lo + (k : Int))
theorem L9 {lo : Int} {n : Nat} : Hg K B φ S H (Itr lo n) (oU lo n) := fun φ1 S1 H1 B1 I1 X1 => by
 refine ⟨fun i hi => by show i < n; simpa [oU] using hi, by show n <= _; simp [oU], fun i x H2 d hd y => ?_⟩
 obtain ⟨rfl, rfl⟩ := y;have : d = .int (lo + (i : Int)) := by
  unfold oU at hd;rw [cG] at hd;cases q : (kM n)[i]? with
  | none => rw [q] at hd; cases hd
  | some k =>
   rw [q] at hd;have := aH.mp q;obtain ⟨_, e⟩ := this;simp at e;subst e;cases hd;rfl
 subst this;exact ⟨I1, Ext.refl, rfl⟩
def wY (a : FE) : FI := fun ρ S => (a ρ S).bind fun x S1 => match x with
 | .dat (.int j) => if -(2 ^ 62) <= j /\ j < 2 ^ 62 then .ok (oU 0 j.toNat) S1 else .stuck
 | _ => .stuck
theorem vO {tg : Expr} (hg : Gl X "range") (hm : X.mg "range" = none) (ha : PE X a (bU X.K W ma)) (hs : starEach [a] X.env = [(false, eval a X.env)] := by rfl) : PI X tg (.Call (.Name "range" p) [a] [] pos) (IE X.K W (wY ma)) := BI (pi_range1 hg hm (pa_cons ha pa_nil hs) hs) fun σ H R h =>
 bJ (k := fun x _ S1 => match x with | Vl.dat (PH.D.int j) => if -(2 ^ 62) <= j /\ j < 2 ^ 62 then Res.ok (oU 0 j.toNat) S1 else .stuck | _ => .stuck) h fun B φ S ρ d v H1 I E r f => by
  split at f
  ·rename_i j
   cases r;split at f
   ·rename_i hj
    exact ⟨j, rfl, hj.1, hj.2, Fin.now f I L9⟩
   ·exact f.elim
  ·exact f.elim
def dG : Nat -> List PH.D -> List PH.D
 | _, [] => []
 | n, d :: r => .tup [.int (n : Nat), d] :: dG (n + 1) r
theorem AC : ∀ (n : Nat) (ds : List PH.D), (dG n ds).length = ds.length
 | _, [] => rfl
 | n, d :: r => by simp [dG, AC (n + 1) r]
theorem AD : ∀ (n : Nat) (ds : List PH.D) (i : Nat), (dG n ds)[i]? = (ds[i]?).map fun d => PH.D.tup [.int ((n + i : Nat) : Int), d]
 | n, [], i => by simp [dG]
 | n, d :: r, 0 => by simp [dG]
 | n, d :: r, i + 1 => by
  simp only [dG, List.getElem?_cons_succ]
  rw [AD (n + 1) r i, show n + 1 + i = n + (i + 1) by omega]
def Bt (a : FE) : FI := fun ρ S => (a ρ S).bind fun x S1 => match x with
 | .dat (.lst ds) => .ok (dG 0 ds) S1
 | _ => .stuck
theorem Ic {a : Addr} {vs : List L2.V} {ds : List PH.D} (I : GInv K B φ S H) (nb : ¬ fG B φ S a) (h1 : H a = some (.lst vs)) (l : RepL K (fG B φ S) H ds vs) : Hg K B φ S H (Ite K a) (dG 0 ds) := fun φ1 S1 H1 B1 I1 X1 => by
 have h2 := (X1.old a _ h1 nb).1;have l2 := RepL.kp X1 ds vs l;have hl := l.len;rw [AC];refine ⟨fun i hi => ⟨vs, vs[i], SqL.of h2, by simp [hl, hi]⟩, ⟨vs, SqL.of h2, by omega⟩, fun i x H2 d hd y => ?_⟩
 obtain ⟨T, x', rfl, nT, rfl, y⟩ := y;rw [AD, qR] at hd;cases q : ds[i]? with
 | none => rw [q] at hd; cases hd
 | some d' =>
  rw [q] at hd;cases hd;obtain ⟨v', h3, h4⟩ := l2.get q;rw [y vs (SqL.of h2)] at h3;cases h3;have X2 := Ext.new (o := .tup [.int (i : Nat), x']) I1 nT;exact ⟨I1.new nT, X2, T, _, rfl, .inl (.inl upd_same), _, _, rfl, rfl, _, _, rfl, Rep.kp (X2.kp I1) _ _ h4, rfl⟩
theorem B7 {elts : List Expr} {kk : Nat} {tpos : Pos} (hg : Gl X "enumerate") (hm : X.mg "enumerate" = none) (ha : PE X a (bU X.K W ma)) (hs : starEach [a] X.env = [(false, eval a X.env)] := by rfl) : PI X (.Tuple elts kk tpos) (.Call (.Name "enumerate" p) [a] [] pos) (IE X.K W (Bt ma)) := BI (pi_enum hg hm (pa_cons ha pa_nil hs) hs) fun σ H R h =>
 bJ (k := fun x _ S1 => match x with | Vl.dat (PH.D.lst ds) => Res.ok (dG 0 ds) S1 | _ => .stuck) h fun B φ S ρ d v H1 I E r f => by
  split at f
  ·obtain ⟨a, vs, rfl, nb, h1, l⟩ := r
   exact ⟨a, vs, rfl, SqL.of h1, Fin.now f I (Ic I nb h1 l)⟩
  ·exact f.elim
end
section
variable {X : Cx} {W : WX} {e a b c : Expr} {es rest : List Expr} {pos p q p2 : Pos} {x y z : Str} {K : aB} {ma mb mc : FE} {mt mu : FT} {mas : FA} {mi : FI} {B : Addr -> Prop} {φ φ' : List Addr} {S S' : aK} {H H' : Hp} {σ : L2.St} {Q : VK} {m n : FS} {st : Stmt} {yK : List Stmt} {D : Ends} {t : Tg}
def loop (t : Tg) (mb : FS) : List PH.D -> Ev -> aK -> Out
 | [], ρ, S => .next ρ S
 | d :: r, ρ, S => match mU t (.dat d) ρ with
  | none => .stuck
  | some ρ1 => match mb ρ1 S with
   | .next ρ2 S2 => loop t mb r ρ2 S2
   | .cnt ρ2 S2 => loop t mb r ρ2 S2
   | .brk ρ2 S2 => .next ρ2 S2
   | .ret d S2 => .ret d S2
   | .err e ρ2 S2 => .err e ρ2 S2
   | .stuck => .stuck
def yU (mi : FI) (t : Tg) (mb : FS) : FS := fun ρ S => (mi ρ S).toS ρ fun ds S1 => loop t mb ds ρ S1
theorem Hu (h : lC K W (yU mi t m) D σ H) : tFor (IE K W mi) (BZ K t) (lC K W m) D σ H := by
 obtain ⟨B, φ, S, ρ, I, E, f⟩ := h;refine cJ I E f fun φ0 S0 ds J H0 I0 X0 E0 r f0 => ?_
 refine ⟨fun i k σ' H' => i <= ds.length /\ k = ds.length - i /\ ∃ φ1 S1 ρ1, GInv K B φ1 S1 H' /\ Ext φ0 S0 H0 φ1 S1 H' /\ RepE K B φ1 S1 H' ρ1 σ' /\ FinS K W D B φ1 S1 H' (loop t m (ds.drop i) ρ1 S1), ⟨_, zB _, rfl, φ0, S0, ρ, I0, Ext.refl, E0, f0⟩, ?_⟩
 rintro i k σ' H' ⟨hi, rfl, φ1, S1, ρ1, I1, X1, E1, f1⟩
 obtain ⟨hgo, hstop, hyld⟩ := r φ1 S1 H' B I1 (X1.kp I0)
 by_cases hlt : i < ds.length
 ·refine .inr ⟨hgo i hlt, fun σ2 H2 => i + 1 <= ds.length /\ ∃ φ2 S2 ρ2, GInv K B φ2 S2 H2 /\ Ext φ0 S0 H0 φ2 S2 H2 /\ RepE K B φ2 S2 H2 ρ2 σ2 /\ FinS K W D B φ2 S2 H2 (loop t m (ds.drop (i + 1)) ρ2 S2), fun σ2 H2 ⟨h1, h2⟩ => ⟨ds.length - (i + 1), by omega, h1, rfl, h2⟩, fun x H2 y => ?_⟩
  have hd : ds[i]? = some ds[i] := by simp [hlt]
  obtain ⟨I2, X2, r2⟩ := hyld i x H2 ds[i] hd y;rw [bW hlt] at f1;unfold loop at f1;have E2 := E1.ext X2 I1;have f2 := FinS.ext f1 X2;split at f2
  ·exact f2.elim
  ·rename_i ρ2 q2
   refine rE E2 (d := .dat ds[i]) r2 q2 fun vs E3 => ⟨B, φ1, S1, ρ2, I2, E3, ?_⟩
   cases q3 : m ρ2 S1 with
   | next ρ3 S3 =>
    rw [q3] at f2;exact fun φ3 σ3 H3 I3 X3 E4 => ⟨hlt, φ3, S3, ρ3, I3, X1.trans (X2.trans X3), E4, FinS.ext f2 X3⟩
   | cnt ρ3 S3 =>
    rw [q3] at f2;exact fun φ3 σ3 H3 I3 X3 E4 => ⟨hlt, φ3, S3, ρ3, I3, X1.trans (X2.trans X3), E4, FinS.ext f2 X3⟩
   | brk ρ3 S3 => rw [q3] at f2; exact f2
   | ret d S3 => rw [q3] at f2; exact f2
   | err e ρ3 S3 => rw [q3] at f2; exact f2
   | stuck => rw [q3] at f2; exact f2
 ·have e : i = ds.length := by omega
  subst e;rw [oY] at f1;exact .inl ⟨hstop, f1 φ1 σ' H' I1 Ext.refl E1⟩
theorem tY {tg iter : Expr} (hp : PassesOwn (model X.prog X.w) X.A X.env X.xe) (hc : X.calm = true) (hi : PI X tg iter (IE X.K W mi)) (hg : PG X tg (BZ X.K t)) (hb : PSs X yK (lC X.K W m))
  (hs : ∀ x, foldedSetIterable iter X.env x = pure x := by intro _; rfl) : PS X (.For tg iter yK [] pos) (lC X.K W (yU mi t m)) := iT (ps_for hp hc hi hg hb hs) fun D σ H h => Hu h
theorem qE : ∀ (vs : List Nat) (σ : L2.St) (j : Nat), (wipe σ vs)[j]? = if j ∈ vs then (σ[j]?).map (fun _ => none) else σ[j]?
 | [], σ, j => by simp [wipe]
 | v :: vs, σ, j => by
  unfold wipe;rw [aV, qE vs σ j, wipe_length]
  by_cases e : v = j
  ·subst e
   rw [if_pos rfl, if_pos (aY ..)]
   by_cases hl : v < σ.length
   ·rw [if_pos hl]; simp [hl]
   ·rw [if_neg hl]; simp [pA hl]
  ·rw [if_neg e]
   by_cases hm : j ∈ vs
   ·rw [if_pos hm, if_pos (aU _ hm)]
   ·rw [if_neg hm, if_neg]
    intro h;rcases fK.mp h with h | h
    ·exact e h.symm
    ·exact hm h
theorem vR {vs : List Nat} {σ : L2.St} {i : Nat} {v : Option L2.V} (hi : i ∈ vs) : wipe (σ.set i v) vs = wipe σ vs := by
 apply vE
 intro j;rw [qE, qE]
 by_cases hj : j ∈ vs
 ·rw [if_pos hj, if_pos hj, aV]
  by_cases e : i = j
  ·subst e
   rw [if_pos rfl]
   by_cases hl : i < σ.length
   ·rw [if_pos hl]; simp [hl]
   ·rw [if_neg hl]; simp [pA hl]
  ·rw [if_neg e]
 ·rw [if_neg hj, if_neg hj, aV, if_neg]
  intro e;subst e;exact hj hi
theorem qC {vs : List Nat} {σ : L2.St} : wipe (wipe σ vs) vs = wipe σ vs := by
 apply vE
 intro j;rw [qE]
 by_cases hj : j ∈ vs
 ·rw [if_pos hj, qE, if_pos hj]
  cases σ[j]? <;> rfl
 ·rw [if_neg hj]
theorem pB {vs : List Nat} : ∀ {is : List Nat} {ws : List L2.V} {σ : L2.St}, (∀ i ∈ is, i ∈ vs) -> wipe (putAll is ws σ) vs = wipe σ vs
 | [], ws, σ, _ => by cases ws <;> rfl
 | i :: is, [], σ, _ => rfl
 | i :: is, w :: ws, σ, h => by
  unfold putAll;rw [pB (is := is) fun j hj => h j (aU _ hj), vR (h i (aY ..))]
theorem qD {vs : List Nat} {v : L2.V} {ws : List L2.V} (h : ∀ i ∈ Hi t, i ∈ vs) : wipe (KH t v ws σ) vs = wipe σ vs := by
 cases t with
 | nm i => exact vR (h i (by simp [Hi]))
 | tp is => exact pB h
 | tn i is =>
  cases ws with
  | nil => rfl
  | cons w ws =>
   show wipe (putAll is ws (σ.set i (some w))) vs = _
   rw [pB fun j hj => h j (aU _ hj), vR (h i (aY ..))]
theorem RepE.wipes {ρ : Ev} (E : RepE K B φ S H ρ σ) (vs : List Nat) : RepE K B φ S H (PH.wipeE ρ vs) (wipe σ vs) := by
 have hl : ∀ vs : List Nat, (PH.wipeE ρ vs).length = ρ.length := fun vs => by
  induction vs with
  | nil => rfl
  | cons v vs ih => simp [PH.wipeE, ih]
 have hg : ∀ (vs : List Nat) (i : Nat) (d : Vl), (PH.wipeE ρ vs)[i]? = some (some d) -> i ∉ vs /\ ρ[i]? = some (some d) := fun vs => by
  induction vs with
  | nil => intro i d h; exact ⟨by simp, h⟩
  | cons v vs ih =>
   intro i d h;unfold PH.wipeE at h;rw [aV] at h
   by_cases e : v = i
   ·rw [if_pos e] at h
    by_cases hv : v < (PH.wipeE ρ vs).length
    ·rw [if_pos hv] at h; cases h
    ·rw [if_neg hv] at h; cases h
   ·rw [if_neg e] at h
    obtain ⟨h1, h2⟩ := ih i d h;exact ⟨fun q => by
     rcases fK.mp q with q | q
     ·exact e q.symm
     ·exact h1 q, h2⟩
 refine ⟨by rw [hl, wipe_length]; exact E.1, fun i d h => ?_⟩
 obtain ⟨h1, h2⟩ := hg vs i d h;obtain ⟨v, h3, h4⟩ := E.2 i d h2;exact ⟨v, by rw [qE, if_neg h1]; exact h3, h4⟩
def eF (B : Addr -> Prop) (a : Addr) : Addr -> Prop := fun b => B b \/ b = a
theorem GInv.plus {a : Addr} {o : HO} (I : GInv K B φ S H) (ha : H a = none) : GInv K (eF B a) φ S (upd H a o) where
 len := I.len
 ok := fun n c b h1 h2 => by
  have q := I.ok n c b h1 h2;have k : Kp (fG B φ S) H (fG (eF B a) φ S) (upd H a o) := Ext.kpB (B1 := eF B a) (fun _ h => .inl h) (fun b hb h => by
   rcases h with h | h
   ·exact h
   ·exact absurd (by rw [h]; exact ha) hb) I (Ext.new I ha)
  have hb : c ≠ .dead -> upd H a o b = H b := fun hc => upd_ne fun e => by
   subst e;exact I.fresh ha ⟨n, c, h1, hc, h2⟩
  have hV : ∀ {d : Vl} {v : L2.V}, RepV K B φ S H d v -> RepV K (eF B a) φ S (upd H a o) d v := fun {d v} r => by
   cases d with
   | dat d => exact Rep.kp k d v r
   | cel n => exact r
   | cels ns => obtain ⟨a', as, e1, e2, e3, e4⟩ := r; exact ⟨a', as, e1, (k.old _ _ e3 e2).2, (k.old _ _ e3 e2).1, e4⟩
   | scr ns => obtain ⟨a', e1, e2⟩ := r; exact ⟨a', e1, e2.keep fun o u h => by rw [upd_ne (ne_of_none h ha)]; exact h⟩
   | tc xs => obtain ⟨a', vs, e1, e2, e3⟩ := r; exact ⟨a', vs, e1, SqT.kp k.tup e2, e3.kp k (fun _ _ h => h)⟩
  have hF : ∀ {fs : List (Str × Vl)} {vs : List (Str × L2.V)}, RepF K B φ S H fs vs -> RepF K (eF B a) φ S (upd H a o) fs vs := fun {fs} => by
   induction fs with
   | nil => intro vs r; exact r
   | cons f fs ih => rintro vs ⟨v, ws, e, h1, h2⟩; exact ⟨v, ws, e, hV h1, ih h2⟩
  cases c with
  | dead => trivial
  | lst ds => obtain ⟨vs, e, r⟩ := q; exact ⟨vs, by rw [hb (by simp)]; exact e, RepL.kp k ds vs r⟩
  | ins C fs => obtain ⟨dx, vs, e, r⟩ := q; exact ⟨dx, vs, by rw [hb (by simp)]; exact e, hF r⟩
  | dct fs => obtain ⟨vs, e, r⟩ := q; exact ⟨vs, by rw [hb (by simp)]; exact e, hF r⟩
  | lv xs => obtain ⟨vs, e, r⟩ := q; exact ⟨vs, by rw [hb (by simp)]; exact e, bY hV r⟩
  | dki ks xs => obtain ⟨vs, e, r⟩ := q; exact ⟨vs, by rw [hb (by simp)]; exact e, bY hV r⟩
  | dkt ks xs => obtain ⟨vs, e, r⟩ := q; exact ⟨vs, by rw [hb (by simp)]; exact e, bY hV r⟩
 inj := I.inj
 blk := fun b h q => by
  rcases q with q | q
  ·exact I.blk b h q
  ·subst q; exact I.fresh ha h
 btr := fun b h => by
  rcases h with h | h
  ·obtain ⟨u, e⟩ := I.btr b h
   exact ⟨u, by rw [upd_ne (ne_of_none e ha)]; exact e⟩
  ·subst h; exact ⟨o, upd_same⟩
theorem RepV.less {a : Addr} {d : Vl} {v : L2.V} (r : RepV K (eF B a) φ S H d v) : RepV K B φ S H d v := by
 have k : Kp (fG (eF B a) φ S) H (fG B φ S) H := ⟨fun b o h n => ⟨h, fun q => n (by
  rcases q with q | q
  ·exact .inl (.inl q)
  ·exact .inr q)⟩, fun _ _ h => h⟩
 cases d with
 | dat d => exact Rep.kp k d v r
 | cel n => exact r
 | cels ns => obtain ⟨a', as, e1, e2, e3, e4⟩ := r; exact ⟨a', as, e1, (k.old _ _ e3 e2).2, e3, e4⟩
 | scr ns => exact r
 | tc xs => obtain ⟨a', vs, e1, e2, e3⟩ := r; exact ⟨a', vs, e1, SqT.kp k.tup e2, e3.kp k (fun _ _ h => h)⟩
theorem RepL.less {a : Addr} {ds : List PH.D} {vs : List L2.V} (r : RepL K (fG (eF B a) φ S) H ds vs) : RepL K (fG B φ S) H ds vs :=
 RepL.kp ⟨fun b o h n => ⟨h, fun q => n (by
  rcases q with q | q
  ·exact .inl (.inl q)
  ·exact .inr q)⟩, fun _ _ h => h⟩ ds vs r
theorem RepF.less {a : Addr} : ∀ {fs : List (Str × Vl)} {vs : List (Str × L2.V)}, RepF K (eF B a) φ S H fs vs -> RepF K B φ S H fs vs
 | [], vs, r => r
 | f :: fs, vs, ⟨v, ws, e, h1, h2⟩ => ⟨v, ws, e, h1.less, RepF.less h2⟩
theorem GInv.less {a : Addr} (I : GInv K (eF B a) φ S H) : GInv K B φ S H where
 len := I.len
 ok := fun n c b h1 h2 => by
  have q := I.ok n c b h1 h2;cases c with
  | dead => trivial
  | lst ds => obtain ⟨vs, e, r⟩ := q; exact ⟨vs, e, r.less⟩
  | ins C fs => obtain ⟨dx, vs, e, r⟩ := q; exact ⟨dx, vs, e, r.less⟩
  | dct fs => obtain ⟨vs, e, r⟩ := q; exact ⟨vs, e, r.less⟩
  | lv xs => obtain ⟨vs, e, r⟩ := q; exact ⟨vs, e, bY RepV.less r⟩
  | dki ks xs => obtain ⟨vs, e, r⟩ := q; exact ⟨vs, e, bY RepV.less r⟩
  | dkt ks xs => obtain ⟨vs, e, r⟩ := q; exact ⟨vs, e, bY RepV.less r⟩
 inj := I.inj
 blk := fun b h q => I.blk b h (.inl q)
 btr := fun b h => I.btr b (.inl h)
theorem Kp.plusPut {a : Addr} {acc : List L2.V} {o : HO} (ha : H a = some (.lst acc)) : Kp (fG (eF B a) φ S) H (fG (eF B a) φ S) (upd H a o) :=
 ⟨fun b o' h n => ⟨by
  rw [upd_ne]
  ·exact h
  ·intro e; subst e; exact n (.inl (.inr rfl)), n⟩, fun b w h => by
  have ne : b ≠ a := fun e => by
   subst e;rcases h with h | ⟨o', h⟩
   ·rw [ha] at h; cases h
   ·rw [ha] at h; cases h
  rcases h with h | ⟨o', h⟩
  ·exact .inl (by rw [upd_ne ne]; exact h)
  ·exact .inr ⟨o', by rw [upd_ne ne]; exact h⟩⟩
theorem RepV.plusPut {a : Addr} {acc : List L2.V} {o : HO} (ha : H a = some (.lst acc)) {d : Vl} {v : L2.V} (r : RepV K (eF B a) φ S H d v) : RepV K (eF B a) φ S (upd H a o) d v := by
 have k := Kp.plusPut (B := B) (φ := φ) (S := S) (o := o) ha;cases d with
 | dat d => exact Rep.kp k d v r
 | cel n => exact r
 | cels ns => obtain ⟨a', as, e1, e2, e3, e4⟩ := r; exact ⟨a', as, e1, (k.old _ _ e3 e2).2, (k.old _ _ e3 e2).1, e4⟩
 | scr ns =>
  obtain ⟨a', e1, e2⟩ := r;refine ⟨a', e1, e2.keep fun o u h => ?_⟩
  rw [upd_ne]
  ·exact h
  ·intro e; subst e; rw [ha] at h; cases h
 | tc xs => obtain ⟨a', vs, e1, e2, e3⟩ := r; exact ⟨a', vs, e1, SqT.kp k.tup e2, e3.kp k (fun _ _ h => h)⟩
theorem RepF.plusPut {a : Addr} {acc : List L2.V} {o : HO} (ha : H a = some (.lst acc)) : ∀ {fs : List (Str × Vl)} {vs : List (Str × L2.V)}, RepF K (eF B a) φ S H fs vs -> RepF K (eF B a) φ S (upd H a o) fs vs
 | [], vs, r => r
 | f :: fs, vs, ⟨v, ws, e, h1, h2⟩ => ⟨v, ws, e, h1.plusPut ha, RepF.plusPut ha h2⟩
theorem GInv.plusPut {a : Addr} {acc : List L2.V} {o : HO} (I : GInv K (eF B a) φ S H) (ha : H a = some (.lst acc)) : GInv K (eF B a) φ S (upd H a o) where
 len := I.len
 ok := fun n c b h1 h2 => by
  have q := I.ok n c b h1 h2;have k := Kp.plusPut (B := B) (φ := φ) (S := S) (o := o) ha;have hb : c ≠ .dead -> upd H a o b = H b := fun hc => upd_ne fun e => by
   subst e;exact I.blk b ⟨n, c, h1, hc, h2⟩ (.inr rfl)
  cases c with
  | dead => trivial
  | lst ds => obtain ⟨vs, e, r⟩ := q; exact ⟨vs, by rw [hb (by simp)]; exact e, RepL.kp k ds vs r⟩
  | ins C fs => obtain ⟨dx, vs, e, r⟩ := q; exact ⟨dx, vs, by rw [hb (by simp)]; exact e, r.plusPut ha⟩
  | dct fs => obtain ⟨vs, e, r⟩ := q; exact ⟨vs, by rw [hb (by simp)]; exact e, r.plusPut ha⟩
  | lv xs => obtain ⟨vs, e, r⟩ := q; exact ⟨vs, by rw [hb (by simp)]; exact e, bY (RepV.plusPut ha) r⟩
  | dki ks xs => obtain ⟨vs, e, r⟩ := q; exact ⟨vs, by rw [hb (by simp)]; exact e, bY (RepV.plusPut ha) r⟩
  | dkt ks xs => obtain ⟨vs, e, r⟩ := q; exact ⟨vs, by rw [hb (by simp)]; exact e, bY (RepV.plusPut ha) r⟩
 inj := I.inj
 blk := I.blk
 btr := fun b h => by
  by_cases e : b = a
  ·subst e; exact ⟨o, upd_same⟩
  ·obtain ⟨u, h1⟩ := I.btr b h
   exact ⟨u, by rw [upd_ne e]; exact h1⟩
theorem RepV.plus {a : Addr} {o : HO} (I : GInv K B φ S H) (ha : H a = none) {d : Vl} {v : L2.V} (r : RepV K B φ S H d v) : RepV K (eF B a) φ S (upd H a o) d v := by
 have k : Kp (fG B φ S) H (fG (eF B a) φ S) (upd H a o) := Ext.kpB (B1 := eF B a) (fun _ h => .inl h) (fun b hb h => by
  rcases h with h | h
  ·exact h
  ·exact absurd (by rw [h]; exact ha) hb) I (Ext.new I ha)
 cases d with
 | dat d => exact Rep.kp k d v r
 | cel n => exact r
 | cels ns => obtain ⟨a', as, e1, e2, e3, e4⟩ := r; exact ⟨a', as, e1, (k.old _ _ e3 e2).2, (k.old _ _ e3 e2).1, e4⟩
 | scr ns => obtain ⟨a', e1, e2⟩ := r; exact ⟨a', e1, e2.keep fun o u h => by rw [upd_ne (ne_of_none h ha)]; exact h⟩
 | tc xs => obtain ⟨a', vs, e1, e2, e3⟩ := r; exact ⟨a', vs, e1, SqT.kp k.tup e2, e3.kp k (fun _ _ h => h)⟩
theorem RepE.plus {a : Addr} {o : HO} {ρ : Ev} (I : GInv K B φ S H) (ha : H a = none) (E : RepE K B φ S H ρ σ) : RepE K (eF B a) φ S (upd H a o) ρ σ :=
 ⟨E.1, fun i d h => by
  obtain ⟨v, h1, h2⟩ := E.2 i d h;exact ⟨v, h1, h2.plus I ha⟩⟩
theorem RepE.plusPut {a : Addr} {acc : List L2.V} {o : HO} {ρ : Ev} (ha : H a = some (.lst acc)) (E : RepE K (eF B a) φ S H ρ σ) : RepE K (eF B a) φ S (upd H a o) ρ σ :=
 ⟨E.1, fun i d h => by
  obtain ⟨v, h1, h2⟩ := E.2 i d h;exact ⟨v, h1, h2.plusPut ha⟩⟩
theorem Fin.done {cl : Bool} {a : Addr} {ds : List PH.D} {vs : List L2.V} {H0 : Hp} {φ0 : List Addr} {S0 : aK} (f : Fin K W σ (RepV K) B φ0 S0 H0 (PH.newL cl ds S) Q) (I : GInv K (eF B a) φ S H) (X0 : Ext φ0 S0 H0 φ S H) (h0 : H0 a = none) (nB : ¬ B a) (ha : H a = some (.lst vs)) (l : RepL K (fG (eF B a) φ S) H ds vs) : Q (.ref a) H := by
 have na : ¬ gJ φ S a := fun q => I.blk a q (.inr rfl)
 unfold PH.newL at f;cases cl with
 | false =>
  refine f φ _ H I.less X0 ⟨a, vs, rfl, fun q => ?_, ha, l.less⟩
  rcases q with q | q
  ·exact nB q
  ·exact na q
 | true =>
  have X1 : Ext φ0 S0 H0 (φ ++ [a]) (S ++ [.lst ds]) H := {
   old := fun b o h n => by
    obtain ⟨h1, h2⟩ := X0.old b o h n;refine ⟨h1, fun q => ?_⟩
    rcases (iD I.len).mp q with q | ⟨_, q⟩
    ·exact h2 q
    ·subst q; rw [h0] at h; cases h
   ids := fun n b h => by
    have := X0.ids n b h;rw [aJ (aH.mp this).1]; exact this }
  have hS : ∀ b, fG B (φ ++ [a]) (S ++ [.lst ds]) b -> fG (eF B a) φ S b := fun b q => by
   rcases q with q | q
   ·exact .inl (.inl q)
   ·rcases (iD I.len).mp q with q | ⟨_, q⟩
    ·exact .inr q
    ·exact .inl (.inr q)
  have k : Kp (fG (eF B a) φ S) H (fG B (φ ++ [a]) (S ++ [.lst ds])) H := ⟨fun b o h n => ⟨h, fun q => n (hS b q)⟩, fun _ _ h => h⟩
  have hφ : ∀ (n : Nat) (b : Addr), φ[n]? = some b -> (φ ++ [a])[n]? = some b := fun n b h => by rw [aJ (aH.mp h).1]; exact h
  have hV : ∀ {d : Vl} {v : L2.V}, RepV K (eF B a) φ S H d v -> RepV K B (φ ++ [a]) (S ++ [.lst ds]) H d v := fun {d v} r => by
   cases d with
   | dat d => exact Rep.kp k d v r
   | cel n => obtain ⟨b, e1, e2⟩ := r; exact ⟨b, e1, hφ _ _ e2⟩
   | cels ns => obtain ⟨a', as, e1, e2, e3, e4⟩ := r; exact ⟨a', as, e1, (k.old _ _ e3 e2).2, e3, vH hφ ns as e4⟩
   | scr ns => exact r
   | tc xs => obtain ⟨a', vs, e1, e2, e3⟩ := r; exact ⟨a', vs, e1, SqT.kp k.tup e2, e3.kp k hφ⟩
  have hF : ∀ {fs : List (Str × Vl)} {vs : List (Str × L2.V)}, RepF K (eF B a) φ S H fs vs -> RepF K B (φ ++ [a]) (S ++ [.lst ds]) H fs vs := fun {fs} => by
   induction fs with
   | nil => intro vs r; exact r
   | cons f fs ih => rintro vs ⟨v, ws, e, h1, h2⟩; exact ⟨v, ws, e, hV h1, ih h2⟩
  refine f (φ ++ [a]) _ H ?_ X1 ⟨a, rfl, by rw [<- I.len]; exact iB⟩
  exact {
   len := by simp [I.len]
   ok := fun n c b h1 h2 => by
    by_cases hn : n < S.length
    ·rw [aJ hn] at h1
     rw [aJ (by rw [I.len]; exact hn)] at h2
     have q := I.ok n c b h1 h2;cases c with
     | dead => trivial
     | lst es => obtain ⟨us, e, r⟩ := q; exact ⟨us, e, RepL.kp k es us r⟩
     | ins C fs => obtain ⟨dx, us, e, r⟩ := q; exact ⟨dx, us, e, hF r⟩
     | dct fs => obtain ⟨us, e, r⟩ := q; exact ⟨us, e, hF r⟩
     | lv xs => obtain ⟨us, e, r⟩ := q; exact ⟨us, e, bY hV r⟩
     | dki ks xs => obtain ⟨us, e, r⟩ := q; exact ⟨us, e, bY hV r⟩
     | dkt ks xs => obtain ⟨us, e, r⟩ := q; exact ⟨us, e, bY hV r⟩
    ·have e : n = S.length := by
      have := (aH.mp h1).1;simp at this;omega
     subst e;rw [bH (bN _)] at h1;rw [<- I.len, bH (bN _)] at h2;simp at h1 h2;subst h1 h2;exact ⟨vs, ha, RepL.kp k ds vs l⟩
   inj := fun n m c c' b h1 h2 h3 h4 h5 h6 => by
    have key : ∀ (n : Nat) (c : Cell), (S ++ [.lst ds])[n]? = some c -> (n < S.length /\ S[n]? = some c) \/ n = S.length := fun n c h => by
     by_cases hn : n < S.length
     ·rw [aJ hn] at h; exact .inl ⟨hn, h⟩
     ·have := (aH.mp h).1
      simp at this;exact .inr (by omega)
    have kφ : ∀ n : Nat, n < S.length -> (φ ++ [a])[n]? = φ[n]? := fun n hn => aJ (by rw [I.len]; exact hn)
    have kp : (φ ++ [a])[S.length]? = some a := by rw [<- I.len]; simp
    rcases key n c h1 with ⟨hn, e1⟩ | e1 <;> rcases key m c' h3 with ⟨hm, e2⟩ | e2
    ·rw [kφ n hn] at h5
     rw [kφ m hm] at h6;exact I.inj n m c c' b e1 h2 e2 h4 h5 h6
    ·subst e2
     rw [kp] at h6;cases h6;rw [kφ n hn] at h5;exact absurd ⟨n, c, e1, h2, h5⟩ na
    ·subst e1
     rw [kp] at h5;cases h5;rw [kφ m hm] at h6;exact absurd ⟨m, c', e2, h4, h6⟩ na
    ·omega
   blk := fun b h => by
    rcases (iD I.len).mp h with h | ⟨_, h⟩
    ·exact fun q => I.blk b h (.inl q)
    ·subst h; exact nB
   btr := fun b h => I.btr b (.inl h) }
end
section
variable {X : Cx} {W : WX} {e a b c : Expr} {es rest : List Expr} {pos p q p2 : Pos} {x y z : Str} {K : aB} {ma mb mc : FE} {mt mu : FT} {mas : FA} {mi mj : FI} {B : Addr -> Prop} {φ φ' : List Addr} {S S' : aK} {H H' : Hp} {σ : L2.St} {Q : VK} {m n : FS} {st : Stmt} {yK : List Stmt} {D : Ends} {t t1 : Tg}
def fJ : FT := fun _ S => .ok true S
theorem Ho {Q : Bool -> Hp -> Prop} (h : qU K W fJ σ H Q) : tYes σ H Q := by
 obtain ⟨B, φ, S, ρ, I, E, f⟩ := h;exact Fin.now (v := true) f I rfl
theorem Jf {es : List Expr} {t u : TT} (h : PTs X es t) (i : ∀ σ H Q, u σ H Q -> t σ H Q) : PTs X es u := ⟨fun pins s σ H Q I q => h.run pins s σ H Q I (i σ H Q q)⟩
theorem dE : PTs X [] (qU X.K W fJ) := Jf pts_nil fun σ H Q h => Ho h
theorem EC {c : Expr} (h : PT X c (qU X.K W mt)) : PTs X [c] (qU X.K W mt) := pts_one h
def jZ (t : Tg) (mt : FT) (me : FE) (ρ : Ev) : List PH.D -> aK -> Res (List PH.D)
 | [], S => .ok [] S
 | d :: r, S => match mU t (.dat d) ρ with
  | none => .stuck
  | some ρ1 => match mt ρ1 S with
   | .ok b S1 => if b = true then (match me ρ1 S1 with
     | .ok (.dat e) S2 => (match jZ t mt me ρ r S2 with
      | .ok es S3 => .ok (e :: es) S3
      | _ => .stuck)
     | _ => .stuck) else jZ t mt me ρ r S1
   | _ => .stuck
def Dw (cl : Bool) (mi : FI) (t : Tg) (mt : FT) (me : FE) (vs : List Nat) : FE := fun ρ S => (mi ρ S).bind fun ds S1 => if ds.length <= sizeLine then (match jZ t mt me (wipeE ρ vs) ds S1 with
 | .ok es S2 => newL cl es S2
 | _ => .stuck) else .stuck
theorem KL {cl : Bool} {me : FE} {vs : List Nat} (ht : ∀ i ∈ Hi t, i ∈ vs) (h : bU K W (Dw cl mi t mt me vs) σ H Q) : tLc (IE K W mi) (BZ K t) (qU K BV mt) (bU K BV me) vs σ H Q := by
 refine bJ (k := fun ds ρ S1 => if ds.length <= sizeLine then (match jZ t mt me (wipeE ρ vs) ds S1 with | .ok es S2 => newL cl es S2 | _ => .stuck) else .stuck) h fun B φ0 S0 ρ ds J H0 I0 E0 r f0 => ?_
 intro A hA;split at f0
 case isFalse => exact f0.elim
 rename_i hsz;cases q0 : jZ t mt me (wipeE ρ vs) ds S0 with
 | stuck => rw [q0] at f0; exact f0.elim
 | err e S' => rw [q0] at f0; exact f0.elim
 | ok es0 Sz =>
 rw [q0] at f0;have nB : ¬ B A := fun q => by obtain ⟨u, e⟩ := I0.btr A q; rw [hA] at e; cases e
 have IA : GInv K (eF B A) φ0 S0 (upd H0 A (.lst [])) := I0.plus hA;have b2 : ∀ a, H0 a ≠ none -> eF B A a -> B a := fun b hb h => by
  rcases h with h | h
  ·exact h
  ·exact absurd (by rw [h]; exact hA) hb
 -- what is known at a turn
 refine ⟨fun i k H' => i <= ds.length /\ k = ds.length - i /\ ∃ φ1 S1 us acc rest, GInv K (eF B A) φ1 S1 H' /\ Ext φ0 S0 H0 φ1 S1 H' /\ RepE K (eF B A) φ1 S1 H' (wipeE ρ vs) (wipe σ vs) /\ H' A = some (.lst us) /\ us.length <= i /\ RepL K (fG (eF B A) φ1 S1) H' acc us /\ jZ t mt me (wipeE ρ vs) (ds.drop i) S1 = .ok rest Sz /\ acc ++ rest = es0,
  ⟨_, zB _, rfl, φ0, S0, [], [], es0, IA, Ext.new I0 hA, (E0.wipes vs).plus I0 hA, upd_same, bN _, rfl, q0, rfl⟩, ?_⟩
 rintro i k H' ⟨hi, rfl, φ1, S1, us, acc, rs, I1, X1, E1, hA1, hul, l1, g1, ea⟩
 obtain ⟨hgo, hstop, hyld⟩ := r φ1 S1 H' (eF B A) I1 (X1.kpB (fun _ h => .inl h) b2 I0)
 by_cases hlt : i < ds.length
 ·refine .inr ⟨hgo i hlt, fun H2 => i + 1 <= ds.length /\ ∃ φ1 S1 us acc rest, GInv K (eF B A) φ1 S1 H2 /\ Ext φ0 S0 H0 φ1 S1 H2 /\ RepE K (eF B A) φ1 S1 H2 (wipeE ρ vs) (wipe σ vs) /\ H2 A = some (.lst us) /\ us.length <= i + 1 /\ RepL K (fG (eF B A) φ1 S1) H2 acc us /\ jZ t mt me (wipeE ρ vs) (ds.drop (i + 1)) S1 = .ok rest Sz /\ acc ++ rest = es0, fun H2 ⟨h1, h2⟩ => ⟨ds.length - (i + 1), by omega, h1, rfl, h2⟩, fun x H2 y => ?_⟩
  have hd : ds[i]? = some ds[i] := by simp [hlt]
  obtain ⟨I2, X2, r2⟩ := hyld i x H2 ds[i] hd y;rw [bW hlt] at g1;unfold jZ at g1;split at g1
  case h_1 => cases g1
  rename_i ρ2 q2;have hA2 := (X2.old A _ hA1 fun q => I1.blk A q (.inr rfl)).1
  refine rE (E1.ext X2 I1) (d := .dat ds[i]) r2 q2 fun ws E3 => ⟨by rw [qD ht, qC], eF B A, φ1, S1, ρ2, I2, E3, ?_⟩
  split at g1
  case h_2 => cases g1
  rename_i b S3 q3;rw [q3];intro φ3 b' H3 I3 X3 rb;have rb : b' = b := rb;subst rb;have hA3 := (X3.old A _ hA2 fun q => I2.blk A q (.inr rfl)).1
  have Xa := X1.trans (X2.trans X3);cases b' with
  | false =>
   exact ⟨hlt, φ3, S3, us, acc, rs, I3, Xa, (E1.ext X2 I1).ext X3 I2, hA3, Nat.le_succ_of_le hul, X3.repL I2 (X2.repL I1 l1), g1, ea⟩
  | true =>
   rw [if_pos rfl];rw [if_pos rfl] at g1;refine ⟨eF B A, φ3, S3, ρ2, I3, E3.ext X3 I2, ?_⟩
   split at g1
   case h_2 => cases g1
   rename_i e S4 q4;rw [q4];intro φ4 v4 H4 I4 X4 r4;have hA4 := (X4.old A _ hA3 fun q => I3.blk A q (.inr rfl)).1
   split at g1
   case h_2 => cases g1
   rename_i es S5 q5;cases g1;have l4 : RepL K (fG (eF B A) φ4 S4) H4 (acc ++ [e]) (us ++ [v4]) := (X4.repL I3 (X3.repL I2 (X2.repL I1 l1))).snoc r4;refine ⟨us, hA4, by omega, hlt, φ4, S4, us ++ [v4], acc ++ [e], es, I4.plusPut hA4, ?_, (((E1.ext X2 I1).ext X3 I2).ext X4 I3).plusPut hA4, upd_same, by simp; omega, RepL.kp (Kp.plusPut hA4) _ _ l4, q5, by rw [<- ea]; simp⟩
   exact ⟨fun b o h nb => by
    obtain ⟨h1, h2⟩ := (Xa.trans X4).old b o h nb;exact ⟨by rw [upd_ne (fun e => by subst e; rw [hA] at h; cases h)]; exact h1, h2⟩, (Xa.trans X4).ids⟩
 ·have e : i = ds.length := by omega
  subst e;rw [oY] at g1;cases g1;rw [cL] at ea;subst ea;exact .inl ⟨hstop, Fin.done f0 I1 X1 hA nB hA1 l1⟩
theorem xO {cl : Bool} {me : FE} {elt tg iter : Expr} {ifs : List Expr} {scope : Scope} {own : List (Str × Nat)} (hc : X.calm = true) (hN : X.N.Nodup) (hi : PI X tg iter (IE X.K W mi)) (ok : BlkOk X.N X.env.scope scope own)
  (hg : ∀ (s : Shared) (H : Hp) (C : Addr) (cl : List (Str × Addr)) (fp : List Addr), PG (X.blk s H scope (compEnvC scope cl C X.env) fp) tg (BZ X.K t)) (ht : ∀ (s : Shared) (H : Hp) (C : Addr) (cl : List (Str × Addr)) (fp : List Addr), PTs (X.blk s H scope (compEnvC scope cl C X.env) fp) ifs (qU X.K BV mt))
  (he : ∀ (s : Shared) (H : Hp) (C : Addr) (cl : List (Str × Addr)) (fp : List Addr), PE (X.blk s H scope (compEnvC scope cl C X.env) fp) elt (bU X.K BV me)) (hs : ∀ x, foldedSetIterable iter X.env x = pure x := by intro _; rfl) (hv : ∀ i ∈ Hi t, i ∈ own.map (·.2) := by decide) :
  PE X (.ListComp elt [⟨tg, iter, ifs, 0⟩] scope pos) (bU X.K W (Dw cl mi t mt me (own.map (·.2)))) := bP (pe_lc hc hN hi ok hg ht he hs) fun σ H Q h => KL hv h
end
section
variable {X : Cx} {W : WX} {e a b c o i : Expr} {es rest : List Expr} {pos p q p2 tpos apos cpos : Pos} {x y z : Str} {K : aB} {ma mb mc mo mx : FE} {mt mt1 mu : FT} {mas : FA} {mi mj : FI} {B : Addr -> Prop} {φ φ' : List Addr} {S S' : aK} {H H' : Hp} {σ : L2.St} {Q : VK} {m n : FS} {st : Stmt} {yK : List Stmt} {D : Ends} {t t1 : Tg}
def CM (x y : Vl) (S : aK) : Res Vl := match x, y with
 | .cel n, .dat d => (match S[n]? with
  | some (.lst ds) => if ds.length < sizeLine then .ok (.dat .non) (S.set n (.lst (ds ++ [d]))) else .stuck
  | _ => .stuck)
 | _, _ => .stuck
theorem HN {n : Nat} {ds ds' : List PH.D} {v v' : L2.V} {d' : Vl} {vs vs' : List L2.V} {a : Addr} (I : GInv K B φ S H) (hn : S[n]? = some (.lst ds)) (ha : φ[n]? = some a) (l : RepL K (fG B φ S) H ds' vs') (r : RepV K B φ S H d' v')
  (f : Fin K W σ (RepV K) B φ S H (.ok d' (S.set n (.lst ds'))) Q) : Q v' (upd H a (.lst vs')) := by
 have X1 := Ext.put (H := H) (o := .lst vs') (x := .lst ds') hn (by simp) ha (by simp)
 have I1 : GInv K B φ (S.set n (.lst ds')) (upd H a (.lst vs')) := I.put hn (by simp) ha (by simp) ⟨vs', upd_same, X1.repL I l⟩
 exact f φ v' _ I1 X1 (r.ext X1 I)
theorem Kc : ∀ {x : L2.V} {y : L2.V} {d e : Vl}, GInv K B φ S H -> RepV K B φ S H d x -> RepV K B φ S H e y -> Fin K W σ (RepV K) B φ S H (CM d e S) Q -> EN x [y] H Q := fun {x y d e} I r1 r2 f => by
 unfold CM at f;split at f
 ·rename_i n d
  obtain ⟨a, rfl, h1⟩ := r1;split at f
  ·rename_i ds q
   obtain ⟨vs, h2, l⟩ := I.ok n _ a q h1;split at f
   ·rename_i hl
    exact ⟨vs, h2, by rw [l.len]; exact hl, HN (v := .non) (v' := .non) (d' := .dat .non) (vs := vs) I q h1 (l.snoc r2) rfl f⟩
   ·exact f.elim
  ·exact f.elim
 ·exact f.elim
theorem MI {d e : Vl} {v : L2.V} (I : GInv K B φ S H) (r : RepV K B φ S H d v) (h : ∃ ds, lO S d = some ds) : tyV K "list" v H := by
 obtain ⟨ds, q⟩ := h;obtain ⟨a, vs, rfl, h1, l⟩ := jN I q r;exact .inl ⟨rfl, vs, SqL.of h1⟩
def Kn (a b : FE) : FE := fun ρ S => (a ρ S).bind fun x S1 => match lO S1 x with
 | some _ => (b ρ S1).bind fun y S2 => CM x y S2
 | none => .stuck
theorem f_app (ha : PE X a (bU X.K W ma)) (hb : PE X b (bU X.K W mb)) (hs : starEach [b] X.env = (false, eval b X.env) :: starEach [] X.env := by rfl) (hbase : attributeBase a "append" X.env (eval a X.env) = eval a X.env := by rfl) (hline : (apos.endLine == cpos.line) = true := by rfl)
  (hfew : ((backTo cpos (starEach [b] X.env)).all (fun x => !x.1) && (backToKw cpos (keywordEach [] X.env)).all (fun x => x.1.isSome)
   && decide ([b].length + ([] : List Keyword).length + (if ([] : List Keyword).isEmpty then 0 else 1) < 30)) = true := by rfl)
  (hpl : (backTo cpos (starEach ([] : List Expr) X.env)).any (·.1) = false := by rfl) : PE X (.Call (.Attribute a "append" apos) [b] [] cpos) (bU X.K W (Kn ma mb)) :=
 bP (pe_bm PySem.F.plainAttrs_list PySem.F.slot_list_append PySem.F.type_list_append wW ha (pa_cons hb pa_nil hs) hbase hfew hline hs hpl) fun σ H Q h =>
  bJ (k := fun x ρ S1 => match lO S1 x with | some _ => (mb ρ S1).bind fun y S2 => CM x y S2 | none => .stuck) h fun B φ S ρ d v H1 I E r f => by
   split at f
   ·rename_i ds q
    exact ⟨MI (e := d) I r ⟨ds, q⟩, gP I E f fun φ' S' d2 v2 H2 I2 X2 E2 r2 f2 => Kc I2 (r.ext X2 I) r2 f2⟩
   ·exact f.elim
def fPop (x : Vl) (S : aK) : Res Vl := match x with
 | .cel n => (match S[n]? with
  | some (.lst ds) => (match ds[ds.length - 1]? with
   | some d => .ok (.dat d) (S.set n (.lst ds.dropLast))
   | none => .stuck)
  | _ => .stuck)
 | _ => .stuck
def setC (x : Vl) (k : Int) (d : PH.D) (S : aK) : Option aK := match x with
 | .cel n => (match S[n]? with
  | some (.lst ds) => if 0 <= k /\ k.toNat < ds.length then some (S.set n (.lst (ds.set k.toNat d))) else none
  | _ => none)
 | _ => none
theorem Dg {x : Vl} {k : Int} {d : PH.D} {v u : L2.V} {Qh : Hp -> Prop} (I : GInv K B φ S H) (r : RepV K B φ S H x v) (rd' : Rep K (fG B φ S) H d u) (h : setC x k d S = some S') (q : ∀ H', GInv K B φ S' H' -> Ext φ S H φ S' H' -> Qh H') : EK v (.int k) u H Qh := by
 unfold setC at h;split at h
 ·rename_i n
  obtain ⟨a, rfl, h1⟩ := r;split at h
  ·rename_i ds q1
   split at h
   ·rename_i hk
    cases h;obtain ⟨vs, h2, l⟩ := I.ok n _ a q1 h1;have X1 := Ext.put (H := H) (o := .lst (vs.set k.toNat u)) (x := .lst (ds.set k.toNat d)) q1 (by simp) h1 (by simp)
    exact ⟨vs, h2, hk.1, by rw [l.len]; exact hk.2, q _ (I.put q1 (by simp) h1 (by simp) ⟨_, upd_same, X1.repL I (l.set rd' _)⟩) X1⟩
   ·cases h
  ·cases h
 ·cases h
def Dt (a o i : FE) : FS := fun ρ S => (a ρ S).toS ρ fun v S1 => (o ρ S1).toS ρ fun x S2 => (i ρ S2).toS ρ fun k S3 => match v, k with
 | .dat d, .dat (.int k) => (match setC x k d S3 with
  | some S4 => .next ρ S4
  | none => .stuck)
 | _, _ => .stuck
theorem JP (ha : PE X a (bU X.K W ma)) (ho : PE X o (bU X.K W mo)) (hi : PE X i (bU X.K W mx)) (hs : swapsWithSole [.Subscript o i tpos] a pos.line X.env = pure false := by rfl) (hw : swappedStores [.Subscript o i tpos] a X.env = pure none := by rfl)
  (h1 : (assignEach [.Subscript o i tpos] X.env).map (·.2) = [assign (.Subscript o i tpos) X.env] := by rfl)
  (hz : ∀ v, assign (.Subscript o i tpos) X.env v = (do
   let ov <- holding [v] (eval o X.env)
   let iv <- holding [v, ov] (eval i X.env)
   standAt tpos
   holding [v, ov, iv] (setItem ov iv v)
   release [v, ov, iv] []) := by intro _; rfl) : PS X (.Assign [.Subscript o i tpos] a pos) (lC X.K W (Dt ma mo mx)) := iT (ps_asg ha (pg_sub ho hi zF hz) hs hw h1) fun D σ H h => by
 obtain ⟨B, φ, S, ρ, I, E, f⟩ := h;refine cJ I E f fun φ1 S1 d1 v1 H1 I1 X1 E1 r1 f1 => cJ I1 E1 f1 fun φ2 S2 d2 v2 H2 I2 X2 E2 r2 f2 => cJ I2 E2 f2 fun φ3 S3 d3 v3 H3 I3 X3 E3 r3 f3 => ?_
 split at f3
 ·rename_i d k
  cases r3;split at f3
  ·rename_i S4 q
   exact Dg I3 (r2.ext X3 I2) ((r1.ext X2 I1).ext X3 I2) q fun H' I' X' => f3 φ3 σ H' I' X' (E3.ext X' I3)
  ·exact f3.elim
 ·exact f3.elim
def GV (x : Vl) (k : Int) (S : aK) : Option PH.D := match x with
 | .cel n => (match S[n]? with
  | some (.lst ds) => if 0 <= k then ds[k.toNat]? else none
  | _ => none)
 | _ => none
theorem Im {x : Vl} {k : Int} {d : PH.D} {v : L2.V} {Q' : VK} (I : GInv K B φ S H) (r : RepV K B φ S H x v) (h : GV x k S = some d) (q : ∀ u, Rep K (fG B φ S) H d u -> Q' u H) : EM v (.int k) H Q' := by
 unfold GV at h;split at h
 ·rename_i n
  obtain ⟨a, rfl, h1⟩ := r;split at h
  ·rename_i ds q1
   split at h
   ·rename_i hk
    obtain ⟨vs, h2, l⟩ := I.ok n _ a q1 h1;obtain ⟨u, h3, h4⟩ := l.get h;exact ⟨vs, u, h2, hk, h3, q u h4⟩
   ·cases h
  ·cases h
 ·cases h
def iK (g : Int -> Int -> Int) (o i e : FE) : FS := fun ρ S => (o ρ S).toS ρ fun x S1 => (i ρ S1).toS ρ fun k S2 => match k with
 | .dat (.int k) => (match GV x k S2 with
  | some (.int u) => (e ρ S2).toS ρ fun w S3 => (match w with
   | .dat (.int w) => (match setC x k (.int (g u w)) S3 with
    | some S4 => .next ρ S4
    | none => .stuck)
   | _ => .stuck)
  | _ => .stuck)
 | _ => .stuck
theorem Bb {g : Int -> Int -> Int} {r : R2} {me : FE} (hr : ∀ i j H Q, Q (.int (g i j)) H -> r (.int i) (.int j) H Q) (h : lC K W (iK g mo mx me) D σ H) : tAugS (bU K W mo) (bU K W mx) (bU K W me) EM (cIp r) EK D σ H := by
 obtain ⟨B, φ, S, ρ, I, E, f⟩ := h;refine cJ I E f fun φ1 S1 d1 v1 H1 I1 X1 E1 r1 f1 => cJ I1 E1 f1 fun φ2 S2 d2 v2 H2 I2 X2 E2 r2 f2 => ?_
 split at f2
 ·rename_i k
  cases r2;split at f2
  ·rename_i u q
   refine Im I2 (r1.ext X2 I1) q fun u' ru => ?_
   cases ru;refine cJ I2 E2 f2 fun φ3 S3 d3 v3 H3 I3 X3 E3 r3 f3 => ?_
   split at f3
   ·rename_i w
    cases r3;split at f3
    ·rename_i S4 q4
     refine hr _ _ _ _ ?_
     exact Dg I3 ((r1.ext X2 I1).ext X3 I2) (d := .int (g u w)) rfl q4 fun H' I' X' => f3 φ3 σ H' I' X' (E3.ext X' I3)
    ·exact f3.elim
   ·exact f3.elim
  ·exact f2.elim
 ·exact f2.elim
theorem DI {me : FE} (ho : PE X o (bU X.K W mo)) (hi : PE X i (bU X.K W mx)) (he : PE X e (bU X.K W me)) (ha : ∀ ov iv new, augStore i ov iv new = (do holding [new, ov, iv] (setItem ov iv new); release [new, ov, iv] []; pure .next) := by intros; rfl) : PS X (.AugAssign (.Subscript o i tpos) .Add e pos) (lC X.K W (iK (fun x y => x + y) mo mx me)) :=
 iT (Fq ho hi he E7 ha) fun D σ H h => Bb (fun _ _ _ _ q => q) h
theorem lL {me : FE} (ho : PE X o (bU X.K W mo)) (hi : PE X i (bU X.K W mx)) (he : PE X e (bU X.K W me)) (ha : ∀ ov iv new, augStore i ov iv new = (do holding [new, ov, iv] (setItem ov iv new); release [new, ov, iv] []; pure .next) := by intros; rfl) : PS X (.AugAssign (.Subscript o i tpos) .Sub e pos) (lC X.K W (iK (fun x y => x - y) mo mx me)) :=
 iT (Fq ho hi he Ie ha) fun D σ H h => Bb (fun _ _ _ _ q => q) h
def G8 (g : Int -> Int -> Int) (k : Nat) (e : FE) : FS := fun ρ S => match lk ρ k with
 | some (.dat (.int u)) => (e ρ S).toS ρ fun w S1 => (match w with
  | .dat (.int w) => .next (ρ.set k (some (.dat (.int (g u w))))) S1
  | _ => .stuck)
 | _ => .stuck
theorem Hv {g : Int -> Int -> Int} {k : Nat} {r : R2} {me : FE} (hr : ∀ i j H Q, Q (.int (g i j)) H -> r (.int i) (.int j) H Q) (h : lC K W (G8 g k me) D σ H) : tAug k (bU K W me) (cIp r) D σ H := by
 obtain ⟨B, φ, S, ρ, I, E, f⟩ := h;unfold G8 at f;split at f
 ·rename_i u q
  obtain ⟨v, h1, h2⟩ := E.2 k _ (G9 q);cases h2;refine ⟨_, h1, cJ I E f fun φ3 S3 d3 v3 H3 I3 X3 E3 r3 f3 => ?_⟩
  split at f3
  ·cases r3
   exact hr _ _ _ _ (f3 φ3 _ H3 I3 Ext.refl (E3.set (d := .dat (.int (g _ _))) (v := .int (g _ _)) rfl k))
  ·exact f3.elim
 ·exact f.elim
theorem F8 {k : Nat} {me : FE} {pos' : Pos} (hN : X.N.Nodup) (hi : X.N[k]? = some x) (hx : Loc X.env.scope x) (he : PE X e (bU X.K W me)) (hf : X.fn x = true \/ X.env.scope.names.lookup x = some .local := by first | exact .inl rfl | exact .inr rfl | assumption) : PS X (.AugAssign (.Name x pos') .Add e pos) (lC X.K W (G8 (fun x y => x + y) k me)) :=
 iT (ps_aug hN hi hx he E7 hf) fun D σ H h => Hv (fun _ _ _ _ q => q) h
end
abbrev FD := List Vl -> aK -> Res Vl
def spF (K : aB) (m : FD) : Sp := fun vs H Q E => ∃ B φ S ds, GInv K B φ S H /\ RepVs K B φ S H ds vs /\ Fin K (fun c x _ H => E c x H) [] (RepV K) B φ S H (m ds S) Q
section
variable {X : Cx} {W : WX} {e a b c o i : Expr} {es rest : List Expr} {pos p q p2 tpos apos cpos : Pos} {x y z : Str} {K : aB} {ma mb mc mo mx : FE} {mt mt1 mu : FT} {mas : FA} {mi mj : FI} {B : Addr -> Prop} {φ φ' : List Addr} {S S' : aK} {H H' : Hp} {σ : L2.St} {Q : VK} {m n : FS} {st : Stmt} {yK : List Stmt} {D : Ends} {t t1 : Tg} {ps : List Str} {md : FD} {j k : Nat}
theorem Fin.toE {r : Res Vl} (f : Fin K W σ (RepV K) B φ S H r Q) : Fin K (fun c x _ H => WE W σ c x H) [] (RepV K) B φ S H r Q := by
 cases r with
 | ok d S' => exact f
 | err e S' => exact f
 | stuck => exact f
def aR (md : FD) (as : FA) : FE := fun ρ S => (as ρ S).bind md
theorem aO (F : lN X.prog X.w X.K X.mg X.base j x ps (spF X.K md)) (hr : Room k X.A) (tk : Takes X W) (ha : PA X (e :: es) (Fc X.K W mas)) (hjk : j <= k := by decide) (hg : Gl X x := by rfl) (hdb : (x == ("__debug__" : Str)) = false := by decide)
  (he : starEach (e :: es) X.env = (false, eval e X.env) :: starEach es X.env := by rfl) (hpl : (backTo pos (starEach es X.env)).any (·.1) = false := by rfl) : PE X (.Call (.Name x p) (e :: es) [] pos) (bU X.K W (aR md mas)) := by
 obtain ⟨fd, F, hm, hk, hb⟩ := F;refine bP (pe_callS (E := WE W) F (hr.mono hjk) hg hm hk hb (fun σ => passAt tk σ) ha hdb he hpl) fun σ H Q h => ?_
 exact bJ (k := fun ds _ S => md ds S) h fun B φ S ρ d v H1 I E r f => ⟨B, φ, S, d, I, r, f.toE⟩
mutual
def Cd (n : Nat) : TIt -> Bool
 | .inl _ => true
 | .inr m => decide (m < n)
 | .tup xs => xE n xs
def xE (n : Nat) : List TIt -> Bool
 | [] => true
 | x :: xs => Cd n x && xE n xs
end
theorem C3 {n : Nat} : ∀ xs : List TIt, xE n xs = xs.all (Cd n)
 | [] => by simp [xE]
 | x :: xs => by rw [xE, C3 xs, iF]
def Vl.below (n : Nat) : Vl -> Bool
 | .dat _ => true
 | .cel m => decide (m < n)
 | .cels ms => ms.all fun m => decide (m < n)
 | .scr _ => true
 | .tc xs => xs.all (Cd n)
def Cell.below (n : Nat) : Cell -> Bool
 | .dead => true
 | .lst _ => true
 | .ins _ fs => fs.all fun f => f.2.below n
 | .dct fs => fs.all fun f => f.2.below n
 | .lv xs => xs.all fun x => x.below n
 | .dki _ xs => xs.all fun x => x.below n
 | .dkt _ xs => xs.all fun x => x.below n
mutual
theorem C4 {m n : Nat} (h : m <= n) : ∀ x : TIt, Cd m x = true -> Cd n x = true
 | .inl _, _ => by rw [Cd]
 | .inr k, q => by
  rw [Cd, decide_eq_true_eq] at q ⊢;omega
 | .tup xs, q => by
  rw [Cd] at q ⊢;exact zZ h xs q
theorem zZ {m n : Nat} (h : m <= n) : ∀ xs : List TIt, xE m xs = true -> xE n xs = true
 | [], _ => by rw [xE]
 | x :: xs, q => by
  rw [xE, dM] at q ⊢;exact ⟨C4 h x q.1, zZ h xs q.2⟩
end
def trunc (n : Nat) (r : Res Vl) : Res Vl := match r with
 | .ok d S => if d.below n && ((S.take n).all fun c => c.below n) then .ok d (S.take n) else .stuck
 | .err e S => if (S.take n).all fun c => c.below n then .err e (S.take n) else .stuck
 | .stuck => .stuck
def bQ : Out -> Res Vl
 | .ret d S => .ok d S
 | .next _ S => .ok (.dat .non) S
 | .err e _ S => .err e S
 | _ => .stuck
def envOf (n : Nat) (ds : List Vl) : Ev := ds.map some ++ mS (n - ds.length) none
def run (n np : Nat) (mb : FS) : FD := fun ds S => if ds.length = np then bQ (mb (envOf n ds) S) else .stuck
def Bn (n np : Nat) (mb : FS) : FD := fun ds S => if ds.length = np then trunc S.length (bQ (mb (envOf n ds) S)) else .stuck
theorem rV {α : Type} {n m : Nat} {l : List α} (h : m < n) : (l.take n)[m]? = l[m]? := by
 rw [fC, if_pos h]
theorem hQ {n : Nat} {a : Addr} (h : gJ (φ.take n) (S.take n) a) : gJ φ S a := by
 obtain ⟨m, c, h1, h2, h3⟩ := h;rw [fC] at h1 h3
 by_cases hm : m < n
 ·rw [if_pos hm] at h1 h3; exact ⟨m, c, h1, h2, h3⟩
 ·rw [if_neg hm] at h1; cases h1
mutual
theorem RepI.takeN {n : Nat} {K : aB} {Bk Bk' : Addr -> Prop} {φ : List Addr} {H : Hp} (k : Kp Bk H Bk' H) : ∀ {x : TIt} {v : L2.V}, RepI K Bk φ H x v -> Cd n x = true -> RepI K Bk' (φ.take n) H x v
 | .inl d, v, r, _ => Rep.kp k d v r
 | .inr m, v, ⟨b, q1, q2⟩, h => ⟨b, q1, by rw [Cd] at h; rw [rV (of_decide_eq_true h)]; exact q2⟩
 | .tup xs, v, ⟨a, vs, h1, h2, h3⟩, h => ⟨a, vs, h1, SqT.kp k.tup h2, RepIs.takeM k h3 (by rw [Cd] at h; exact h)⟩
theorem RepIs.takeM {n : Nat} {K : aB} {Bk Bk' : Addr -> Prop} {φ : List Addr} {H : Hp} (k : Kp Bk H Bk' H) : ∀ {xs : List TIt} {vs : List L2.V}, RepIs K Bk φ H xs vs -> xE n xs = true -> RepIs K Bk' (φ.take n) H xs vs
 | [], vs, r, _ => r
 | x :: xs, vs, ⟨v, ws, e, h1, h2⟩, h => by
  rw [xE, dM] at h;exact ⟨v, ws, e, RepI.takeN k h1 h.1, RepIs.takeM k h2 h.2⟩
end
theorem RepIs.takeN {n : Nat} {K : aB} {Bk Bk' : Addr -> Prop} {φ : List Addr} {H : Hp} (k : Kp Bk H Bk' H) {xs : List TIt} {vs : List L2.V} (r : RepIs K Bk φ H xs vs) (h : xs.all (Cd n) = true) : RepIs K Bk' (φ.take n) H xs vs := RepIs.takeM k r (by rw [C3]; exact h)
theorem RepV.take {n : Nat} {d : Vl} {v : L2.V} (r : RepV K B φ S H d v) (h : d.below n = true) : RepV K B (φ.take n) (S.take n) H d v := by
 have k : Kp (fG B φ S) H (fG B (φ.take n) (S.take n)) H := ⟨fun b o h nb => ⟨h, fun q => nb (by
  rcases q with q | q
  ·exact .inl q
  ·exact .inr (hQ q))⟩, fun _ _ h => h⟩
 cases d with
 | dat d => exact Rep.kp k d v r
 | cel m =>
  obtain ⟨a, e, h1⟩ := r;exact ⟨a, e, by rw [rV (of_decide_eq_true h)]; exact h1⟩
 | cels ms =>
  obtain ⟨a, as, e1, e2, e3, e4⟩ := r;refine ⟨a, as, e1, (k.old _ _ e3 e2).2, e3, ?_⟩
  rw [<- e4]
  apply tH
  intro m hm;exact rV (of_decide_eq_true (aW.mp h m hm))
 | scr ns => exact r
 | tc xs => obtain ⟨a, vs, e1, e2, e3⟩ := r; exact ⟨a, vs, e1, SqT.kp k.tup e2, RepIs.takeN k e3 h⟩
theorem RepF.take {n : Nat} : ∀ {fs : List (Str × Vl)} {vs : List (Str × L2.V)}, RepF K B φ S H fs vs -> (fs.all fun f => f.2.below n) = true -> RepF K B (φ.take n) (S.take n) H fs vs
 | [], vs, r, _ => r
 | f :: fs, vs, ⟨v, ws, e, h1, h2⟩, h => by
  simp only [iF, dM] at h;exact ⟨v, ws, e, h1.take h.1, RepF.take h2 h.2⟩
theorem RepVs.take {n : Nat} : ∀ {fs : List Vl} {vs : List L2.V}, RepVs K B φ S H fs vs -> (fs.all fun f => f.below n) = true -> RepVs K B (φ.take n) (S.take n) H fs vs
 | [], vs, r, _ => r
 | f :: fs, vs, ⟨v, ws, e, h1, h2⟩, h => by
  simp only [iF, dM] at h;exact ⟨v, ws, e, h1.take h.1, RepVs.take h2 h.2⟩
theorem GInv.take {n : Nat} (I : GInv K B φ S H) (h : ((S.take n).all fun c => c.below n) = true) : GInv K B (φ.take n) (S.take n) H where
 len := by rw [List.length_take, List.length_take, I.len]
 ok := fun m c a h1 h2 => by
  have hc := aW.mp h c (rR h1);rw [fC] at h1 h2
  by_cases hm : m < n
  ·rw [if_pos hm] at h1 h2
   have q := I.ok m c a h1 h2;have k : Kp (fG B φ S) H (fG B (φ.take n) (S.take n)) H := ⟨fun b o h nb => ⟨h, fun q => nb (by
    rcases q with q | q
    ·exact .inl q
    ·exact .inr (hQ q))⟩, fun _ _ h => h⟩
   cases c with
   | dead => trivial
   | lst ds => obtain ⟨vs, e, r⟩ := q; exact ⟨vs, e, RepL.kp k ds vs r⟩
   | ins C fs => obtain ⟨dx, vs, e, r⟩ := q; exact ⟨dx, vs, e, r.take hc⟩
   | dct fs => obtain ⟨vs, e, r⟩ := q; exact ⟨vs, e, r.take hc⟩
   | lv xs => obtain ⟨vs, e, r⟩ := q; exact ⟨vs, e, r.take hc⟩
   | dki ks xs => obtain ⟨vs, e, r⟩ := q; exact ⟨vs, e, r.take hc⟩
   | dkt ks xs => obtain ⟨vs, e, r⟩ := q; exact ⟨vs, e, r.take hc⟩
  ·rw [if_neg hm] at h1; cases h1
 inj := fun i j d d' b h1 h2 h3 h4 h5 h6 => by
  rw [fC] at h1 h3 h5 h6
  by_cases hi : i < n
  ·by_cases hj : j < n
   ·rw [if_pos hi] at h1 h5
    rw [if_pos hj] at h3 h6;exact I.inj i j d d' b h1 h2 h3 h4 h5 h6
   ·rw [if_neg hj] at h3; cases h3
  ·rw [if_neg hi] at h1; cases h1
 blk := fun b h => I.blk b (hQ h)
 btr := I.btr
theorem Ext.take {n : Nat} {φ0 : List Addr} {S0 : aK} {H0 : Hp} (x : Ext φ0 S0 H0 φ S H) (hn : φ0.length <= n) : Ext φ0 S0 H0 (φ.take n) (S.take n) H :=
 ⟨fun b o h nb => ⟨(x.old b o h nb).1, fun q => (x.old b o h nb).2 (hQ q)⟩, fun m a h => by
  have := (aH.mp h).1;rw [rV (by omega)]
  exact x.ids m a h⟩
theorem Fin.trunc {r : Res Vl} {n : Nat} (f : Fin K W σ (RepV K) B φ S H (PH.trunc n r) Q) (I : GInv K B φ S H) (hn : n = S.length) : Fin K W σ (RepV K) B φ S H r Q := by
 have hl : φ.length <= n := by rw [hn, I.len]; exact bN _
 cases r with
 | ok d S' =>
  unfold PH.trunc at f;dsimp only at f;split at f
  ·rename_i h
   obtain ⟨h1, h2⟩ := FZ.mp h;exact fun φ' v H' I' X' r' => f (φ'.take n) v H' (I'.take h2) (X'.take hl) (r'.take h1)
  ·exact f.elim
 | err e S' =>
  unfold PH.trunc at f;dsimp only at f;split at f
  ·rename_i h
   refine fun φ' c x H' I' X' r' => f (φ'.take n) c x H' (I'.take h) (X'.take hl) ⟨r'.1, ?_⟩
   rcases r'.2 with h0 | ⟨d, vs, e1, e2, e3⟩
   ·exact .inl h0
   ·refine .inr ⟨d, vs, e1, e2, RepL.kp ⟨fun b o h nb => ⟨h, fun q => nb (by
     rcases q with q | q
     ·exact .inl q
     ·exact .inr (hQ q))⟩, fun _ _ h => h⟩ _ _ e3⟩
  ·exact f.elim
 | stuck => exact f
theorem HK {ds : List Vl} {vs : List L2.V} {N : List Str} (r : RepVs K B φ S H ds vs) : RepE K B φ S H (envOf N.length ds) (start N vs) := by
 have hl := r.len;have hg : ∀ {ds : List Vl} {vs : List L2.V}, RepVs K B φ S H ds vs -> ∀ (i : Nat) (d : Vl), ds[i]? = some d -> ∃ v, vs[i]? = some v /\ RepV K B φ S H d v := fun {ds} => by
  induction ds with
  | nil => intro vs r i d h; simp at h
  | cons d ds ih =>
   rintro vs ⟨v, ws, e, h1, h2⟩ i d' h
   subst e;cases i with
   | zero => simp at h; subst h; exact ⟨v, rfl, h1⟩
   | succ i =>
    obtain ⟨v', h3, h4⟩ := ih h2 i d' (by simpa using h)
    exact ⟨v', by simpa using h3, h4⟩
 unfold envOf L2.start;refine ⟨by simp [hl], fun i d h => ?_⟩
 by_cases hi : i < ds.length
 ·rw [aJ (by simpa using hi)] at h
  rw [aJ (by simp [hl, hi])]
  rw [cG] at h ⊢;cases q : ds[i]? with
  | none => rw [q] at h; cases h
  | some d' =>
   rw [q] at h;have : d' = d := by simpa using h
   subst this;obtain ⟨v, h1, h2⟩ := hg r i d' q;exact ⟨v, by rw [h1]; rfl, h2⟩
 ·rw [bH (by simpa using pA hi)] at h
  rw [Cf] at h;split at h <;> cases h
theorem CI {mb : FS} {E : XK} {ds : List Vl} {vs : List L2.V} {N : List Str} (I : GInv K B φ S H) (r : RepVs K B φ S H ds vs) (f : Fin K (fun c x _ H => E c x H) [] (RepV K) B φ S H (bQ (mb (envOf N.length ds) S)) Q) : lC K (fun c x _ H => E c x H) mb { nx := fun _ H' => Q .non H', rt := Q } (start N vs) H := by
 refine ⟨B, φ, S, envOf N.length ds, I, HK r, ?_⟩
 unfold bQ at f;cases q : mb (envOf N.length ds) S with
 | next ρ' S' => rw [q] at f; exact fun φ' σ' H' I' X' _ => f φ' _ H' I' X' rfl
 | ret d S' => rw [q] at f; exact f
 | brk ρ' S' => rw [q] at f; exact f.elim
 | cnt ρ' S' => rw [q] at f; exact f.elim
 | err e ρ' S' => rw [q] at f; exact fun φ' σ' c x H' I' X' _ r' => f φ' c x H' I' X' r'
 | stuck => rw [q] at f; exact f
end
section
variable {P : Program} {w : World} {K : aB} {mg : Str -> Option Value} {base : Heap}
structure Runs (md : FD) (n np : Nat) (mb : FS) : Prop where
 ok : ∀ ds S, ds.length = np -> md ds S = bQ (mb (envOf n ds) S) \/ md ds S = trunc S.length (bQ (mb (envOf n ds) S))
 no : ∀ ds S, ds.length ≠ np -> md ds S = .stuck
theorem Runs.plain {n np : Nat} {mb : FS} : Runs (run n np mb) n np mb := ⟨fun ds S h => .inl (by unfold run; rw [if_pos h]), fun ds S h => by unfold run; rw [if_neg h]⟩
theorem Runs.cut {n np : Nat} {mb : FS} : Runs (Bn n np mb) n np mb := ⟨fun ds S h => .inr (by unfold Bn; rw [if_pos h]), fun ds S h => by unfold Bn; rw [if_neg h]⟩
theorem Ac {md : FD} {n np : Nat} {mb : FS} (R : Runs md n np mb) : ∀ vs H Q E, spF K md vs H Q E -> vs.length = np := fun vs H Q E ⟨B, φ, S, ds, I, r, f⟩ => by
 rw [r.len]
 by_cases h : ds.length = np
 ·exact h
 ·rw [R.no ds S h] at f; exact f.elim
theorem vU {md : FD} {np : Nat} {mb : FS} {N : List Str} (R : Runs md N.length np mb) {vs : List L2.V} {H : Hp} {Q : VK} {E : XK} (h : spF K md vs H Q E) : lC K (fun c x _ H => E c x H) mb { nx := fun _ H' => Q .non H', rt := Q } (start N vs) H := by
 obtain ⟨B, φ, S, ds, I, r, f⟩ := h
 by_cases hl : ds.length = np
 ·rcases R.ok ds S hl with e | e
  ·rw [e] at f; exact CI I r f
  ·rw [e] at f; exact CI I r (Fin.trunc f I rfl)
 ·rw [R.no ds S hl] at f; exact f.elim
theorem okF {x : Str} {st : Stmt} {N ps : List Str} {k : Nat} {md : FD} {mb : FS} (F : mT K x st) (g : mg x = some (.ref (He.ga K x))) (S : FnScope N ps (defScope st)) (R : Runs md N.length ps.length mb)
  (bnd : ∀ (kV doc pm : Value) (an : Option Addr) (cdv ct : Value) (us : List Value), us.length = ps.length -> bindArgs (eS x x (defArgs st) (defBody st) (defScope st) .none kV doc pm an cdv ct) ⟨us, []⟩ = pure (ps.zip us))
  (hbody : ∀ (cdv : Value) (A : Around) (outer : List Env) (s : Shared) (H : Hp) (E : XK), Room k (A.deeper (envOfC x (defScope st) s.heap.objs.size (He.ga K x) cdv)) ->
   PSs (cxOf (L2.CX P w) P w K mg base N x (defScope st) (He.ga K x) cdv A outer s H E) (defBody st) (lC K (fun c x _ H => E c x H) mb)) : lN P w K mg base (k + 1) x ps (spF K md) :=
 G3 F g S (Ac R) bnd fun cdv A outer s H vs Q E hr h => ⟨_, hbody cdv A outer s H E hr, vU R h⟩
theorem okFM {C m q : Str} {st : Stmt} {N ps : List Str} {k : Nat} {md : FD} {mb : FS} (F : Hh K C m q st) (g : Meth K (He.ga K C) m (He.ma K (He.ga K C) m)) (S : FnScope N ps (defScope st)) (R : Runs md N.length ps.length mb)
  (bnd : ∀ (kV doc pm : Value) (an : Option Addr) (cdv ct : Value) (us : List Value), us.length = ps.length -> bindArgs (eS m q (defArgs st) (defBody st) (defScope st) .none kV doc pm an cdv ct) ⟨us, []⟩ = pure (ps.zip us))
  (hbody : ∀ (cdv : Value) (A : Around) (outer : List Env) (s : Shared) (H : Hp) (E : XK), Room k (A.deeper (envOfC q (defScope st) s.heap.objs.size (He.ma K (He.ga K C) m) cdv)) ->
   PSs (cxOf (L2.CX P w) P w K mg base N q (defScope st) (He.ma K (He.ga K C) m) cdv A outer s H E) (defBody st) (lC K (fun c x _ H => E c x H) mb)) : OkMX P w K mg base (k + 1) C m ps (spF K md) :=
 IL F g S (Ac R) bnd fun cdv A outer s H vs Q E hr h => ⟨_, hbody cdv A outer s H E hr, vU R h⟩
end
section
variable {X : Cx} {W : WX} {e a b c o i : Expr} {es rest : List Expr} {pos p q p2 tpos apos cpos pos' : Pos} {x y z f C mn : Str} {K : aB} {ma mb mc mo mx : FE} {mt mt1 mu : FT} {mas : FA} {B : Addr -> Prop} {φ φ' : List Addr} {S S' : aK} {H H' : Hp} {σ : L2.St} {Q : VK} {m n : FS} {D : Ends} {ps : List Str} {md : FD} {j k : Nat}
def jB (S : aK) (C mn : Str) : Vl -> Bool
 | .cel n => match S[n]? with
  | some (.ins C' fs) => decide (C' = C) && fs.all fun f => decide (f.1 ≠ mn)
  | _ => false
 | .dat (.ins C' ns _) => decide (C' = C) && ns.all fun f => decide (f ≠ mn)
 | _ => false
theorem RepF.miss : ∀ {fs : List (Str × Vl)} {vs : List (Str × L2.V)}, RepF K B φ S H fs vs -> (fs.all fun f => decide (f.1 ≠ mn)) = true -> vs.lookup mn = none
 | [], vs, r, _ => by cases r; rfl
 | d :: ds, vs, ⟨v, ws, e, h1, h2⟩, h => by
  subst e;simp only [iF, dM, decide_eq_true_eq] at h;rw [cO, show (mn == d.1) = false by simpa using Ne.symm h.1]
  exact RepF.miss h2 h.2
theorem BQ : ∀ {ns : List Str} {vs : List L2.V}, (ns.all fun f => decide (f ≠ mn)) = true -> (ns.zip vs).lookup mn = none
 | [], vs, _ => by simp
 | d :: ds, [], _ => by simp
 | d :: ds, v :: vs, h => by
  simp only [iF, dM, decide_eq_true_eq] at h;rw [fD, cO, show (mn == d) = false by simpa using Ne.symm h.1]
  exact BQ h.2
theorem xF {d : Vl} {v : L2.V} (I : GInv K B φ S H) (r : RepV K B φ S H d v) (h : jB S C mn d = true) : ∃ a dx fs, v = .ref a /\ H a = some (.ins (He.ga K C) dx fs) /\ fs.lookup mn = none := by
 cases d with
 | cel n =>
  obtain ⟨a, rfl, h1⟩ := r;have h : (match S[n]? with | some (.ins C' fs) => decide (C' = C) && fs.all fun f => decide (f.1 ≠ mn) | _ => false) = true := h
  split at h
  ·rename_i C' fs q
   obtain ⟨h2, h3⟩ := He.ba h;have e : C' = C := of_decide_eq_true h2;subst e;obtain ⟨dx, vs, h4, h5⟩ := I.ok n _ a q h1;exact ⟨a, dx, vs, rfl, h4, h5.miss h3⟩
  ·cases h
 | dat d =>
  cases d with
  | ins C' ns xs =>
   obtain ⟨h2, h3⟩ := He.ba (show (decide (C' = C) && ns.all fun f => decide (f ≠ mn)) = true from h)
   have e : C' = C := of_decide_eq_true h2;subst e;obtain ⟨a, dx, vs, rfl, _, h4, _⟩ := r;exact ⟨a, dx, _, rfl, h4, BQ h3⟩
  | _ => cases h
 | cels ns => cases h
 | scr ns => cases h
 | tc _ => cases h
def Br (C mn : Str) (md : FD) (o : FE) (as : FA) : FE := fun ρ S => (o ρ S).bind fun x S1 => if jB S1 C mn x = true then (as ρ S1).bind fun ds S2 => md (x :: ds) S2 else .stuck
theorem B9 {pl : Sem Bool} (F : OkMX X.prog X.w X.K X.mg X.base j C mn ps (spF X.K md)) (hr : Room k X.A) (tk : Takes X W) (c : Cls X.K (He.ga X.K C)) (ho : PE X o (bU X.K W mo)) (hjk : j <= k := by decide)
  (ht : eval (.Call (.Attribute o mn apos) [] [] pos) X.env = eval o X.env >>= fun ov => standAt apos.atName >>= fun _ => holding [ov] (getMethod ov mn pl) >>= fun q => callWith pos q.1 q.2 (backTo pos (starEach [] X.env)) (backToKw pos (keywordEach [] X.env)) := by rfl) :
  PE X (.Call (.Attribute o mn apos) [] [] pos) (bU X.K W (Br C mn md mo aL)) := by
 obtain ⟨⟨fd, F, hb⟩, mt⟩ := F;refine ⟨fun pins s σ H Q I h => ?_⟩
 have h' : bU X.K W mo σ H fun v H1 => ∃ a dx fs, v = .ref a /\ H1 a = some (.ins (He.ga X.K C) dx fs) /\ fs.lookup mn = none /\ spF X.K md [.ref a] H1 Q (WE W σ) :=
  bJ (k := fun x ρ S1 => if jB S1 C mn x = true then md [x] S1 else .stuck) h fun B φ S ρ d v H1 I E r f => by
   split at f
   ·rename_i hi
    obtain ⟨a, dx, fs, rfl, h1, h2⟩ := xF I r hi;exact ⟨a, dx, fs, rfl, h1, h2, B, φ, S, [d], I, ⟨_, _, rfl, r, rfl⟩, f.toE⟩
   ·exact f.elim
 refine PySem.W.methodCall_KW (pl := pl) (thn (ho.run pins s σ H _ I h') fun u s1 hh => ?_) ht
 obtain ⟨x, H1, I1, rx, a, dx, fs, rfl, ea, l, q⟩ := hh;obtain rfl : u = Value.ref a := rx;exact getmeth_ok I1 ea c mt l (PySem.W.callWith_K0 (first := [.ref a]) I1.kIn mt.kp (run_fnS (us := [.ref a]) (vs := [.ref a]) (E := WE W) F (hr.mono hjk) hb (passAt tk σ) I1 (.cons rfl .nil) q))
def CH (S : aK) (C f : Str) : Vl -> Option Vl
 | .cel n => match S[n]? with
  | some (.ins C' fs) => if C' = C then fs.lookup f else none
  | _ => none
 | .dat (.ins C' ns xs) => if C' = C then ((ns.zip xs).lookup f).map Vl.dat else none
 | _ => none
theorem RepF.look {d : Vl} : ∀ {fs : List (Str × Vl)} {vs : List (Str × L2.V)}, RepF K B φ S H fs vs -> fs.lookup f = some d -> ∃ v, vs.lookup f = some v /\ RepV K B φ S H d v
 | [], vs, r, h => by cases h
 | g :: fs, vs, ⟨v, ws, e, h1, h2⟩, h => by
  subst e;obtain ⟨g1, g2⟩ := g;rw [cO] at h ⊢;cases q : f == g1 with
  | true => rw [q] at h; cases h; exact ⟨v, rfl, h1⟩
  | false => rw [q] at h; exact RepF.look h2 h
theorem BR {Bk : Addr -> Prop} {d : PH.D} : ∀ {ns : List Str} {ds : List PH.D} {vs : List L2.V}, RepL K Bk H ds vs -> (ns.zip ds).lookup f = some d -> ∃ v, (ns.zip vs).lookup f = some v /\ Rep K Bk H d v
 | [], ds, vs, r, h => by simp at h
 | n :: ns, [], vs, r, h => by simp at h
 | n :: ns, d' :: ds, vs, ⟨v, ws, e, h1, h2⟩, h => by
  subst e;rw [fD, cO] at h ⊢;cases q : f == n with
  | true => rw [q] at h; cases h; exact ⟨v, rfl, h1⟩
  | false => rw [q] at h; exact BR h2 h
def Cr (C f : Str) (o : FE) : FE := fun ρ S => (o ρ S).bind fun x S1 => match CH S1 C f x with
 | some d => .ok d S1
 | none => .stuck
theorem HA {x d : Vl} {v : L2.V} (I : GInv K B φ S H) (r : RepV K B φ S H x v) (h : CH S C f x = some d) : ∃ a dx fs u, v = .ref a /\ H a = some (.ins (He.ga K C) dx fs) /\ fs.lookup f = some u /\ RepV K B φ S H d u := by
 cases x with
 | cel n =>
  obtain ⟨a, rfl, h1⟩ := r
  replace h : (match S[n]? with | some (.ins C' fs) => if C' = C then fs.lookup f else none | _ => none) = some d := h
  split at h
  ·rename_i C' fs q
   split at h
   ·rename_i e
    subst e;obtain ⟨dx, vs, h4, h5⟩ := I.ok n _ a q h1;obtain ⟨u, h6, h7⟩ := h5.look h;exact ⟨a, dx, vs, u, rfl, h4, h6, h7⟩
   ·cases h
  ·cases h
 | dat d' =>
  cases d' with
  | ins C' ns xs =>
   replace h : (if C' = C then ((ns.zip xs).lookup f).map Vl.dat else none) = some d := h
   split at h
   ·rename_i e
    subst e;obtain ⟨a, dx, vs, rfl, _, h4, l⟩ := r;cases q : (ns.zip xs).lookup f with
    | none => rw [q] at h; cases h
    | some d0 =>
     rw [q] at h;cases h;obtain ⟨u, h6, h7⟩ := BR l q;exact ⟨a, dx, _, u, rfl, h4, h6, h7⟩
   ·cases h
  | _ => cases h
 | cels ns => cases h
 | scr ns => cases h
 | tc _ => cases h
theorem CK (c : Cls X.K (He.ga X.K C)) (n : NoAttr X.K (He.ga X.K C) f) (ho : PE X o (bU X.K W mo)) (hb : attributeBase o f X.env (eval o X.env) = eval o X.env := by rfl) : PE X (.Attribute o f pos) (bU X.K W (Cr C f mo)) := bP (e_fld c n ho hb) fun σ H Q h =>
 bJ (k := fun x _ S1 => match CH S1 C f x with | some d => .ok d S1 | none => .stuck) h fun B φ S ρ d v H1 I E r f' => by
  split at f'
  ·rename_i d' q
   obtain ⟨a, dx, fs, u, rfl, h1, h2, h3⟩ := HA I r q;exact ⟨dx, fs, u, h1, h2, Fin.now f' I h3⟩
  ·exact f'.elim
def zM (f : Str) (v : Vl) : List (Str × Vl) -> List (Str × Vl)
 | [] => [(f, v)]
 | (g, x) :: r => if g = f then (g, v) :: r else (g, x) :: zM f v r
theorem RepF.put {d : Vl} {v : L2.V} (r : RepV K B φ S H d v) : ∀ {fs : List (Str × Vl)} {vs : List (Str × L2.V)}, RepF K B φ S H fs vs -> RepF K B φ S H (zM f d fs) (putF f v vs)
 | [], vs, h => by cases h; exact ⟨v, [], rfl, r, rfl⟩
 | (g, x) :: fs, vs, ⟨u, ws, e, h1, h2⟩ => by
  subst e;unfold zM putF;split
  ·exact ⟨v, ws, rfl, r, h2⟩
  ·exact ⟨u, _, rfl, h1, RepF.put r h2⟩
theorem RepF.len : ∀ {fs : List (Str × Vl)} {vs : List (Str × L2.V)}, RepF K B φ S H fs vs -> vs.length = fs.length
 | [], vs, h => by cases h; rfl
 | d :: ds, vs, ⟨v, ws, e, _, h2⟩ => by subst e; simp [RepF.len h2]
def Hx (S : aK) (C f : Str) (x d : Vl) : Option aK := match x with
 | .cel n => (match S[n]? with
  | some (.ins C' fs) => if C' = C /\ fs.length < 1000 then some (S.set n (.ins C (zM f d fs))) else none
  | _ => none)
 | _ => none
def Du (C f : Str) (o v : FE) : FS := fun ρ S => (v ρ S).toS ρ fun d S1 => (o ρ S1).toS ρ fun x S2 => match Hx S2 C f x d with
 | some S3 => .next ρ S3
 | none => .stuck
theorem ED {value : Expr} {mv : FE} (c : Cls X.K (He.ga X.K C)) (na : NoAttr X.K (He.ga X.K C) f) (ho : PE X o (bU X.K W mo)) (hv : PE X value (bU X.K W mv)) (hs : swapsWith value (some (.Attribute o f pos')) pos.line X.env = pure false := by rfl) : PS X (.Assign [.Attribute o f pos'] value pos) (lC X.K W (Du C f mo mv)) := iT (KO c na ho hv hs) fun D σ H h => by
 obtain ⟨B, φ, S, ρ, I, E, f'⟩ := h;refine cJ I E f' fun φ1 S1 d1 v1 H1 I1 X1 E1 r1 f1 => cJ I1 E1 f1 fun φ2 S2 d2 v2 H2 I2 X2 E2 r2 f2 => ?_
 split at f2
 ·rename_i S3 q
  unfold Hx at q;split at q
  ·rename_i n
   obtain ⟨a, rfl, h1⟩ := r2;split at q
   ·rename_i C' fs q1
    split at q
    ·rename_i hc
     obtain ⟨e, hl⟩ := hc;subst e;cases q;obtain ⟨dx, vs, h4, h5⟩ := I2.ok n _ a q1 h1;have X3 := Ext.put (H := H2) (o := .ins (He.ga X.K C') dx (putF f v1 vs)) (x := .ins C' (zM f d1 fs)) q1 (by simp) h1 (by simp)
     have r1' := r1.ext X2 I1;refine ⟨dx, vs, h4, by rw [h5.len]; exact hl, f2 φ2 σ _ (I2.put q1 (by simp) h1 (by simp) ⟨dx, _, upd_same, (h5.put r1').ext X3 I2⟩) X3 (E2.ext X3 I2)⟩
    ·cases q
   ·cases q
  ·cases q
 ·exact f2.elim
end
section
variable {X : Cx} {W : WX} {e a b c o i : Expr} {es rest : List Expr} {pos p q p2 tpos apos cpos pos' : Pos} {x y z f mn : Str} {K : aB} {ma mb mc mo mx : FE} {mas : FA} {B : Addr -> Prop} {φ φ' : List Addr} {S S' : aK} {H H' : Hp} {σ : L2.St} {Q : VK} {m n : FS} {D : Ends} {ps : List Str} {md : FD} {j k : Nat}
theorem Eg {C fA : Addr} {fd : FuncData} {sp : Sp} {CX : CXT} {E : L2.St -> XK} {pins : List (Addr × Obj)} {s : Shared} {us : List Value} {vs : List L2.V} (M : Mk X.K C fA) (F : FnOk X.prog X.w X.K X.mg X.base CX k fA fd ps sp) (hr : Room (k + 1) X.A) (hb : Binds X.K fd ps [])
  (hx : PassesAt CX X σ (E σ)) (I : Inv X pins σ H s) (r : Vals vs us)
  (h : ∀ x dx, H x = none -> H dx = none -> dx ≠ x -> sp (.ref x :: vs) (upd (upd H dx (.own x)) x (.ins C dx [])) (fun v H2 => v = .non /\ Q (.ref x) H2) (E σ)) :
  wpAny (model X.prog X.w) X.A (call (.ref C) us) (EP X pins σ Q) X.xe s := by
 have hq := h (s.heap.objs.size + 1) s.heap.objs.size (I.hok.fresh (Nat.le_succ _)) (I.hok.fresh (bN _)) (Nat.ne_of_lt (Nat.lt_succ_self _));have I2 := Inv.made (C := C) I;have r2 : Vals (V.ref (s.heap.objs.size + 1) :: vs) (Value.ref (s.heap.objs.size + 1) :: us) := .cons rfl r;have hl : (Value.ref (s.heap.objs.size + 1) :: us ++ []).length = ps.length := by
  have e := r2.length;rw [F.len _ _ _ _ hq] at e;rw [cL];exact e.symm
 have b := hb _ (Value.ref (s.heap.objs.size + 1) :: us) I2.kIn hl;rw [cL] at b;refine wpAny_call (make_map (f := fA) I.kIn M.makes M.init (beq_iff_eq.mp M.fn) (codeAny_mono (F.run _ X.stack _ _ ⟨Value.ref (s.heap.objs.size + 1) :: us, []⟩ (Value.ref (s.heap.objs.size + 1) :: us) _ _ (E σ) (hr.make C us [])
  (I2.env0.make C us []) b r2 hq) fun r s' hq' => ?_))
 cases r with
 | error e => exact hx pins _ _ e s' I2 hq'
 | ok fl =>
  cases fl with
  | ret u =>
   obtain ⟨v, H', I3, rv, ev, q3⟩ := I2.after hq';subst ev;exact ⟨rv, ⟨V.ref (s.heap.objs.size + 1), H', I3, rfl, q3⟩⟩
  | next => exact False.elim hq'
  | brk => exact False.elim hq'
  | cont => exact False.elim hq'
def yC : List (Str × Vl) -> Option (List PH.D)
 | [] => some []
 | (_, .dat d) :: r => match yC r with
  | some ds => some (d :: ds)
  | none => none
 | _ :: _ => none
theorem CW : ∀ {fs : List (Str × Vl)} {vs : List (Str × L2.V)} {ds : List PH.D}, yC fs = some ds -> RepF K B φ S H fs vs -> ∃ ws, vs = (fs.map (·.1)).zip ws /\ RepL K (fG B φ S) H ds ws
 | [], vs, ds, h, r => by cases h; cases r; exact ⟨[], rfl, rfl⟩
 | (g, .dat d) :: fs, vs, ds, h, ⟨v, ws, e, h1, h2⟩ => by
  unfold yC at h;cases q : yC fs with
  | none => rw [q] at h; cases h
  | some es =>
   rw [q] at h;cases h;obtain ⟨us, e2, l⟩ := CW q h2;subst e e2;exact ⟨v :: us, rfl, v, us, rfl, h1, l⟩
 | (_, .cel _) :: fs, vs, ds, h, _ => by cases h
 | (_, .cels _) :: fs, vs, ds, h, _ => by cases h
 | (_, .scr _) :: fs, vs, ds, h, _ => by cases h
 | (_, .tc _) :: fs, vs, ds, h, _ => by cases h
def made (kp : Bool) (n : Nat) (r : Res Vl) : Res Vl := match r with
 | .ok (.dat .non) S => if kp then .ok (.cel n) S else (match S[n]? with
  | some (.ins C fs) => (match yC fs with
   | some ds => if ((S.take n).all fun c => c.below n) then .ok (.dat (.ins C (fs.map (·.1)) ds)) (S.take n) else .stuck
   | none => .stuck)
  | _ => .stuck)
 | .err e S => if ((S.take n).all fun c => c.below n) then .err e (S.take n) else .stuck
 | _ => .stuck
def zR (kp : Bool) (C : Str) (md : FD) (as : FA) : FE := fun ρ S => (as ρ S).bind fun ds S1 => made kp S1.length (md (.cel S1.length :: ds) (S1 ++ [.ins C []]))
theorem CZ {n : Nat} {c : Cell} {a : Addr} (I : GInv K B φ S H) (hn : S[n]? = some c) (hc : c ≠ .dead) (ha : φ[n]? = some a) : ¬ fG B (φ.take n) (S.take n) a := fun q => by
 rcases q with q | ⟨m, c', h1, h2, h3⟩
 ·exact I.blk a ⟨n, c, hn, hc, ha⟩ q
 ·rw [fC] at h1 h3
  by_cases hm : m < n
  ·rw [if_pos hm] at h1 h3
   have := I.inj n m c c' a hn hc h1 h2 ha h3;omega
  ·rw [if_neg hm] at h1; cases h1
theorem HB {kp : Bool} {C : Str} {ds : List Vl} {vs : List L2.V} (I : GInv K B φ S H) (r : RepVs K B φ S H ds vs) (f : Fin K W σ (RepV K) B φ S H (made kp S.length (md (.cel S.length :: ds) (S ++ [.ins C []]))) Q) :
  ∀ x dx, H x = none -> H dx = none -> dx ≠ x -> spF K md (.ref x :: vs) (upd (upd H dx (.own x)) x (.ins (He.ga K C) dx [])) (fun v H2 => v = .non /\ Q (.ref x) H2) (WE W σ) := fun x dx nx ndx ne => by
 have I1 := I.new (o := .own x) ndx;have X1 := Ext.new (o := .own x) I ndx;have nx1 : upd H dx (.own x) x = none := by rw [upd_ne (Ne.symm ne)]; exact nx
 have X2 := Ext.newC (o := .ins (He.ga K C) dx []) (x := .ins C []) I1 nx1;have I2 : GInv K B (φ ++ [x]) (S ++ [.ins C []]) (upd (upd H dx (.own x)) x (.ins (He.ga K C) dx [])) := I1.newC nx1 fun _ => ⟨dx, [], upd_same, rfl⟩
 have X12 := X1.trans X2;refine ⟨B, φ ++ [x], S ++ [.ins C []], .cel S.length :: ds, I2, ⟨_, _, rfl, ⟨x, rfl, by rw [<- I.len]; exact iB⟩, RepVs.ext X2 I1 (RepVs.ext X1 I r)⟩, ?_⟩
 have hφ : φ.length <= S.length := by rw [I.len]; exact bN _
 cases q : md (.cel S.length :: ds) (S ++ [.ins C []]) with
 | stuck => rw [q] at f; exact f
 | err e S' =>
  rw [q] at f;unfold made at f;dsimp only at f;split at f
  ·rename_i h
   intro φ' c y H' I' X' r';refine f (φ'.take S.length) c y H' (I'.take h) ((X12.trans X').take hφ) ⟨r'.1, ?_⟩
   rcases r'.2 with h0 | ⟨d, us, e1, e2, e3⟩
   ·exact .inl h0
   ·refine .inr ⟨d, us, e1, e2, RepL.kp ⟨fun b o h nb => ⟨h, fun q => nb (by
     rcases q with q | q
     ·exact .inl q
     ·exact .inr (hQ q))⟩, fun _ _ h => h⟩ _ _ e3⟩
  ·exact f.elim
 | ok d S' =>
  rw [q] at f;intro φ' v H' I' X' r';unfold made at f;split at f
  ·rename_i S0 e
   cases e;cases r';refine ⟨rfl, ?_⟩
   have hx' : φ'[S.length]? = some x := X'.ids _ _ (by rw [<- I.len]; exact iB)
   split at f
   ·exact f φ' _ H' I' (X12.trans X') ⟨x, rfl, hx'⟩
   ·split at f
    ·rename_i C' fs q1
     split at f
     ·rename_i ds' q2
      split at f
      ·rename_i h
       obtain ⟨dx', vs', h4, h5⟩ := I'.ok _ _ _ q1 hx';obtain ⟨ws, e2, l⟩ := CW q2 h5;subst e2;refine f (φ'.take S.length) _ H' (I'.take h) ((X12.trans X').take hφ) ⟨x, dx', ws, rfl, CZ I' q1 (by simp) hx', h4, RepL.kp ⟨fun b o h nb => ⟨h, fun q => nb (by
        rcases q with q | q
        ·exact .inl q
        ·exact .inr (hQ q))⟩, fun _ _ h => h⟩ _ _ l⟩
      ·exact f.elim
     ·exact f.elim
    ·exact f.elim
  ·rename_i e; cases e
  ·exact f.elim
theorem BA {kp : Bool} {C : Str} (T : ClF X.K X.mg C) (F : OkMX X.prog X.w X.K X.mg X.base j C "__init__" ps (spF X.K md)) (hr : Room k X.A) (tk : Takes X W) (ha : PA X (e :: es) (Fc X.K W mas)) (hjk : j + 1 <= k := by decide) (hg : Gl X C := by rfl) (hdb : (C == ("__debug__" : Str)) = false := by decide)
  (he : starEach (e :: es) X.env = (false, eval e X.env) :: starEach es X.env := by rfl) (hpl : (backTo pos (starEach es X.env)).any (·.1) = false := by rfl) : PE X (.Call (.Name C p) (e :: es) [] pos) (bU X.K W (zR kp C md mas)) := by
 obtain ⟨⟨fd, F, hb⟩, mt⟩ := F;refine ⟨fun pins s σ H Q I h => ?_⟩
 refine wpAny_Call_Name_kw (ld_glob I hg T.glo ?_ hdb)
 have h' : Fc X.K W mas σ H fun vs H1 => ∀ x dx, H1 x = none -> H1 dx = none -> dx ≠ x -> spF X.K md (.ref x :: vs) (upd (upd H1 dx (.own x)) x (.ins (He.ga X.K C) dx [])) (fun v H2 => v = .non /\ Q (.ref x) H2) (WE W σ) :=
  bJ (k := fun ds _ S1 => made kp S1.length (md (.cel S1.length :: ds) (S1 ++ [.ins C []]))) h fun B φ S ρ d v H1 I E r f => HB I r f
 refine PySem.W.callWith_K (h₀ := X.base) I.ok.mod.kin T.mak.kp (thn (ha.run pos pins s σ H _ I h') fun us s1 ⟨vs, H1, I1, r, q⟩ => ⟨I1.kIn, ?_⟩) he hpl
 exact Eg (E := WE W) T.mak F (hr.mono hjk) hb (passAt tk σ) I1 r q
def Kh (cls : Str) : FS := fun ρ S => .err ⟨cls, [], []⟩ ρ S
end
def KI (C : Addr) (f g : Str) : Sp := fun vs H Q _ => ∃ a y z, vs = [.ref a, y, z] /\ H a = some (exo a C none) /\ ∀ dx, H dx = none -> dx ≠ a -> Q .non (upd (upd (upd H dx (exd dx [(f, y)])) a (exo a C (some dx))) dx (exd dx [(g, z), (f, y)]))
structure XcA (P : Program) (w : World) (K : aB) (mg : Str -> Option Value) (base : Heap) (k : Nat) (x : Str) (ps : List Str) (sp : Sp) : Prop where
 cls : OexC K (He.ga K x)
 ini : cR K (.ref (He.ga K x)) "__init__" = some (some (.ref (He.ma K (He.ga K x) "__init__")))
 ty : qP K (.ref (He.ma K (He.ga K x) "__init__")) = some (.type "function")
 fn : ∃ fd, FnOk P w K mg base CX0 k (He.ma K (He.ga K x) "__init__") fd ps sp /\ Binds K fd ps []
 glo : mg x = some (.ref (He.ga K x))
section
variable {X : Cx} {W : WX} {e : Expr} {es : List Expr} {pos p pos' : Pos} {x f g : Str} {K : aB} {mas : FA} {B : Addr -> Prop} {φ φ' : List Addr} {S S' : aK} {H H' : Hp} {σ : L2.St} {ps : List Str} {j k : Nat}
def lV (cls : Str) (ns : List Str) (as : FA) : FS := fun ρ S => (as ρ S).toS ρ fun xs S1 => match oX xs with
 | some ds => if ds.length = ns.length then .err ⟨cls, ns, ds.reverse⟩ ρ S1 else .stuck
 | none => .stuck
theorem lE (F : XcA X.prog X.w X.K X.mg X.base j x ps (KI (He.ga X.K x) f g)) (hr : Room k X.A) (tk : Takes X W) (ha : PA X (e :: es) (Fc X.K W mas)) (hjk : j + 1 <= k := by decide) (hc : X.calm = true := by rfl) (hg : Gl X x := by rfl) (hdb : (x == ("__debug__" : Str)) = false := by decide)
  (he : starEach (e :: es) X.env = (false, eval e X.env) :: starEach es X.env := by rfl) (hpl : (backTo pos (starEach es X.env)).any (·.1) = false := by rfl) : PS X (.Raise (some (.Call (.Name x p) (e :: es) [] pos)) none pos') (lC X.K W (lV x [g, f] mas)) := by
 obtain ⟨fd, F1, hb⟩ := F.fn;refine iT (ps_raise hc tk (pmk_oex F.cls F.ini F.ty F1 (hr.mono hjk) hb .nil (fun _ _ _ _ _ _ _ h => h.elim) hg F.glo ha hdb he hpl)) fun D σ H h => ?_
 obtain ⟨B, φ, S, ρ, I, E, f'⟩ := h;refine cJ I E f' fun φ1 S1 ds vs H1 I1 X1 E1 r f1 => ?_
 split at f1
 ·rename_i xs q
  have l := tE q r;split at f1
  ·rename_i hl
   match xs, hl with
   | [d, d2], _ =>
    obtain ⟨v, ws, rfl, h1, u, ws', rfl, h2, h3⟩ := l;cases h3;refine ⟨by simp, fun a na => ⟨a, v, u, rfl, upd_same, fun dx ndx ne => ⟨rfl, dx, [(g, u), (f, v)], ?_, upd_same, ?_, ?_⟩⟩⟩
    ·rw [upd_ne (Ne.symm ne), upd_same]
    ·rw [upd_ne ne] at ndx; exact ndx
    ·have n1 : H1 dx = none := by rw [upd_ne ne] at ndx; exact ndx
     have eH : (upd (del (upd (upd (upd (upd H1 a (exo a (He.ga X.K x) none)) dx (exd dx [(f, v)])) a (exo a (He.ga X.K x) (some dx))) dx (exd dx [(g, u), (f, v)])) a) dx (.xd [(g, u), (f, v)])) = upd H1 dx (.xd [(g, u), (f, v)]) := by
      funext b
      unfold upd del
      by_cases hb : b = dx
      ·rw [if_pos hb, if_pos hb]
      ·rw [if_neg hb, if_neg hb]
       by_cases hba : b = a
       ·rw [if_pos hba, hba]; exact na.symm
       ·rw [if_neg hba]; simp only [if_neg hba, if_neg hb]
     rw [eH];have X2 := Ext.new (o := .xd [(g, u), (f, v)]) I1 n1;exact f1 φ1 σ _ _ _ (I1.new n1) X2 (E1.ext X2 I1) ⟨rfl, .inr ⟨dx, [u, v], rfl, upd_same, u, [v], rfl, Rep.kp (X2.kp I1) _ _ h2, v, [], rfl, Rep.kp (X2.kp I1) _ _ h1, rfl⟩⟩
  ·exact f1.elim
 ·exact f1.elim
end
section
variable {X : Cx} {W : WX} {e a b c o i : Expr} {es rest : List Expr} {pos p q p2 tpos apos cpos pos' np : Pos} {x y z f mn : Str} {K : aB} {ma mb mc mo mx : FE} {mas : FA} {B : Addr -> Prop} {φ φ' : List Addr} {S S' : aK} {H H' : Hp} {σ : L2.St} {Q : VK} {m n : FS} {D : Ends} {cs : List Str}
def handle (cs : List Str) : List (Str × FS) -> Er -> Ev -> aK -> Out
 | [], e, ρ, S => .err e ρ S
 | (c, m) :: r, e, ρ, S => if e.cls = c then (match m ρ S with
   | .err _ _ _ => .stuck
   | o => o) else handle cs r e ρ S
inductive XIt where
 | c (v : L2.V) (d : PH.D) | f (n : Str)
def itR (a : Addr) (cls : Value) (d : Option Addr) (C : Addr) (i : Nat) : List XIt -> TA
 | [] => tNil
 | .c v _ :: r => tCons (tC v) (itR a cls d C i r)
 | .f n :: r => tCons (tXf a cls d C n (yX i)) (itR a cls d C i r)
def itF (e : Er) : List XIt -> Option (List PH.D)
 | [] => some []
 | .c _ d :: r => match itF e r with
  | some ds => some (d :: ds)
  | none => none
 | .f n :: r => match (e.ns.zip e.xs).lookup n, itF e r with
  | some d, some ds => some (d :: ds)
  | _, _ => none
def Jp (cs : List Str) (m : FS) (c : Str) (k : Nat) (its : List XIt) : FS := fun ρ S => match m ρ S with
 | .err e ρ' S' => if (e.cls ∈ cs /\ c ∈ cs) /\ k < ρ'.length then (if e.cls = c then (match itF e its with
   | some ds => if ds.length <= sizeLine then .ret (.dat (.tup ds)) S' else .stuck
   | none => .stuck) else .err e ρ' S') else .stuck
 | o => o
end
structure Lim (K : aB) : Prop where
 pos : ∀ z m lo hi, limits.lookup z = some (m, lo, hi) -> gK K (He.ga K "LIMITS") z = some (some (.ref (Bv K z))) /\ ∀ H, SqT K H (Bv K z) [.int (m : Nat), .int lo, .int hi]
 neg : ∀ z, limits.lookup z = none -> gK K (He.ga K "LIMITS") z = some none
section
variable {X : Cx} {W : WX} {e a b c o i : Expr} {es rest : List Expr} {pos p q p2 tpos apos cpos pos' np : Pos} {x y z f mn C : Str} {K : aB} {ma mb mc mo mx : FE} {mas : FA} {B : Addr -> Prop} {φ φ' : List Addr} {S S' : aK} {H H' : Hp} {σ : L2.St} {Q : VK} {m n : FS} {D : Ends} {ps : List Str} {md : FD} {j k : Nat}
def eC (neg : Bool) (x : Vl) (S : aK) : Res Vl := match x with
 | .dat (.str z) => .ok (.dat (.bl (if neg then (limits.lookup z).isNone else (limits.lookup z).isSome))) S
 | _ => .stuck
def uB (x : Vl) (S : aK) : Res Vl := match x with
 | .dat (.str z) => (match limits.lookup z with
  | some (m, lo, hi) => .ok (.dat (.tup [.int (m : Nat), .int lo, .int hi])) S
  | none => .stuck)
 | _ => .stuck
theorem Fp (L : Lim K) {x : L2.V} {d : Vl} (I : GInv K B φ S H) (r : RepV K B φ S H d x) (f : Fin K W σ (RepV K) B φ S H (eC true d S) Q) : K9 K (He.ga K "LIMITS") true x (.ref (He.ga K "LIMITS")) H Q := by
 unfold eC at f;split at f
 ·rename_i z
  cases r;cases q : limits.lookup z with
  | none =>
   refine ⟨rfl, none, L.neg z q, ?_⟩
   rw [q] at f;exact Fin.now f I rfl
  | some t =>
   obtain ⟨m, lo, hi⟩ := t;refine ⟨rfl, _, (L.pos z m lo hi q).1, ?_⟩
   rw [q] at f;exact Fin.now f I rfl
 ·exact f.elim
theorem F7 {py : Pos} (L : Lim X.K) (D : ∃ es n, KDict X.K X.w (He.ga X.K "LIMITS") es n) (g : X.mg "LIMITS" = some (.ref (He.ga X.K "LIMITS"))) (ha : PE X a (bU X.K W ma)) (hg : Gl X "LIMITS" := by rfl) (hm : behindInMarks .NotIn (.Name "LIMITS" py) = false := by rfl) : PT X (.Compare a [.NotIn] [.Name "LIMITS" py] pos) (qU X.K W (mB (m1 (eC true) ma))) :=
 yG (Jj (Ao D) ha (pe_glob (v := .ref (He.ga X.K "LIMITS")) hg g rfl) hm) fun σ H Q h => bJ (k := fun x _ S => eC true x S) (Fm h) fun B φ S ρ d v H1 I E r f => Fp L I r f
theorem f_lim {py : Pos} (L : Lim X.K) (D : ∃ es n, KDict X.K X.w (He.ga X.K "LIMITS") es n) (g : X.mg "LIMITS" = some (.ref (He.ga X.K "LIMITS"))) (ha : PE X a (bU X.K W ma)) (hg : Gl X "LIMITS" := by rfl) (hs : PlainIx a := by intro _ _; rfl) : PE X (.Subscript (.Name "LIMITS" py) a pos) (bU X.K W (m1 uB ma)) :=
 bP (pe_ix (L5 D) (pe_glob (v := .ref (He.ga X.K "LIMITS")) hg g rfl) ha hs) fun σ H Q h => bJ (k := fun x _ S => uB x S) h fun B φ S ρ d v H1 I E r f => by
  unfold uB at f;split at f
  ·rename_i z
   cases r;split at f
   ·rename_i m lo hi q
    obtain ⟨h1, h2⟩ := L.pos z m lo hi q;exact ⟨rfl, _, .ref (Bv X.K z), h1, rfl, Fin.now f I ⟨_, _, rfl, h2 H1, _, _, rfl, rfl, _, _, rfl, rfl, _, _, rfl, rfl, rfl⟩⟩
   ·exact f.elim
  ·exact f.elim
theorem FJ {sp : Sp} (F : OkMX X.prog X.w X.K X.mg X.base j C "__len__" ps sp) (hr : Room (j + 1) X.A) : CallR X (.builtin "len") (c1 (rLenO (He.ga X.K C) sp E0)) := by
 intro pins s σ H xs us Q I r h;obtain ⟨⟨fd, F, hb⟩, mt⟩ := F
 match xs, h with
 | [x], h =>
  cases x with
  | ref a =>
   obtain ⟨dx, fs, ha, h⟩ := h;cases r with
   | cons r1 r2 =>
    cases r1;cases r2;obtain ⟨mA, J, _⟩ := ins_get I.hok ha;obtain ⟨od, J, _⟩ := J.look;obtain ⟨fm, hF⟩ := I.fr;refine PySem.W.len_K hF I.ok.mod.kin J mt.at_ mt.fn ?_
    have e := I.env0;have hl := F.len _ _ _ _ h;have b := hb s [.ref a] I.kIn (by simpa using hl)
    have run := F.run X.A.in1 X.stack s H ⟨[.ref a], []⟩ [.ref a] [.ref a] _ E0 hr.in1 ⟨e.frames, e.mod, e.bs, e.bsz, e.funs, e.frf, e.hok, e.bare⟩ (by simpa using b) (.cons rfl .nil) h
    refine wpAny_call (codeAny_mono run fun q s' hq => ?_)
    cases q with
    | error e => obtain ⟨_, _, _, _, _, _, _, _, _, _, _, _, z⟩ := hq; exact z.elim
    | ok fl =>
     cases fl with
     | ret w =>
      obtain ⟨z, H', I', rz, hz⟩ := I.after hq;cases z with
      | int n =>
       obtain ⟨tk, rfl⟩ := rz;exact ⟨⟨hz.1.1, by have := hz.1.2; omega⟩, .int n, H', I'.tok _, ⟨_, rfl⟩, hz.2⟩
      | _ => exact hz.elim
     | next => exact False.elim hq
     | brk => exact False.elim hq
     | cont => exact False.elim hq
  | _ => exact h.elim
theorem Ap {sp : Sp} (F : OkMX X.prog X.w X.K X.mg X.base j C "__eq__" ps sp) (hr : Room k X.A) (hjk : j <= k := by decide) : OpR X (compareOp .Eq) (rEqO (He.ga X.K C) sp) := by
 intro pins s σ H x y v u Q I rx ry h;obtain ⟨⟨fd, F, hb⟩, mt⟩ := F
 replace hr := hr.mono hjk
 cases x with
 | ref a =>
  cases y with
  | ref b =>
   obtain ⟨dx, fs, dy, gs, ha, hb', h⟩ := h;cases rx;cases ry
   show wpAny (model X.prog X.w) X.A (richCompare .Eq (.ref a) (.ref b)) (EP X pins σ Q) X.xe s
   obtain ⟨mA, J, _⟩ := ins_get I.hok ha;obtain ⟨mB, J', _⟩ := ins_get I.hok hb';obtain ⟨od, J, _⟩ := J.look;obtain ⟨od', J', _⟩ := J'.look;obtain ⟨fm, hF⟩ := I.fr;refine PySem.W.cmp_K (op := .Eq) (tb := .ref (He.ga X.K C)) hr.units0 hF I.ok.mod.kin J J'.type (by simp [PySem.W.notFirst]) mt.at_ mt.fn ?_
   have e := I.env0;have hl := F.len _ _ _ _ h;have b1 := hb s [.ref a, .ref b] I.kIn (by simpa using hl)
   have run := F.run X.A X.stack s H ⟨[.ref a, .ref b], []⟩ [.ref a, .ref b] [.ref a, .ref b] _ E0 hr e (by simpa using b1) (.cons rfl (.cons rfl .nil)) h
   refine wpAny_call (codeAny_mono run fun q s' hq => ?_)
   cases q with
   | error e => obtain ⟨_, _, _, _, _, _, _, _, _, _, _, _, z⟩ := hq; exact z.elim
   | ok fl =>
    cases fl with
    | ret w =>
     obtain ⟨z, H', I', rz, hz⟩ := I.after hq;cases z with
     | bl r =>
      cases rz;exact ⟨.bl r, H', I', rfl, hz⟩
     | _ => exact hz.elim
    | next => exact False.elim hq
    | brk => exact False.elim hq
    | cont => exact False.elim hq
  | _ => exact h.elim
 | _ => cases y <;> exact h.elim
def Kr (r : Res Vl) : Res Vl := match r with
 | .ok (.dat (.int n)) S => if 0 <= n /\ n < 2 ^ 62 then .ok (.dat (.int n)) S else .stuck
 | _ => .stuck
def A9 (C : Str) (md : FD) (x : Vl) (S : aK) : Res Vl := if jB S C "__len__" x = true then Kr (md [x] S) else .stuck
theorem M5 (hm : X.mg "len" = none) (F : OkMX X.prog X.w X.K X.mg X.base j C "__len__" ps (spF X.K md)) (hr : Room k X.A) (ha : PE X a (bU X.K W ma)) (hjk : j + 1 <= k := by decide) (hg : Gl X "len" := by rfl) (hs : starEach [a] X.env = [(false, eval a X.env)] := by rfl) : PE X (.Call (.Name "len" p) [a] [] pos) (bU X.K W (m1 (A9 C md) ma)) :=
 bP (pe_callB (FJ F (hr.mono hjk)) hg hm boot_len (pa_cons ha pa_nil hs) (he := hs)) fun σ H Q h => bJ (k := fun x _ S => A9 C md x S) h fun B φ S ρ d v H1 I E r f => by
  unfold A9 at f;split at f
  ·rename_i hi
   obtain ⟨a, dx, fs, rfl, h1, h2⟩ := xF I r hi;refine ⟨dx, fs, h1, B, φ, S, [d], I, ⟨_, _, rfl, r, rfl⟩, ?_⟩
   unfold Kr at f;split at f
   ·rename_i n S' q
    rw [q];split at f
    ·rename_i hn
     intro φ' v H' I' X' r';cases r';exact ⟨hn, f φ' _ H' I' X' rfl⟩
    ·exact f.elim
   ·exact f.elim
  ·exact f.elim
def CQ (r : Res Vl) : Res Vl := match r with
 | .ok (.dat (.bl n)) S => .ok (.dat (.bl n)) S
 | _ => .stuck
def CL (C : Str) (md : FD) (x y : Vl) (S : aK) : Res Vl := if jB S C "" x = true /\ jB S C "" y = true then CQ (md [x, y] S) else .stuck
theorem Dj : dO K (rEqO (He.ga K C) (spF K md)) (CL C md) := fun {W σ B φ S H x y d e Q} I r1 r2 f => by
 unfold CL at f;split at f
 ·rename_i hi
  obtain ⟨a, dx, fs, rfl, h1, h2⟩ := xF I r1 hi.1;obtain ⟨b, dy, gs, rfl, h3, h4⟩ := xF I r2 hi.2;refine ⟨dx, fs, dy, gs, h1, h3, B, φ, S, [d, e], I, ⟨_, _, rfl, r1, _, _, rfl, r2, rfl⟩, ?_⟩
  unfold CQ at f;split at f
  ·rename_i n S' q
   rw [q];intro φ' v H' I' X' r';cases r';exact f φ' _ H' I' X' rfl
  ·exact f.elim
 ·exact f.elim
def HI (C : Str) (x : Vl) (S : aK) : Res Vl := if jB S C "" x = true then .ok (.dat (.bl true)) S else .stuck
theorem f_isC {q : Pos} (T : IsF X.K C) (hm : X.mg "isinstance" = none) (g : X.mg C = some (.ref (He.ga X.K C))) (ha : PE X a (bU X.K W ma)) (hg : Gl X "isinstance" := by rfl) (hgC : Gl X C := by rfl) (hdb : (C == ("__debug__" : Str)) = false := by decide)
  (hs : starEach [a, .Name C q] X.env = (false, eval a X.env) :: starEach [.Name C q] X.env := by rfl) : PE X (.Call (.Name "isinstance" p) [a, .Name C q] [] pos) (bU X.K W (m1 (HI C) ma)) := bP (e_isC T hm g ha hg hgC hdb hs) fun σ H Q h => bJ (k := fun x _ S => HI C x S) h fun B φ S ρ d v H1 I E r f => by
 unfold HI at f;split at f
 ·rename_i hi
  obtain ⟨a, dx, fs, rfl, h1, h2⟩ := xF I r hi;exact ⟨rfl, dx, fs, h1, Fin.now f I rfl⟩
 ·exact f.elim
theorem xQ {n : Int} {x : Str} (h : ∃ t, X.mg x = some (.int n t)) (hg : Gl X x := by rfl) (hd : (x == ("__debug__" : Str)) = false := by decide) : PE X (.Name x pos) (bU X.K W (mC (.int n))) := HF (MA h hg hd) fun _ _ => rfl
end
section
variable {P : Program} {w : World} {K : aB} {mg : Str -> Option Value} {base : Heap}
def iG : FD := fun _ _ => .stuck
theorem fZ {x : Str} {st : Stmt} {N ps : List Str} {k : Nat} (F : mT K x st) (g : mg x = some (.ref (He.ga K x))) (S : FnScope N ps (defScope st))
  (bnd : ∀ (kV doc pm : Value) (an : Option Addr) (cdv ct : Value) (us : List Value), us.length = ps.length -> bindArgs (eS x x (defArgs st) (defBody st) (defScope st) .none kV doc pm an cdv ct) ⟨us, []⟩ = pure (ps.zip us)) : lN P w K mg base (k + 1) x ps (spF K iG) :=
 G3 F g S (fun vs H Q E ⟨_, _, _, _, _, _, f⟩ => f.elim) bnd fun cdv A outer s H vs Q E hr ⟨_, _, _, _, _, _, f⟩ => f.elim
end
theorem EX {K : aB} {a : Addr} {vs : List V} (h : Cj K a vs = true) (H : Hp) : SqT K H a vs := by
 unfold Cj at h;cases q : K.lookup a with
 | none => rw [q] at h; cases h
 | some o =>
  obtain ⟨oc, od, dt, osl⟩ := o;rw [q] at h;cases oc with
  | type c =>
   cases dt with
   | seq its n =>
    obtain ⟨h1, h2⟩ := He.ba (show (decide (c = "tuple") && (decide (its.size <= sizeLine) && He.relAll vs its.toList)) = true from h)
    obtain ⟨h3, h4⟩ := He.ba h2;exact .inr ⟨_, its, n, q, congrArg Value.type (of_decide_eq_true h1), rfl, of_decide_eq_true h3, He.relAll_ok h4⟩
   | _ => cases h
  | _ => cases dt <;> cases h
theorem FV {fa : List He.Fa} {fn : List He.DefD} {ts : List He.Tab} {w : World} {K : aB} (c : He.SaysT fa fn ts w K) (i : Nat) {t : He.Tab} (h : ts[i]? = some t := by rfl) : He.dicW K (t.1 K) = some (He.keysIn w.params t.2) := by
 have e : ts.map (fun t => He.dicW K (t.1 K)) = ts.map fun t => some (He.keysIn w.params t.2) := congrArg (fun z : He.AlT => z.2) c
 have e2 : (ts.map fun t => He.dicW K (t.1 K))[i]? = (ts.map fun t => some (He.keysIn w.params t.2))[i]? := by rw [e]
 rw [cG, cG, h] at e2;exact Option.some.inj e2
theorem zX {P : Params} {z : Str} : ∀ {l : List DictEntry} {ks : List Str}, l.map He.keyOf = He.keysIn P ks -> z ∉ ks -> (l.find? (·.key.isStr z) = none) /\ l.any (·.refKey) = false
 | [], _, _, _ => ⟨rfl, rfl⟩
 | e :: r, [], h, _ => by cases h
 | e :: r, k :: ks, h, hz => by
  have h1 : He.keyOf e :: r.map He.keyOf = some (k, PyData.keyHash P k) :: He.keysIn P ks := h
  injection h1 with h2 h3
  obtain ⟨i1, i2⟩ := zX h3 (fun m => hz (aU _ m))
  unfold He.keyOf at h2;split at h2
  ·rename_i x t q
   obtain ⟨h5, h6⟩ := Prod.mk.inj (Option.some.inj h2);have nz : e.key.isStr z = false := by
    rw [q]
    show decide (x = z) = false
    exact decide_eq_false fun e => hz (by rw [<- e, h5]; exact aY ..)
   constructor
   ·rw [List.find?_cons, nz]; exact i1
   ·rw [List.any_cons, i2, Bool.or_false]
    show e.refKey = false
    unfold DictEntry.refKey;rw [q]
  ·cases h2
theorem Em {K : aB} {P : Params} {a : Addr} {ks : List Str} {z : Str} (h : He.dicW K a = some (He.keysIn P ks)) (hz : z ∉ ks) : gK K a z = some none := by
 unfold He.dicW at h;cases q : K.lookup a with
 | none => rw [q] at h; cases h
 | some o =>
  obtain ⟨oc, od, dt, osl⟩ := o;rw [q] at h;cases oc with
  | type c =>
   cases od with
   | none =>
    cases dt with
    | dict es n =>
     have h1 : (match decide (c = "dict") && (osl.isEmpty && !(a == sysModules)) with
      | true => some (es.toList.map He.keyOf)
      | false => none) = some (He.keysIn P ks) := h
     cases y : decide (c = "dict") && (osl.isEmpty && !(a == sysModules)) with
     | false => rw [y] at h1; cases h1
     | true =>
      rw [y] at h1;obtain ⟨i1, i2⟩ := zX (Option.some.inj h1) hz;unfold gK;rw [q]
      show (match es.toList.find? (·.key.isStr z) with | some e => some (some e.val) | none => if es.toList.any (·.refKey) then none else some none) = some none
      rw [i1, i2];rfl
    | _ => cases h
   | some b => cases dt <;> cases h
  | _ => cases od <;> cases dt <;> cases h
theorem uO {κ β : Type} [BEq κ] [LawfulBEq κ] {z : κ} {v : β} : ∀ {l : List (κ × β)}, l.lookup z = some v -> (z, v) ∈ l
 | [], h => by cases h
 | (k, u) :: r, h => by
  rw [cO] at h;cases e : z == k with
  | true =>
   rw [e] at h;have e2 : z = k := eq_of_beq e;have e3 : u = v := Option.some.inj h;rw [e2, e3];exact aY ..
  | false =>
   rw [e] at h;exact aU _ (uO h)
theorem lookup_none {κ β : Type} [BEq κ] [LawfulBEq κ] {z : κ} : ∀ {l : List (κ × β)}, l.lookup z = none -> z ∉ l.map (·.1)
 | [], _ => by simp
 | (k, u) :: r, h => by
  rw [cO] at h;cases e : z == k with
  | true => rw [e] at h; cases h
  | false =>
   rw [e] at h;have ne : z ≠ k := by simpa using e
   intro m;rcases fK.mp m with m | m
   ·exact ne m
   ·exact lookup_none h m
theorem Ko {K : aB} {P : Params} (h : limB K = true) (d : He.dicW K (He.ga K "LIMITS") = some (He.keysIn P (limits.map (·.1)))) : Lim K where
 pos := fun z m lo hi e => by
  obtain ⟨h1, h2⟩ := He.ba (aW.mp h (z, m, lo, hi) (uO e));exact ⟨He.eqO_ok h1, EX h2⟩
 neg := fun z e => Em d (lookup_none e)
theorem GA {P : Program} {w : World} {K : aB} {mg : Str -> Option Value} {x : Str} {st : Stmt} {N ps : List Str} {k : Nat} {md : FD} {mb : FS} (F : mT K x st) (S : FnScope N ps (defScope st)) (R : Runs md N.length ps.length mb)
  (bnd : ∀ (kV doc pm : Value) (an : Option Addr) (cdv ct : Value) (us : List Value), us.length = ps.length -> bindArgs (eS x x (defArgs st) (defBody st) (defScope st) .none kV doc pm an cdv ct) ⟨us, []⟩ = pure (ps.zip us))
  (hbody : ∀ (base : Heap) (cdv : Value) (A : Around) (outer : List Env) (s : Shared) (H : Hp) (E : XK), Room k (A.deeper (envOfC x (defScope st) s.heap.objs.size (He.ga K x) cdv)) ->
   PSs (cxOf (L2.CX P w) P w K mg base N x (defScope st) (He.ga K x) cdv A outer s H E) (defBody st) (lC K (fun c x _ H => E c x H) mb)) :
  ∃ fd, (∀ (s : Shared) (us : List Value), us.length = ps.length -> BindsTo s fd ⟨us, []⟩ (ps.zip us)) /\ ∀ base, FnOk P w K mg base (L2.CX P w) (k + 1) (He.ga K x) fd ps (spF K md) := by
 obtain ⟨fd, F⟩ := F;refine ⟨fd, fun s us hl => F.bindsA bnd s us hl, fun base => ?_⟩
 obtain ⟨oc, od, dV, kV, doc, pm, an, cdv, ct, osl, e, lk, hc⟩ := F.ex;subst e;exact fn_of lk hc.1 S (Ac R) fun A outer s H vs Q E hr hsp => ⟨_, hbody base cdv A outer s H E hr, vU R hsp⟩
theorem law_start {K : aB} {md : FD} {n : Nat} (h : ∀ ns : List Int, ns.length <= n -> ∃ S, md [.scr ns] [] = .ok (.dat (.bl true)) S) (H : Hp) (a : Addr) (ns : List Int) (hl : ns.length <= n) (hO : Only H) (hS : SqL K H a (ns.map V.int)) : spF K md [.ref a] H (fun v _ => v = .bl true) fun _ _ _ => False := by
 obtain ⟨S, e⟩ := h ns hl;refine ⟨fun _ => False, [], [], [.scr ns], ⟨rfl, fun n c a h => by simp at h, fun n m c c' a h => by simp at h, fun a ⟨n, c, h, _⟩ => by simp at h, fun a h => h.elim⟩, ⟨_, _, rfl, ⟨a, rfl, ?_⟩, rfl⟩, ?_⟩
 ·rcases hS with (h | ⟨o, h⟩) | h
  ·rcases hO a with q | ⟨o, xs, q⟩
   ·rw [h] at q; cases q
   ·rw [h] at q; cases q
  ·exact .inl ⟨o, h⟩
  ·exact .inr (.inr h)
 ·rw [e]
  exact fun φ' v H' _ _ r => r
theorem IM {K : aB} {C : Addr} (q : Ka K C = true) : ∃ nm q N bs bm sn sub ab col dd k0 k1 k2 k3 k5, K.lookup C = some (excClassObj nm q C N bs bm true sn sub ab col dd k0 k1 k2 k3 k5 "ValueError.__new__") /\ PySem.HandSPX.refsVE bm = true := by
 unfold Ka at q;split at q
 ·rename_i dd cd sl ho
  split at q
  ·rename_i C' bm k0 k1 k2 k3 n k5 hm hs
   simp only [dM, beq_iff_eq, Bool.not_eq_true'] at q;obtain ⟨⟨⟨⟨rfl, rfl⟩, hdel⟩, hdi⟩, hbm⟩ := q;obtain ⟨nm, bs, mro, ns, qn, hd, sn, sub, ab, col, del⟩ := cd;dsimp only at hm hdel hdi;subst hm hdel hdi;have hsl : sl = #[k0, k1, k2, k3, some (.builtin "ValueError.__new__"), k5] := by
    obtain ⟨l⟩ := sl;simp only at hs;rw [hs]
   subst hsl;exact ⟨nm, qn, ns, bs, bm, sn, sub, ab, col, dd, k0, k1, k2, k3, k5, ho, hbm⟩
  ·cases q
 ·cases q
structure XaF (K : aB) (mg : Str -> Option Value) (x : Str) (fs : List Str) : Prop where
 cls : OexC K (He.ga K x)
 ini : cR K (.ref (He.ga K x)) "__init__" = some (some (.ref (He.ma K (He.ga K x) "__init__")))
 ty : qP K (.ref (He.ma K (He.ga K x) "__init__")) = some (.type "function")
 glo : mg x = some (.ref (He.ga K x))
 rd : XfC K (He.ga K x)
 no : ∀ f ∈ fs, cR K (.ref (He.ga K x)) f = some none
theorem KD {K : aB} {mg : Str -> Option Value} {x : Str} {fs : List Str} (h : xaB K x fs = true) (g : mg x = some (.ref (He.ga K x))) : XaF K mg x fs := by
 obtain ⟨h1, h⟩ := He.ba h;obtain ⟨h2, h⟩ := He.ba h;obtain ⟨h3, h⟩ := He.ba h;obtain ⟨h4, h⟩ := He.ba h;obtain ⟨h5, h⟩ := He.ba h;obtain ⟨h6, h⟩ := He.ba h;obtain ⟨h7, h⟩ := He.ba h;obtain ⟨h8, h9⟩ := He.ba h;exact ⟨⟨IM h1, of_decide_eq_true h2, of_decide_eq_true h3, of_decide_eq_true h4, h5⟩, of_decide_eq_true h6, of_decide_eq_true h7, g, xfB_ok h8, fun f hf => of_decide_eq_true (aW.mp h9 f hf)⟩
section
variable {P : Program} {w : World} {K : aB} {mg : Str -> Option Value} {base : Heap}
theorem Fi {C : Addr} {f g a b c : Str} : ∀ vs H Q E, KI C f g vs H Q E -> vs.length = [a, b, c].length := fun vs H Q E ⟨_, _, _, e, _⟩ => by rw [e]; rfl
theorem KY {x m q : Str} {fs : List Str} {st : Stmt} {N ps : List Str} {k : Nat} {sp : Sp} (T : XaF K mg x fs) (F : Hh K x "__init__" q st) (S : FnScope N ps (defScope st)) (len : ∀ vs H Q E, sp vs H Q E -> vs.length = ps.length)
  (bnd : ∀ (kV doc pm : Value) (an : Option Addr) (cdv ct : Value) (us : List Value), us.length = ps.length -> bindArgs (eS "__init__" q (defArgs st) (defBody st) (defScope st) .none kV doc pm an cdv ct) ⟨us, []⟩ = pure (ps.zip us))
  (hbody : ∀ (cdv : Value) (A : Around) (outer : List Env) (s : Shared) (H : Hp) (vs : List V) (Q : VK) (E : XK), Room k (A.deeper (envOfC q (defScope st) s.heap.objs.size (He.ma K (He.ga K x) "__init__") cdv)) -> sp vs H Q E ->
   ∃ t, PSs (cxOf CX0 P w K mg base N q (defScope st) (He.ma K (He.ga K x) "__init__") cdv A outer s H E).nox (defBody st) t /\ t { nx := fun _ H' => Q .non H', rt := Q } (start N vs) H) : XcA P w K mg base (k + 1) x ps sp := by
 obtain ⟨fd, F⟩ := F;refine ⟨T.cls, T.ini, T.ty, ⟨fd, FunD.ok F S len fun cdv A outer s H vs Q E hr hsp => ?_, F.bindsN bnd⟩, T.glo⟩
 obtain ⟨t, h, q⟩ := hbody cdv A outer s H vs Q E hr hsp;exact ⟨t, h.nox, q⟩
end
section
variable {X : Cx} {W : WX} {e a b c o i : Expr} {es rest : List Expr} {pos p q p2 tpos apos cpos pos' np : Pos} {x y z f mn C : Str} {K : aB} {ma mb mc mo mx : FE} {mas : FA} {B : Addr -> Prop} {φ φ' : List Addr} {S S' : aK} {H H' : Hp} {σ : L2.St} {Q : VK} {m n : FS} {D : Ends} {ps : List Str} {md : FD} {j k : Nat}
def Jl (n : Nat) : List PH.D := (kM n).map fun (k : Nat) => PH.D.int (((n : Nat) : Int) - 1 - (k : Int))
def Kf (a : FE) : FI := fun ρ S => (a ρ S).bind fun x S1 => match x with
 | .dat (.int j) => if -(2 ^ 62) <= j /\ j < 2 ^ 62 then .ok (Jl j.toNat) S1 else .stuck
 | _ => .stuck
end
theorem rd_X2 {K : aB} {mg : Str -> Option Value} {x f g : Str} {fs : List Str} {a : Addr} {y z : V} {H : Hp} {Q : VK} {D : Ends} (T : XaF K mg x fs) (hf : f ∈ fs) (hg : g ∈ fs) (ha : H a = some (exo a (He.ga K x) none)) (hD : ∀ σ H, D.nx σ H = Q .non H) (h : ∀ dx, H dx = none -> dx ≠ a -> Q .non (upd (upd (upd H dx (exd dx [(f, y)])) a (exo a (He.ga K x) (some dx))) dx (exd dx [(g, z), (f, y)]))) :
  tSeq (tOst K f (yX 0) (yX 1)) (tOst K g (yX 0) (yX 2)) D [some (.ref a), some y, some z] H :=
 ⟨a, He.ga K x, rfl, T.cls, T.no f hf, .inl ⟨ha, fun dx n ne => ⟨a, He.ga K x, rfl, T.cls, T.no g hg, .inr ⟨dx, [(f, y)], upd_same, by rw [upd_ne ne, upd_same], by simp, by rw [hD]; exact h dx n ne⟩⟩⟩⟩
theorem LB {K : aB} {C : Str} (h : isB K C = true) (c : Cls K (He.ga K C)) : IsF K C := by
 obtain ⟨h1, h⟩ := He.ba h;obtain ⟨h2, h⟩ := He.ba h;obtain ⟨h3, h4⟩ := He.ba h;exact ⟨c, of_decide_eq_true h1, of_decide_eq_true h2, of_decide_eq_true h3, of_decide_eq_true h4⟩
section
variable {α β : Type} {a b c o i e : FE} {r : FA} {t u : FT} {m n : FS} {ρ : Ev} {S : aK} {x y z : Vl} {f g : Vl -> Vl -> aK -> Res Vl} {h : Vl -> aK -> Res Vl} {md : FD}
theorem tW {d : α} {k : α -> aK -> Res β} : (Res.ok d S).bind k = k d S := rfl
theorem DG {x : Er} {k : α -> aK -> Res β} : (Res.err x S : Res α).bind k = .err x S := rfl
theorem C9 {d : α} {k : α -> aK -> Out} : (Res.ok d S).toS ρ k = k d S := rfl
theorem Eu {x : Er} {k : α -> aK -> Out} : (Res.err x S : Res α).toS ρ k = .err x ρ S := rfl
theorem GW {k : Nat} : aE k ρ S = (match lk ρ k with | some d => .ok d S | none => .stuck) := rfl
theorem g_c {d : D} : mC d ρ S = .ok (.dat d) S := rfl
def kOp1 (f : Vl -> Vl -> aK -> Res Vl) (b : FE) (ρ : Ev) (x : Vl) (S : aK) : Res Vl := (b ρ S).bind (f x)
theorem g_op : aZ f a b ρ S = (a ρ S).bind (kOp1 f b ρ) := rfl
theorem g_op1 : kOp1 f b ρ x S = (b ρ S).bind (f x) := rfl
theorem g_1 : m1 h a ρ S = (a ρ S).bind h := rfl
theorem g_B : mB a ρ S = (a ρ S).bind unB := rfl
theorem g_unB {k : Bool} : unB (.dat (.bl k)) S = .ok k S := rfl
theorem LK : dH a ρ S = (a ρ S).bind vT := rfl
def L3 (u : FT) (ρ : Ev) (c : Bool) (S : aK) : Res Bool := if c = true then u ρ S else .ok false S
def kOr (u : FT) (ρ : Ev) (c : Bool) (S : aK) : Res Bool := if c = true then .ok true S else u ρ S
def kNot (c : Bool) (S : aK) : Res Bool := .ok (!c) S
theorem g_and : yV t u ρ S = (t ρ S).bind (L3 u ρ) := rfl
theorem g_or : sG t u ρ S = (t ρ S).bind (kOr u ρ) := rfl
theorem g_not : lP t ρ S = (t ρ S).bind kNot := rfl
theorem Gh : L3 u ρ true S = u ρ S := rfl
theorem Gi : L3 u ρ false S = .ok false S := rfl
theorem Iu : kOr u ρ true S = .ok true S := rfl
theorem Iv : kOr u ρ false S = u ρ S := rfl
theorem Lf {c : Bool} : kNot c S = .ok (!c) S := rfl
def GO (b : FE) (ρ : Ev) (x : Vl) (S : aK) : Res Vl := match x with
 | .dat (.bl c) => if c = true then b ρ S else .ok (.dat (.bl false)) S
 | _ => .stuck
def Kv (b : FE) (ρ : Ev) (x : Vl) (S : aK) : Res Vl := match x with
 | .dat (.bl c) => if c = true then .ok (.dat (.bl true)) S else b ρ S
 | _ => .stuck
theorem Lv : lJ a b ρ S = (a ρ S).bind (GO b ρ) := rfl
theorem g_orV : mOrV a b ρ S = (a ρ S).bind (Kv b ρ) := rfl
theorem F0 : GO b ρ (.dat (.bl true)) S = b ρ S := rfl
theorem F2 : GO b ρ (.dat (.bl false)) S = .ok (.dat (.bl false)) S := rfl
theorem Gf : Kv b ρ (.dat (.bl true)) S = .ok (.dat (.bl true)) S := rfl
theorem Gg : Kv b ρ (.dat (.bl false)) S = b ρ S := rfl
def kNV (k : Bool) (S : aK) : Res Vl := .ok (.dat (.bl (!k))) S
def Jv (x : Vl) (S : aK) : Res Vl := (vT x S).bind kNV
theorem LU : G6 a ρ S = (a ρ S).bind Jv := rfl
theorem J3 : Jv x S = (vT x S).bind kNV := rfl
theorem g_kNV {k : Bool} : kNV k S = .ok (.dat (.bl (!k))) S := rfl
def Dy (b : FE) (ρ : Ev) (x : Vl) (k : Bool) (S : aK) : Res Vl := if k = true then .ok x S else b ρ S
def kOrT (b : FE) (ρ : Ev) (x : Vl) (S : aK) : Res Vl := (vT x S).bind (Dy b ρ x)
theorem g_orT : Ki a b ρ S = (a ρ S).bind (kOrT b ρ) := rfl
theorem Lh : kOrT b ρ x S = (vT x S).bind (Dy b ρ x) := rfl
theorem Gj : Dy b ρ x true S = .ok x S := rfl
theorem Gk : Dy b ρ x false S = b ρ S := rfl
theorem GZ {k : Bool} : vT (.dat (.bl k)) S = .ok k S := rfl
def IX (g : Vl -> Vl -> aK -> Res Vl) (c : FE) (ρ : Ev) (y z : Vl) (S : aK) : Res Vl := match z with
 | .dat (.bl k) => if k = true then (c ρ S).bind (g y) else .ok (.dat (.bl false)) S
 | _ => .stuck
def Kz (f g : Vl -> Vl -> aK -> Res Vl) (c : FE) (ρ : Ev) (x y : Vl) (S : aK) : Res Vl := (f x y S).bind (IX g c ρ y)
def kCh1 (f g : Vl -> Vl -> aK -> Res Vl) (b c : FE) (ρ : Ev) (x : Vl) (S : aK) : Res Vl := (b ρ S).bind (Kz f g c ρ x)
theorem JB : oA f g a b c ρ S = (a ρ S).bind (kCh1 f g b c ρ) := rfl
theorem g_ch1 : kCh1 f g b c ρ x S = (b ρ S).bind (Kz f g c ρ x) := rfl
theorem g_ch2 : Kz f g c ρ x y S = (f x y S).bind (IX g c ρ y) := rfl
theorem JC : IX g c ρ y (.dat (.bl true)) S = (c ρ S).bind (g y) := rfl
theorem JD : IX g c ρ y (.dat (.bl false)) S = .ok (.dat (.bl false)) S := rfl
def kIf (a b : FE) (ρ : Ev) (c : Bool) (S : aK) : Res Vl := if c = true then a ρ S else b ρ S
theorem g_if : mIf t a b ρ S = (t ρ S).bind (kIf a b ρ) := rfl
theorem Iw : kIf a b ρ true S = a ρ S := rfl
theorem Iy : kIf a b ρ false S = b ρ S := rfl
theorem Gc : aL ρ S = .ok [] S := rfl
def Cz (x : Vl) (xs : List Vl) (S : aK) : Res (List Vl) := .ok (x :: xs) S
def GJ (r : FA) (ρ : Ev) (x : Vl) (S : aK) : Res (List Vl) := (r ρ S).bind (Cz x)
theorem DE : aC a r ρ S = (a ρ S).bind (GJ r ρ) := rfl
theorem B4 : GJ r ρ x S = (r ρ S).bind (Cz x) := rfl
theorem B3 {xs : List Vl} : Cz x xs S = .ok (x :: xs) S := rfl
def Au (cl : Bool) (xs : List Vl) (S : aK) : Res Vl := match oX xs with
 | some ds => if ds.length <= sizeLine then newL cl ds S else .stuck
 | none => .stuck
def kTup (xs : List Vl) (S : aK) : Res Vl := match oX xs with
 | some ds => if ds.length <= sizeLine then .ok (.dat (.tup ds)) S else .stuck
 | none => .stuck
theorem g_lst {cl : Bool} : cS cl r ρ S = (r ρ S).bind (Au cl) := rfl
theorem g_tup : cZ r ρ S = (r ρ S).bind kTup := rfl
theorem DH : oX [] = some [] := rfl
theorem CG {d : D} {xs : List Vl} : oX (.dat d :: xs) = (match oX xs with | some ds => some (d :: ds) | none => none) := rfl
theorem kTup0 : kTup [] S = .ok (.dat (.tup [])) S := rfl
theorem kTup1 {d : D} : kTup [.dat d] S = .ok (.dat (.tup [d])) S := rfl
theorem kTup2 {d e : D} : kTup [.dat d, .dat e] S = .ok (.dat (.tup [d, e])) S := rfl
theorem kTup3 {d e f : D} : kTup [.dat d, .dat e, .dat f] S = .ok (.dat (.tup [d, e, f])) S := rfl
theorem kTup4 {d e f g : D} : kTup [.dat d, .dat e, .dat f, .dat g] S = .ok (.dat (.tup [d, e, f, g])) S := rfl
theorem kLst0 {cl : Bool} : Au cl [] S = newL cl [] S := rfl
theorem kLst1 {cl : Bool} {d : D} : Au cl [.dat d] S = newL cl [d] S := rfl
theorem kLst2 {cl : Bool} {d e : D} : Au cl [.dat d, .dat e] S = newL cl [d, e] S := rfl
theorem kLst3 {cl : Bool} {d e f : D} : Au cl [.dat d, .dat e, .dat f] S = newL cl [d, e, f] S := rfl
theorem LW {ds : List D} : newL false ds S = .ok (.dat (.lst ds)) S := rfl
theorem LV {ds : List D} : newL true ds S = .ok (.cel S.length) (S ++ [.lst ds]) := rfl
theorem DF : aR md r ρ S = (r ρ S).bind md := rfl
def Ks (cl : Bool) (x : Vl) (lo : Option Int) (hi : Option Int) (S : aK) : Res Vl := K3 cl x lo hi S
def Kt (cl : Bool) (h : FO) (ρ : Ev) (x : Vl) (lo : Option Int) (S : aK) : Res Vl := (h ρ S).bind (Ks cl x lo)
def kSl0 (cl : Bool) (l h : FO) (ρ : Ev) (x : Vl) (S : aK) : Res Vl := (l ρ S).bind (Kt cl h ρ x)
theorem g_sl {cl : Bool} {l h : FO} : IR cl a l h ρ S = (a ρ S).bind (kSl0 cl l h ρ) := rfl
theorem g_sl0 {cl : Bool} {l h : FO} : kSl0 cl l h ρ x S = (l ρ S).bind (Kt cl h ρ x) := rfl
theorem g_sl1 {cl : Bool} {h : FO} {lo : Option Int} : Kt cl h ρ x lo S = (h ρ S).bind (Ks cl x lo) := rfl
theorem g_sl2 {cl : Bool} {lo hi : Option Int} : Ks cl x lo hi S = K3 cl x lo hi S := rfl
theorem g_noP : yT ρ S = .ok none S := rfl
def Ju (x : Vl) (S : aK) : Res (Option Int) := match x with
 | .dat (.int i) => .ok (some i) S
 | _ => .stuck
theorem LR : qV a ρ S = (a ρ S).bind Ju := rfl
theorem J1 {i : Int} : Ju (.dat (.int i)) S = .ok (some i) S := rfl
def Kx (x : Vl) (S : aK) : Res Vl := match x with
 | .cel n => (match S[n]? with
  | some (.lst ds) => .ok (.dat (.lst ds)) (S.set n .dead)
  | _ => .stuck)
 | _ => .stuck
theorem g_frz : Kj a ρ S = (a ρ S).bind Kx := rfl
theorem Lj {n : Nat} {ds : List D} (h : S[n]? = some (.lst ds)) : Kx (.cel n) S = .ok (.dat (.lst ds)) (S.set n .dead) := by simp only [Kx, h]
def L0 (b : FE) (ρ : Ev) (x : Vl) (S : aK) : Res Vl := match lO S x with
 | some _ => (b ρ S).bind (CM x)
 | none => .stuck
theorem g_app : Kn a b ρ S = (a ρ S).bind (L0 b ρ) := rfl
theorem Gu {n : Nat} {ds : List D} (h : S[n]? = some (.lst ds)) : L0 b ρ (.cel n) S = (b ρ S).bind (CM (.cel n)) := by simp only [L0, lO, h]
theorem Gy {n : Nat} {ds : List D} {d : D} (h : S[n]? = some (.lst ds)) (hl : ds.length < sizeLine) : CM (.cel n) (.dat d) S = .ok (.dat .non) (S.set n (.lst (ds ++ [d]))) := by simp only [CM, h, hl, if_true]
def Out.seq (o : Out) (n : FS) : Out := match o with
 | .next ρ S => n ρ S
 | o => o
theorem Ga : aT m n ρ S = (m ρ S).seq n := rfl
theorem DC : (Out.next ρ S).seq n = n ρ S := rfl
theorem Ew {d : Vl} : (Out.ret d S).seq n = .ret d S := rfl
theorem Ex {x : Er} : (Out.err x ρ S).seq n = .err x ρ S := rfl
theorem Ez : (Out.brk ρ S).seq n = .brk ρ S := rfl
theorem Ey : (Out.cnt ρ S).seq n = .cnt ρ S := rfl
theorem LM : bD ρ S = .next ρ S := rfl
def Ku (d : Vl) (S : aK) : Out := .ret d S
theorem g_ret : bI a ρ S = (a ρ S).toS ρ Ku := rfl
theorem Lg {d : Vl} : Ku d S = .ret d S := rfl
def Jy (ρ : Ev) (d : Vl) (S : aK) : Out := .next ρ S
theorem Lu : wZ a ρ S = (a ρ S).toS ρ (Jy ρ) := rfl
theorem J7 {d : Vl} : Jy ρ d S = .next ρ S := rfl
def Kw (m n : FS) (ρ : Ev) (c : Bool) (S : aK) : Out := if c = true then m ρ S else n ρ S
theorem g_ifS : bV t m n ρ S = (t ρ S).toS ρ (Kw m n ρ) := rfl
theorem Gn : Kw m n ρ true S = m ρ S := rfl
theorem Gp : Kw m n ρ false S = n ρ S := rfl
def IY (t : Tg) (ρ : Ev) (d : Vl) (S : aK) : Out := match mU t d ρ with
 | some ρ' => .next ρ' S
 | none => .stuck
theorem g_asg {t : Tg} : bT a t ρ S = (a ρ S).toS ρ (IY t ρ) := rfl
theorem Ll {k : Nat} {d : Vl} : IY (.nm k) ρ d S = .next (ρ.set k (some d)) S := rfl
theorem J9 {i j : Nat} {d e : D} : IY (.tp [i, j]) ρ (.dat (.tup [d, e])) S = .next ((ρ.set i (some (.dat d))).set j (some (.dat e))) S := rfl
theorem J8 {i j k : Nat} {d e f : D} : IY (.tp [i, j, k]) ρ (.dat (.tup [d, e, f])) S = .next (((ρ.set i (some (.dat d))).set j (some (.dat e))).set k (some (.dat f))) S := rfl
def kFor (t : Tg) (m : FS) (ρ : Ev) (ds : List D) (S : aK) : Out := loop t m ds ρ S
theorem g_for {mi : FI} {t : Tg} : yU mi t m ρ S = (mi ρ S).toS ρ (kFor t m ρ) := rfl
theorem Lk {t : Tg} {ds : List D} : kFor t m ρ ds S = loop t m ds ρ S := rfl
def zY (cl : Bool) (t : Tg) (u : FT) (e : FE) (ρ : Ev) (vs : List Nat) (ds : List D) (S : aK) : Res Vl := if ds.length <= sizeLine then (match jZ t u e (wipeE ρ vs) ds S with
 | .ok es S2 => newL cl es S2
 | _ => .stuck) else .stuck
theorem g_lc {cl : Bool} {mi : FI} {t : Tg} {vs : List Nat} : Dw cl mi t u e vs ρ S = (mi ρ S).bind (zY cl t u e ρ vs) := rfl
theorem LO : jA a ρ S = (a ρ S).bind itemsOf := rfl
theorem Gw {ds : List D} : itemsOf (.dat (.lst ds)) S = .ok ds S := rfl
theorem Gv {ds : List D} : itemsOf (.dat (.tup ds)) S = .ok ds S := rfl
def GE (x : Vl) (S : aK) : Res (List D) := match x with
 | .dat (.int j) => if -(2 ^ 62) <= j /\ j < 2 ^ 62 then .ok (oU 0 j.toNat) S else .stuck
 | _ => .stuck
theorem LP : wY a ρ S = (a ρ S).bind GE := rfl
theorem oD {j : Int} (h1 : -(2 ^ 62) <= j) (h2 : j < 2 ^ 62) : GE (.dat (.int j)) S = .ok (oU 0 j.toNat) S := by unfold GE; exact if_pos ⟨h1, h2⟩
def kRev1 (x : Vl) (S : aK) : Res (List D) := match x with
 | .dat (.int j) => if -(2 ^ 62) <= j /\ j < 2 ^ 62 then .ok (Jl j.toNat) S else .stuck
 | _ => .stuck
theorem Io : Kf a ρ S = (a ρ S).bind kRev1 := rfl
def Jx (x : Vl) (S : aK) : Res (List D) := match x with
 | .dat (.lst ds) => .ok (dG 0 ds) S
 | _ => .stuck
theorem Ls : Bt a ρ S = (a ρ S).bind Jx := rfl
theorem J6 {ds : List D} : Jx (.dat (.lst ds)) S = .ok (dG 0 ds) S := rfl
def Out.wipe (o : Out) (is : List Nat) : Out := match o with
 | .next ρ S => .next (wipeE ρ is) S
 | .cnt ρ S => .cnt (wipeE ρ is) S
 | .brk ρ S => .brk (wipeE ρ is) S
 | o => o
theorem LD {is : List Nat} : lU is m ρ S = (m ρ S).wipe is := by unfold lU Out.wipe; cases m ρ S <;> rfl
theorem C7 {is : List Nat} : (Out.next ρ S).wipe is = .next (wipeE ρ is) S := rfl
theorem D0 {is : List Nat} {d : Vl} : (Out.ret d S).wipe is = .ret d S := rfl
theorem DA {is : List Nat} {x : Er} : (Out.err x ρ S).wipe is = .err x ρ S := rfl
theorem Ly {cl : Bool} {i j : Int} : dY cl (.dat (.int i)) (.dat (.int j)) S = .ok (.dat (.int (i + j))) S := rfl
theorem LL {i j : Int} : rM (.dat (.int i)) (.dat (.int j)) S = .ok (.dat (.int (i - j))) S := rfl
theorem kK {i j : Int} (h : 0 < j) : qS (.dat (.int i)) (.dat (.int j)) S = .ok (.dat (.int (i % j))) S := if_pos h
theorem DD {i j : Int} (h : IntMulOk i j) : DK (.dat (.int i)) (.dat (.int j)) S = .ok (.dat (.int (i * j))) S := if_pos h
theorem vM {i j : Int} (h : CDiv i j) : oS (.dat (.int i)) (.dat (.int j)) S = .ok (.dat (.int (i / j))) S := if_pos h
theorem g_ltI {i j : Int} : Fd (.dat (.int i)) (.dat (.int j)) S = .ok (.dat (.bl (decide (i < j)))) S := rfl
theorem g_leI {i j : Int} : Fe (.dat (.int i)) (.dat (.int j)) S = .ok (.dat (.bl (decide (i <= j)))) S := rfl
theorem g_gtI {i j : Int} : FF (.dat (.int i)) (.dat (.int j)) S = .ok (.dat (.bl (decide (j < i)))) S := rfl
theorem g_geI {i j : Int} : fGe (.dat (.int i)) (.dat (.int j)) S = .ok (.dat (.bl (decide (j <= i)))) S := rfl
theorem g_eqI {i j : Int} : eK (.dat (.int i)) (.dat (.int j)) S = .ok (.dat (.bl (decide (i = j)))) S := rfl
theorem g_neI {i j : Int} : Ce (.dat (.int i)) (.dat (.int j)) S = .ok (.dat (.bl (!decide (i = j)))) S := rfl
theorem g_eqS {i j : Str} : eK (.dat (.str i)) (.dat (.str j)) S = .ok (.dat (.bl (decide (i = j)))) S := rfl
theorem g_neS {i j : Str} : Ce (.dat (.str i)) (.dat (.str j)) S = .ok (.dat (.bl (!decide (i = j)))) S := rfl
theorem g_eqB {i j : Bool} : eK (.dat (.bl i)) (.dat (.bl j)) S = .ok (.dat (.bl (i == j))) S := by cases i <;> cases j <;> rfl
theorem g_neB {i j : Bool} : Ce (.dat (.bl i)) (.dat (.bl j)) S = .ok (.dat (.bl (!(i == j)))) S := by cases i <;> cases j <;> rfl
theorem g_neg {i : Int} : yW (.dat (.int i)) S = .ok (.dat (.int (-i))) S := rfl
theorem Ln {i : Int} : xR (.dat (.int i)) S = .ok (.dat (.int i)) S := rfl
theorem Lo {k : Bool} : xR (.dat (.bl k)) S = .ok (.dat (.int (if k then 1 else 0))) S := rfl
theorem Lc {xs : List D} : kD (.dat (.tup xs)) S = .ok (.dat (.int xs.length)) S := rfl
theorem Ld {xs : List D} : kD (.dat (.lst xs)) S = .ok (.dat (.int xs.length)) S := rfl
theorem Le {n : Nat} {xs : List D} (h : S[n]? = some (.lst xs)) : kD (.cel n) S = .ok (.dat (.int xs.length)) S := by simp only [kD, lO, h]
theorem A4 {xs : List D} {k : Int} {d : D} (h : atI xs k = some d) : cV (.dat (.tup xs)) (.dat (.int k)) S = .ok (.dat d) S := by simp only [cV, h]
theorem CB {xs : List D} {k : Int} {d : D} (h : atI xs k = some d) : cV (.dat (.lst xs)) (.dat (.int k)) S = .ok (.dat d) S := by simp only [cV, lO, h]
theorem g_ixC {n : Nat} {xs : List D} {k : Int} {d : D} (h : S[n]? = some (.lst xs)) (h2 : atI xs k = some d) : cV (.cel n) (.dat (.int k)) S = .ok (.dat d) S := by simp only [cV, lO, h, h2]
theorem Lx {cl : Bool} {xs ys : List D} (h : xs.length + ys.length <= sizeLine) : dY cl (.dat (.tup xs)) (.dat (.tup ys)) S = .ok (.dat (.tup (xs ++ ys))) S := if_pos h
theorem jH {cl : Bool} {xs ys : List D} (h : xs.length + ys.length <= sizeLine) : dY cl (.dat (.lst xs)) (.dat (.lst ys)) S = newL cl (xs ++ ys) S := by simp only [dY, lO, h, if_true]
theorem CF {neg : Bool} : FC neg x (.dat .non) S = .ok (.dat (.bl (if neg then !(isNon x) else isNon x))) S := rfl
theorem eU {α : Type} {xs : List α} {k : Int} {n : Nat} (h : k = (n : Int)) : atI xs k = xs[n]? := by
 subst h;unfold atI ixN
 by_cases hl : n < xs.length
 ·rw [if_pos (by omega), if_pos (by omega)]; simp
 ·rw [if_pos (by omega), if_neg (by omega)]
  simp [pA hl]
theorem K1 : fJ ρ S = .ok true S := rfl
theorem LH {xs : List D} : vT (.dat (.lst xs)) S = .ok (!xs.isEmpty) S := rfl
theorem LJ {i : Int} : vT (.dat (.int i)) S = .ok (i != 0) S := rfl
theorem CC {xs : List D} : isNon (.dat (.tup xs)) = false := rfl
theorem CD : isNon (.dat .non) = true := rfl
theorem g_slT {cl : Bool} {xs : List D} {lo hi : Option Int} : K3 cl (.dat (.tup xs)) lo hi S = .ok (.dat (.tup (cutD xs lo hi))) S := rfl
theorem g_slL {cl : Bool} {xs : List D} {lo hi : Option Int} : K3 cl (.dat (.lst xs)) lo hi S = newL cl (cutD xs lo hi) S := rfl
theorem g_slS {cl : Bool} {ns : List Int} {lo hi : Option Int} : K3 cl (.scr ns) lo hi S = newL cl (cutD (ns.map D.int) lo hi) S := rfl
theorem Ir {cl : Bool} {xs : List D} : A8 cl (.dat (.lst xs)) S = newL cl xs S := rfl
theorem Iq {cl : Bool} {xs : List D} : A8 cl (.dat (.tup xs)) S = newL cl xs S := rfl
theorem GX {xs : List D} : fTuple (.dat (.lst xs)) S = .ok (.dat (.tup xs)) S := rfl
end
section
variable {a b o : FE} {r : FA} {m n : FS} {ρ : Ev} {S : aK} {x y : Vl} {md : FD} {C f : Str} {ns : List Str}
theorem Ip : Kh C ρ S = .err ⟨C, [], []⟩ ρ S := rfl
def As (C : Str) (ns : List Str) (ρ : Ev) (xs : List Vl) (S : aK) : Out := match oX xs with
 | some ds => if ds.length = ns.length then .err ⟨C, ns, ds.reverse⟩ ρ S else .stuck
 | none => .stuck
theorem Gb : lV C ns r ρ S = (r ρ S).toS ρ (As C ns ρ) := rfl
theorem F4 {f : Str} {d : D} : As C [f] ρ [.dat d] S = .err ⟨C, [f], [d]⟩ ρ S := rfl
theorem F3 {f g : Str} {d e : D} : As C [f, g] ρ [.dat d, .dat e] S = .err ⟨C, [f, g], [e, d]⟩ ρ S := rfl
def Ar (C f : Str) (ρ : Ev) (d x : Vl) (S : aK) : Out := match Hx S C f x d with
 | some S3 => .next ρ S3
 | none => .stuck
def Jt (C f : Str) (o : FE) (ρ : Ev) (d : Vl) (S : aK) : Out := (o ρ S).toS ρ (Ar C f ρ d)
theorem LN : Du C f o a ρ S = (a ρ S).toS ρ (Jt C f o ρ) := rfl
theorem Iz {d : Vl} : Jt C f o ρ d S = (o ρ S).toS ρ (Ar C f ρ d) := rfl
theorem CA {n : Nat} {d : Vl} {fs : List (Str × Vl)} (h : S[n]? = some (.ins C fs)) (hl : fs.length < 1000) : Ar C f ρ d (.cel n) S = .next ρ (S.set n (.ins C (zM f d fs))) := by simp only [Ar, Hx, h, true_and, hl, if_true]
def By (kp : Bool) (C : Str) (md : FD) (ds : List Vl) (S : aK) : Res Vl := made kp S.length (md (.cel S.length :: ds) (S ++ [.ins C []]))
theorem LZ {kp : Bool} : zR kp C md r ρ S = (r ρ S).bind (By kp C md) := rfl
def Cy (md : FD) (x : Vl) (ds : List Vl) (S : aK) : Res Vl := md (x :: ds) S
def Jw (C f : Str) (md : FD) (r : FA) (ρ : Ev) (x : Vl) (S : aK) : Res Vl := if jB S C f x = true then (r ρ S).bind (Cy md x) else .stuck
theorem LY : Br C f md o r ρ S = (o ρ S).bind (Jw C f md r ρ) := rfl
theorem B0 (h : jB S C f x = true) : Jw C f md r ρ x S = (r ρ S).bind (Cy md x) := if_pos h
theorem Gm {ds : List Vl} : Cy md x ds S = md (x :: ds) S := rfl
def Ky (C f : Str) (x : Vl) (S : aK) : Res Vl := match CH S C f x with
 | some d => .ok d S
 | none => .stuck
theorem g_fld : Cr C f o ρ S = (o ρ S).bind (Ky C f) := rfl
theorem J5 {ns : List Str} {xs : List D} : Ky C f (.dat (.ins C ns xs)) S = (match (ns.zip xs).lookup f with | some d => .ok (.dat d) S | none => .stuck) := by
 simp only [Ky, CH, if_true];cases (ns.zip xs).lookup f <;> rfl
def Out.tryA (o : Out) (cs : List Str) (c : Str) (k : Nat) (its : List XIt) : Out := match o with
 | .err e ρ' S' => if (e.cls ∈ cs /\ c ∈ cs) /\ k < ρ'.length then (if e.cls = c then (match itF e its with
   | some ds => if ds.length <= sizeLine then .ret (.dat (.tup ds)) S' else .stuck
   | none => .stuck) else .err e ρ' S') else .stuck
 | o => o
theorem LG {cs : List Str} {c : Str} {k : Nat} {its : List XIt} : Jp cs m c k its ρ S = (m ρ S).tryA cs c k its := by unfold Jp Out.tryA; cases m ρ S <;> rfl
theorem C8 {cs : List Str} {c : Str} {k : Nat} {its : List XIt} : (Out.next ρ S).tryA cs c k its = .next ρ S := rfl
theorem DB {cs : List Str} {c : Str} {k : Nat} {its : List XIt} {d : Vl} : (Out.ret d S).tryA cs c k its = .ret d S := rfl
end
theorem oE : ((0 : Nat) : Int) = 0 := rfl
theorem sJ : ((1 : Nat) : Int) = 1 := rfl
theorem JL : ((2 : Nat) : Int) = 2 := rfl
theorem JK : ((3 : Nat) : Int) = 3 := rfl
theorem JJ : ((4 : Nat) : Int) = 4 := rfl
theorem JI : ((5 : Nat) : Int) = 5 := rfl
theorem JH : ((6 : Nat) : Int) = 6 := rfl
theorem JG : ((7 : Nat) : Int) = 7 := rfl
theorem JF : ((8 : Nat) : Int) = 8 := rfl
theorem JE : ((9 : Nat) : Int) = 9 := rfl
theorem H8 : ((10 : Nat) : Int) = 10 := rfl
theorem H7 : ((11 : Nat) : Int) = 11 := rfl
theorem H6 : ((12 : Nat) : Int) = 12 := rfl
theorem Gz : ((13 : Nat) : Int) = 13 := rfl
theorem str_inj {a b : String} (h : Str.ofString a = Str.ofString b) : a = b := by
 rw [Str.ofString_eq_toList, Str.ofString_eq_toList] at h
 injection h with h
 have h2 := congrArg Array.toList h;simp only at h2;have : ∀ {l m : List Char}, l.map Char.toNat = m.map Char.toNat -> l = m := fun {l} => by
  induction l with
  | nil => intro m h; cases m <;> simp at h ⊢
  | cons c l ih =>
   intro m h;cases m with
   | nil => simp at h
   | cons d m =>
    simp only [aM, List.cons.injEq] at h;rw [ih h.2];have : c = d := by
     have := congrArg Char.ofNat h.1
     simpa using this
    rw [this]
 exact String.toList_inj.mp (this h2)
theorem Ab {a b : String} : (Str.ofString a = Str.ofString b) = (a = b) := propext ⟨str_inj, fun h => by rw [h]⟩
theorem walk_x {l : PySem.W.OpenLaw} {n k : Nat} {q : Program} {loose : List Str} {XP : (Str -> Option Value) -> Heap -> Prop} {YP : World -> Heap -> Prop} {d : DefRec} {x : Str} (e1 : l.most = some n) (e2 : n <= sizeLine) (e3 : d.params.defaults = []) (e4 : Room k callerA)
  (e5 : ∀ (w : World) (mg : Str -> Option Value) (fa : Addr) (h : Heap), YP w h -> h.Ns mainGlobals mg -> mg d.name = some (.ref fa) -> ∃ (K : aB) (fd : FuncData) (sp : Sp), K.In h /\ (∀ (s : Shared) (u : Value), BindsTo s fd ⟨[u], []⟩ [(x, u)]) /\
   (∀ (H : Hp) (a : Addr) (ns : List Int), ns.length <= n -> Only H -> SqL K H a (ns.map V.int) -> sp [.ref a] H (fun v _ => v = .bl true) fun _ _ _ => False) /\ ∀ base : Heap, K.In base -> base.Ns mainGlobals mg -> FnOk l.prog w K mg base (L2.CX l.prog w) k fa fd [x] sp) :
  PySem.W.WalkO q loose XP YP l.row.toRowW d [] (fun f vs => PySem.call f vs) :=
 Att.attach_call e1 e3 fun w s0 s1 mg mb fa o pm cd doc a vs ns G Y _ _ _ m1 m2 m3 m4 m5 => by
  obtain ⟨K, fd, sp, KX, hb, hs, hF⟩ := e5 w mg fa _ Y G.T.g m1;refine law_call KX G.T.g G.T.b G.T.builtins G.T.nolimit m5 m2 m3 (Nat.le_trans m4 e2) e4 hF hb (fun H h1 h2 => hs H a ns m4 h1 h2) fun H e s' z => ?_
  obtain ⟨_, _, _, _, _, _, _, _, _, _, _, _, h⟩ := z;exact h
section
variable {X : Cx} {W : WX} {C : Str} {md : FD} {o i a b : Expr} {mo mi ma mb : FE} {pos p : Pos} {j k : Nat} {ps : List Str} {K : aB}
def fGetO (C : Str) (md : FD) (x y : Vl) (S : aK) : Res Vl := if jB S C "" x = true then md [x, y] S else .stuck
def fInO (C : Str) (md : FD) (y x : Vl) (S : aK) : Res Vl := if jB S C "" x = true then CQ (md [x, y] S) else .stuck
def GF (x : Vl) (S : aK) : Res (List PH.D) := match x with
 | .dat (.lst ds) => .ok ds.reverse S
 | _ => .stuck
def mRevL (a : FE) : FI := fun ρ S => (a ρ S).bind GF
def fMin2 (x y : Vl) (S : aK) : Res Vl := match x, y with
 | .dat (.int i), .dat (.int j) => .ok (.dat (.int (if j < i then j else i))) S
 | _, _ => .stuck
theorem LQ {ρ : Ev} {S : aK} : mRevL ma ρ S = (ma ρ S).bind GF := rfl
theorem J0 {S : aK} {ds : List PH.D} : GF (.dat (.lst ds)) S = .ok ds.reverse S := rfl
theorem LX {S : aK} {x y : Int} : fMin2 (.dat (.int x)) (.dat (.int y)) S = .ok (.dat (.int (if y < x then y else x))) S := rfl
theorem Lp {S : aK} {x y : Vl} (h : jB S C "" x = true) : fGetO C md x y S = md [x, y] S := if_pos h
theorem g_inO {S : aK} {x y : Vl} (h : jB S C "" x = true) : fInO C md y x S = CQ (md [x, y] S) := if_pos h
theorem JO {S : aK} {b : Bool} : CQ (.ok (.dat (.bl b)) S) = .ok (.dat (.bl b)) S := rfl
def Jq (k : Nat) : FS := fun ρ S => match lk ρ k with
 | some (.cel n) => (match S[n]? with
  | some (.lst ds) => .next (ρ.set k (some (.dat (.lst ds)))) (S.set n .dead)
  | _ => .stuck)
 | _ => .stuck
theorem Lq {k n : Nat} {ρ : Ev} {S : aK} {ds : List PH.D} (h : lk ρ k = some (.cel n)) (h2 : S[n]? = some (.lst ds)) : Jq k ρ S = .next (ρ.set k (some (.dat (.lst ds)))) (S.set n .dead) := by simp only [Jq, h, h2]
end
open AutoSeq1 (wpAny_loadPart')
section
variable {X : Cx} {W : WX} {a : Expr} {ma : FE} {pos p : Pos}
def Kk (a : FE) : FI := fun ρ S => (a ρ S).bind fun x S1 => match x with
 | .dat (.tup ds) => .ok (dG 0 ds) S1
 | _ => .stuck
def GH (x : Vl) (S : aK) : Res (List PH.D) := match x with
 | .dat (.tup ds) => .ok (dG 0 ds) S
 | _ => .stuck
theorem JA {ρ : Ev} {S : aK} : Kk ma ρ S = (ma ρ S).bind GH := rfl
theorem Gq {S : aK} {ds : List PH.D} : GH (.dat (.tup ds)) S = .ok (dG 0 ds) S := rfl
end
section
variable {X : Cx} {W : WX} {e a b c o : Expr} {es rest : List Expr} {pos p q p2 tpos apos cpos : Pos} {x y z C f : Str} {K : aB} {ma mb mc mo me : FE} {mt mu : FT} {mas : FA} {mi mj : FI} {B : Addr -> Prop} {φ φ' : List Addr} {S S' : aK} {H H' : Hp} {σ : L2.St} {Q : VK} {m n : FS} {st : Stmt} {yK : List Stmt} {D : Ends} {t t1 : Tg}
def mLcC (mi : FI) (t : Tg) (vs : List Nat) : FE := fun ρ S => (mi ρ S).bind fun ds S1 => if ds.length <= sizeLine /\ (∀ d ∈ ds, (mU t (.dat d) (wipeE ρ vs)).isSome = true) then .ok (.cels (Fb S1.length ds.length)) (S1 ++ mS ds.length (.lst [])) else .stuck
def kLcC (t : Tg) (ρ : Ev) (vs : List Nat) (ds : List PH.D) (S : aK) : Res Vl := if ds.length <= sizeLine /\ (∀ d ∈ ds, (mU t (.dat d) (wipeE ρ vs)).isSome = true) then .ok (.cels (Fb S.length ds.length)) (S ++ mS ds.length (.lst [])) else .stuck
theorem g_lcC {ρ : Ev} {S : aK} {vs : List Nat} : mLcC mi t vs ρ S = (mi ρ S).bind (kLcC t ρ vs) := rfl
theorem Li {ρ : Ev} {S : aK} {vs : List Nat} {k : Nat} {ds : List PH.D} (h : ds.length <= sizeLine) : kLcC (.nm k) ρ vs ds S = .ok (.cels (Fb S.length ds.length)) (S ++ mS ds.length (.lst [])) := if_pos ⟨h, fun _ _ => rfl⟩
def Km (md : FD) (dd : PH.D) (as : FA) : FE := fun ρ S => (as ρ S).bind fun ds S1 => md (ds ++ [.dat dd]) S1
def GM (md : FD) (dd : PH.D) (ds : List Vl) (S : aK) : Res Vl := md (ds ++ [.dat dd]) S
theorem JN {md : FD} {dd : PH.D} {ρ : Ev} {S : aK} : Km md dd mas ρ S = (mas ρ S).bind (GM md dd) := rfl
theorem Gr {md : FD} {dd : PH.D} {ds : List Vl} {S : aK} : GM md dd ds S = md (ds ++ [.dat dd]) S := rfl
def Kl (n : Nat) (md : FD) (as : FA) (a : FE) : FE := fun ρ S => (as ρ S).bind fun ds S1 => if ds.length = n then (a ρ S1).bind fun d S2 => md (ds ++ [d]) S2 else .stuck
def Av (md : FD) (ds : List Vl) (d : Vl) (S : aK) : Res Vl := md (ds ++ [d]) S
def GL (n : Nat) (md : FD) (a : FE) (ρ : Ev) (ds : List Vl) (S : aK) : Res Vl := if ds.length = n then (a ρ S).bind (Av md ds) else .stuck
theorem JM {md : FD} {n : Nat} {ρ : Ev} {S : aK} : Kl n md mas ma ρ S = (mas ρ S).bind (GL n md ma ρ) := rfl
theorem F5 {md : FD} {ρ : Ev} {S : aK} {x y z : Vl} : GL 3 md ma ρ [x, y, z] S = (ma ρ S).bind (Av md [x, y, z]) := rfl
theorem F6 {md : FD} {ds : List Vl} {d : Vl} {S : aK} : Av md ds d S = md (ds ++ [d]) S := rfl
end
def EV0 := aD @tW (aD @DG (aD @C9 (aD @Eu (aD @GW (aD @g_c (aD @g_op (aD @g_op1 (aD @g_1 (aD @g_B (aD @g_unB (aD @LK (aD @g_and (aD @g_or (aD @g_not (aD @Gh (aD @Gi (aD @Iu (aD @Iv (aD @Lf (aD @Lv (aD @g_orV (aD @F0 (aD @F2 (aD @Gf (aD @Gg (aD @LU (aD @J3 (aD @g_kNV (aD @g_orT (aD @Lh (aD @Gj (aD @Gk (aD @GZ (aD @JB (aD @g_ch1 (aD @g_ch2 (aD @JC (aD @JD (aD @g_if (aD @Iw (aD @Iy (aD @Gc (aD @DE (aD @B4 (aD @B3 (aD @g_lst (aD @g_tup (aD @DH (aD @CG (aD @kTup0 (aD @kTup1 (aD @kTup2 (aD @kTup3 (aD @kTup4 (aD @kLst0 (aD @kLst1 (aD @kLst2 (aD @kLst3 (@LW)))))))))))))))))))))))))))))))))))))))))))))))))))))))))))
def EV1 := aD @LV (aD @DF (aD @g_sl (aD @g_sl0 (aD @g_sl1 (aD @g_sl2 (aD @g_noP (aD @LR (aD @J1 (aD @g_frz (aD @g_app (aD @Ga (aD @DC (aD @Ew (aD @Ex (aD @Ez (aD @Ey (aD @LM (aD @g_ret (aD @Lg (aD @Lu (aD @J7 (aD @g_ifS (aD @Gn (aD @Gp (aD @g_asg (aD @Ll (aD @J9 (aD @J8 (aD @g_for (aD @Lk (aD @g_lc (aD @LO (aD @Gw (aD @Gv (aD @LP (aD @Io (aD @Ls (aD @J6 (aD @LD (aD @C7 (aD @D0 (aD @DA (aD @Ly (aD @LL (aD @g_ltI (aD @g_leI (aD @g_gtI (aD @g_geI (aD @g_eqI (aD @g_neI (aD @g_eqS (aD @g_neS (aD @g_eqB (aD @g_neB (aD @g_neg (aD @Ln (aD @Lo (aD @Lc (@Ld)))))))))))))))))))))))))))))))))))))))))))))))))))))))))))
def EV2 := aD @CF (aD @K1 (aD @LH (aD @LJ (aD @CC (aD @CD (aD @g_slT (aD @g_slL (aD @g_slS (aD @Ir (aD @Iq (aD @GX (aD @Ip (aD @Gb (aD @F4 (aD @F3 (aD @LN (aD @Iz (aD @LZ (aD @LY (aD @Gm (aD @g_fld (aD @J5 (aD @LG (aD @C8 (aD @DB (aD @oE (aD @sJ (aD @JL (aD @JK (aD @JJ (aD @JI (aD @JH (aD @JG (aD @JF (aD @JE (aD @H8 (aD @H7 (aD @H6 (aD @Gz (aD @LQ (aD @J0 (aD @LX (aD @Lp (aD @g_inO (aD @JO (aD @Lq (aD @JA (aD @Gq (aD @g_lcC (aD @Li (aD @JN (aD @Gr (aD @JM (aD @F5 (aD @F6 (@Ab))))))))))))))))))))))))))))))))))))))))))))))))))))))))
end PH
local macro_rules
 | `(tactic| simp! [$xs,*] $[$l:location]?) => `(tactic| simp (config := { implicitDefEqProofs := false }) only [$xs,*, PH.EV0, PH.EV1, PH.EV2, cM, dA, Bool.not_true, Bool.not_false, eq_self, if_true, if_false, Bool.true_or, Bool.false_or, Bool.or_true, Bool.or_false, Bool.and_true, Bool.true_and, BN, Bool.false_and, lQ, bE, bS, beq_self_eq_true, Bool.false_eq_true, PH.lk, PH.isTy, PH.fIsi, PH.fIsi2, PH.kindOf, PH.wipeE, decide_true, decide_false, Int.reduceEq, Int.reduceLT, Int.reduceLE, Int.reduceSub, Int.reduceAdd, Int.reduceNeg, Int.reduceToNat, Int.reduceNe, Nat.reduceAdd, Nat.reduceLT, Nat.reduceLeDiff, String.reduceEq, String.reduceBEq] $[$l:location]?)
namespace PH
open PySem PySem.Spec PyProof.Rows L2
section
variable {X : Cx} {W : WX} {e a b c o i : Expr} {es rest : List Expr} {pos pos' p q p2 tpos apos cpos : Pos} {x y z C f : Str} {K : aB} {ma mb mc mo me mi mv : FE} {mt mu : FT} {mas : FA} {B : Addr -> Prop} {φ φ' : List Addr} {S S' : aK} {H H' : Hp} {σ : L2.St} {Q : VK} {m n : FS} {st : Stmt} {yK : List Stmt} {D : Ends} {t t1 : Tg}
def fInL (x y z : Vl) (S : aK) : Res Vl := match x, y, z with
 | .cel n, .dat (.int k), .dat d => (match S[n]? with
  | some (.lst ds) => if ds.length < sizeLine /\ 0 <= k /\ k < 2 ^ 63 then .ok (.dat .non) (S.set n (.lst (ds.take k.toNat ++ [d] ++ ds.drop k.toNat))) else .stuck
  | _ => .stuck)
 | _, _, _ => .stuck
def C2 (x : Vl) (S1 : aK) : Res Vl := match x with
 | .cel n => (match S1[n]? with
  | some (.lst ds) => .ok (.dat (.lst ds)) (S1.set n .dead)
  | _ => .stuck)
 | .dat d => .ok (.dat d) S1
 | _ => .stuck
def G7 (a : FE) : FE := fun ρ S => (a ρ S).bind C2
theorem M6 (ha : PE X a (bU X.K W ma)) : PE X a (bU X.K W (G7 ma)) := bP ha fun σ H Q h =>
 bJ (k := fun x _ S1 => C2 x S1) h fun B φ S ρ d v H1 I E r f => by
  unfold C2 at f;split at f
  ·rename_i n
   obtain ⟨a, rfl, h1⟩ := r;split at f
   ·rename_i ds q
    obtain ⟨vs, h2, l⟩ := I.ok n _ a q h1;have X1 := Ext.kill (φ := φ) (S := S) (H := H1) (n := n);exact f φ _ H1 I.kill X1 ⟨a, vs, rfl, I.killed q (by simp) h1, h2, X1.repL I l⟩
   ·exact f.elim
  ·exact Fin.now f I r
  ·exact f.elim
end
section
variable {X : Cx} {W : WX} {e a b c o i : Expr} {es rest : List Expr} {pos pos' p q p2 tpos apos cpos : Pos} {x y z C f : Str} {K : aB} {ma mb mc mo me mi mv : FE} {mt mu : FT} {mas : FA} {B : Addr -> Prop} {φ φ' : List Addr} {S S' : aK} {H H' : Hp} {σ : L2.St} {Q : VK} {m n : FS} {st : Stmt} {yK : List Stmt} {D : Ends} {t t1 : Tg}
theorem RepVs.getV : ∀ {ds : List Vl} {vs : List L2.V} {i : Nat} {d : Vl}, RepVs K B φ S H ds vs -> ds[i]? = some d -> ∃ v, vs[i]? = some v /\ RepV K B φ S H d v
 | [], vs, i, d, h, q => by simp at q
 | d :: ds, vs, 0, d', ⟨v, ws, e, h1, h2⟩, q => by simp at q; subst q e; exact ⟨v, rfl, h1⟩
 | d :: ds, vs, i + 1, d', ⟨v, ws, e, h1, h2⟩, q => by
  subst e;obtain ⟨v', h3, h4⟩ := RepVs.getV (i := i) (d := d') h2 (by simpa using q)
  exact ⟨v', by simpa using h3, h4⟩
theorem RepVs.app : ∀ {ds es : List Vl} {vs ws : List L2.V}, RepVs K B φ S H ds vs -> RepVs K B φ S H es ws -> RepVs K B φ S H (ds ++ es) (vs ++ ws)
 | [], es, vs, ws, h, h' => by cases h; exact h'
 | d :: ds, es, vs, ws, ⟨v, us, e, h1, h2⟩, h' => by subst e; exact ⟨v, us ++ ws, rfl, h1, RepVs.app h2 h'⟩
def Eo (S : aK) : Vl -> Option (List Vl)
 | .cel n => match S[n]? with
  | some (.lv xs) => some xs
  | _ => none
 | _ => none
theorem xA {d : Vl} {v : L2.V} {xs : List Vl} (I : GInv K B φ S H) (h : Eo S d = some xs) (r : RepV K B φ S H d v) : ∃ n a vs, d = .cel n /\ S[n]? = some (.lv xs) /\ φ[n]? = some a /\ v = .ref a /\ H a = some (.lst vs) /\ RepVs K B φ S H xs vs := by
 unfold Eo at h;split at h
 ·rename_i n
  obtain ⟨a, e, h1⟩ := r;split at h
  ·rename_i ys q
   cases h;obtain ⟨vs, h2, h3⟩ := I.ok n _ a q h1;exact ⟨n, a, vs, rfl, q, h1, e, h2, h3⟩
  ·cases h
 ·cases h
def sM (x y : Vl) (S : aK) : Res Vl := match Eo S x, y with
 | some xs, .dat (.int i) => (match atI xs i with
  | some d => .ok d S
  | none => .stuck)
 | _, _ => .stuck
theorem s_ixV : dO K (cIx K) sM := fun {W σ B φ S H x y d e Q} I r1 r2 f => by
 unfold sM at f;split at f
 ·rename_i xs j q1
  cases r2;obtain ⟨n, a, vs, rfl, _, _, rfl, h1, l1⟩ := xA I q1 r1;split at f
  ·rename_i d' q
   have hq : ∃ v, atI vs j = some v /\ RepV K B φ S H d' v := by
    unfold L2.atI at q ⊢;rw [l1.len];cases e : ixN xs.length j with
    | none => rw [e] at q; cases q
    | some k => rw [e] at q; exact l1.getV (i := k) q
   obtain ⟨v, h2, h3⟩ := hq;exact ⟨vs, v, .inl (SqL.of h1), h2, Fin.now f I h3⟩
  ·exact f.elim
 ·exact f.elim
theorem xP (ha : PE X a (bU X.K W ma)) (hb : PE X b (bU X.K W mb)) (hs : PlainIx b := by intro _ _; rfl) : PE X (.Subscript a b pos) (bU X.K W (aZ sM ma mb)) := bP (M8 ha hb hs) fun σ H Q h => tK s_ixV h
def kB (x : Vl) (S : aK) : Res Vl := match Eo S x with
 | some xs => .ok (.dat (.int xs.length)) S
 | none => .stuck
theorem KQ : yE K (MD K) kB := fun {W σ B φ S H x d Q} I r f => by
 unfold kB at f;split at f
 ·rename_i xs q1
  obtain ⟨n, a, vs, rfl, _, _, rfl, h1, l1⟩ := xA I q1 r;refine ⟨vs, .inl (SqL.of h1), ?_⟩
  rw [l1.len];exact Fin.now f I rfl
 ·exact f.elim
theorem rL (hm : X.mg "len" = none) (ha : PE X a (bU X.K W ma)) (hg : Gl X "len" := by rfl) (hs : starEach [a] X.env = [(false, eval a X.env)] := by rfl) : PE X (.Call (.Name "len" p) [a] [] pos) (bU X.K W (m1 kB ma)) := bP (K4 hm ha hg hs) fun σ H Q h => pC KQ h
def newV (xs : List Vl) (S : aK) : Res Vl := .ok (.cel S.length) (S ++ [.lv xs])
theorem Fin.newV {xs : List Vl} {vs : List L2.V} {p : Addr} (f : Fin K W σ (RepV K) B φ S H (PH.newV xs S) Q) (I : GInv K B φ S H) (r : RepVs K B φ S H xs vs) (hp : H p = none) : Q (.ref p) (upd H p (.lst vs)) := by
 unfold PH.newV at f;have X := Ext.newC (o := .lst vs) (x := .lv xs) I hp;refine f (φ ++ [p]) _ _ (I.newC hp fun _ => ⟨vs, upd_same, r.ext X I⟩) X ⟨p, rfl, ?_⟩
 rw [<- I.len];exact iB
def AA (x y : Vl) (S : aK) : Res Vl := match Eo S x, Eo S y with
 | some xs, some ys => if xs.length + ys.length <= sizeLine then newV (xs ++ ys) S else .stuck
 | _, _ => .stuck
theorem KU : dO K (FM K) AA := fun {W σ B φ S H x y d e Q} I r1 r2 f => by
 unfold AA at f;split at f
 ·rename_i xs ys q1 q2
  obtain ⟨n, a, vs, rfl, _, _, rfl, h1, l1⟩ := xA I q1 r1;obtain ⟨m, b, ws, rfl, _, _, rfl, h2, l2⟩ := xA I q2 r2;split at f
  ·rename_i h
   exact qT ⟨a, b, vs, ws, rfl, rfl, h1, h2, by rw [l1.len, l2.len]; exact h, fun p hp => Fin.newV f I (l1.app l2) hp⟩
  ·exact f.elim
 ·exact f.elim
def zS (r : FA) : FE := fun ρ S => (r ρ S).bind fun xs S1 => if xs.length <= sizeLine then newV xs S1 else .stuck
theorem BB (h : PA X es (Fc X.K W mas)) : PE X (.List es pos) (bU X.K W (zS mas)) := bP (pe_lst h) fun σ H Q h =>
 bJ (k := fun xs ρ S1 => if xs.length <= sizeLine then newV xs S1 else .stuck) h fun B φ S ρ d v H1 I E r f => by
  split at f
  ·rename_i hl
   exact ⟨by rw [r.len]; exact hl, fun p hp => Fin.newV f I r hp⟩
  ·exact f.elim
theorem RepVs.snocV {ds : List Vl} {vs : List L2.V} {d : Vl} {v : L2.V} (h : RepVs K B φ S H ds vs) (r : RepV K B φ S H d v) : RepVs K B φ S H (ds ++ [d]) (vs ++ [v]) := h.app ⟨v, [], rfl, r, rfl⟩
def pT (x y : Vl) (S : aK) : Res Vl := match x with
 | .cel n => (match S[n]? with
  | some (.lv ds) => if ds.length < sizeLine then .ok (.dat .non) (S.set n (.lv (ds ++ [y]))) else .stuck
  | _ => .stuck)
 | _ => .stuck
theorem FH {n : Nat} {ds ds' : List Vl} {v v' : L2.V} {d' : Vl} {vs vs' : List L2.V} {a : Addr} (I : GInv K B φ S H) (hn : S[n]? = some (.lv ds)) (ha : φ[n]? = some a) (l : RepVs K B φ S H ds' vs') (r : RepV K B φ S H d' v')
  (f : Fin K W σ (RepV K) B φ S H (.ok d' (S.set n (.lv ds'))) Q) : Q v' (upd H a (.lst vs')) := by
 have X1 := Ext.put (H := H) (o := .lst vs') (x := .lv ds') hn (by simp) ha (by simp)
 have I1 : GInv K B φ (S.set n (.lv ds')) (upd H a (.lst vs')) := I.put hn (by simp) ha (by simp) ⟨vs', upd_same, l.ext X1 I⟩
 exact f φ v' _ I1 X1 (r.ext X1 I)
def zT (a b : FE) : FE := fun ρ S => (a ρ S).bind fun x S1 => match Eo S1 x with
 | some _ => (b ρ S1).bind fun y S2 => pT x y S2
 | none => .stuck
theorem BC (ha : PE X a (bU X.K W ma)) (hb : PE X b (bU X.K W mb)) (hs : starEach [b] X.env = (false, eval b X.env) :: starEach [] X.env := by rfl) (hbase : attributeBase a "append" X.env (eval a X.env) = eval a X.env := by rfl) (hline : (apos.endLine == cpos.line) = true := by rfl)
  (hfew : ((backTo cpos (starEach [b] X.env)).all (fun x => !x.1) && (backToKw cpos (keywordEach [] X.env)).all (fun x => x.1.isSome)
   && decide ([b].length + ([] : List Keyword).length + (if ([] : List Keyword).isEmpty then 0 else 1) < 30)) = true := by rfl)
  (hpl : (backTo cpos (starEach ([] : List Expr) X.env)).any (·.1) = false := by rfl) : PE X (.Call (.Attribute a "append" apos) [b] [] cpos) (bU X.K W (zT ma mb)) :=
 bP (pe_bm PySem.F.plainAttrs_list PySem.F.slot_list_append PySem.F.type_list_append wW ha (pa_cons hb pa_nil hs) hbase hfew hline hs hpl) fun σ H Q h =>
  bJ (k := fun x ρ S1 => match Eo S1 x with | some _ => (mb ρ S1).bind fun y S2 => pT x y S2 | none => .stuck) h fun B φ S ρ d v H1 I E r f => by
   split at f
   ·rename_i ds q
    obtain ⟨n0, a0, vs0, rfl, _, hφ0, rfl, h0, _⟩ := xA I q r;refine ⟨.inl ⟨rfl, vs0, SqL.of h0⟩, gP I E f fun φ' S' d2 v2 H2 I2 X2 E2 r2 f2 => ?_⟩
    have h1 := X2.ids _ _ hφ0;unfold pT at f2;dsimp only at f2;split at f2
    ·rename_i ds q
     obtain ⟨vs, h2, l⟩ := I2.ok _ _ a0 q h1;split at f2
     ·rename_i hl
      exact ⟨vs, h2, by rw [l.len]; exact hl, FH (v := .non) (v' := .non) (d' := .dat .non) (vs := vs) I2 q h1 (l.snocV r2) rfl f2⟩
     ·exact f2.elim
    ·exact f2.elim
   ·exact f.elim
theorem Fin.doneV {a : Addr} {ds : List Vl} {vs : List L2.V} {H0 : Hp} {φ0 : List Addr} {S0 : aK} (f : Fin K W σ (RepV K) B φ0 S0 H0 (PH.newV ds S) Q) (I : GInv K (eF B a) φ S H) (X0 : Ext φ0 S0 H0 φ S H) (h0 : H0 a = none) (nB : ¬ B a) (ha : H a = some (.lst vs)) (l : RepVs K (eF B a) φ S H ds vs) : Q (.ref a) H := by
 have na : ¬ gJ φ S a := fun q => I.blk a q (.inr rfl)
 unfold PH.newV at f;have X1 : Ext φ0 S0 H0 (φ ++ [a]) (S ++ [.lv ds]) H := {
  old := fun b o h n => by
   obtain ⟨h1, h2⟩ := X0.old b o h n;refine ⟨h1, fun q => ?_⟩
   rcases (iD I.len).mp q with q | ⟨_, q⟩
   ·exact h2 q
   ·subst q; rw [h0] at h; cases h
  ids := fun n b h => by
   have := X0.ids n b h;rw [aJ (aH.mp this).1]; exact this }
 have hS : ∀ b, fG B (φ ++ [a]) (S ++ [.lv ds]) b -> fG (eF B a) φ S b := fun b q => by
  rcases q with q | q
  ·exact .inl (.inl q)
  ·rcases (iD I.len).mp q with q | ⟨_, q⟩
   ·exact .inr q
   ·exact .inl (.inr q)
 have k : Kp (fG (eF B a) φ S) H (fG B (φ ++ [a]) (S ++ [.lv ds])) H := ⟨fun b o h n => ⟨h, fun q => n (hS b q)⟩, fun _ _ h => h⟩
 have hφ : ∀ (n : Nat) (b : Addr), φ[n]? = some b -> (φ ++ [a])[n]? = some b := fun n b h => by rw [aJ (aH.mp h).1]; exact h
 have hV : ∀ {d : Vl} {v : L2.V}, RepV K (eF B a) φ S H d v -> RepV K B (φ ++ [a]) (S ++ [.lv ds]) H d v := fun {d v} r => by
  cases d with
  | dat d => exact Rep.kp k d v r
  | cel n => obtain ⟨b, e1, e2⟩ := r; exact ⟨b, e1, hφ _ _ e2⟩
  | cels ns => obtain ⟨a', as, e1, e2, e3, e4⟩ := r; exact ⟨a', as, e1, (k.old _ _ e3 e2).2, e3, vH hφ ns as e4⟩
  | scr ns => exact r
  | tc xs => obtain ⟨a', vs, e1, e2, e3⟩ := r; exact ⟨a', vs, e1, SqT.kp k.tup e2, e3.kp k hφ⟩
 have hF : ∀ {fs : List (Str × Vl)} {vs : List (Str × L2.V)}, RepF K (eF B a) φ S H fs vs -> RepF K B (φ ++ [a]) (S ++ [.lv ds]) H fs vs := fun {fs} => by
  induction fs with
  | nil => intro vs r; exact r
  | cons f fs ih => rintro vs ⟨v, ws, e, h1, h2⟩; exact ⟨v, ws, e, hV h1, ih h2⟩
 refine f (φ ++ [a]) _ H ?_ X1 ⟨a, rfl, by rw [<- I.len]; exact iB⟩
 exact {
  len := by simp [I.len]
  ok := fun n c b h1 h2 => by
   by_cases hn : n < S.length
   ·rw [aJ hn] at h1
    rw [aJ (by rw [I.len]; exact hn)] at h2
    have q := I.ok n c b h1 h2;cases c with
    | dead => trivial
    | lst es => obtain ⟨us, e, r⟩ := q; exact ⟨us, e, RepL.kp k es us r⟩
    | ins C fs => obtain ⟨dx, us, e, r⟩ := q; exact ⟨dx, us, e, hF r⟩
    | dct fs => obtain ⟨us, e, r⟩ := q; exact ⟨us, e, hF r⟩
    | lv xs => obtain ⟨us, e, r⟩ := q; exact ⟨us, e, bY hV r⟩
    | dki ks xs => obtain ⟨us, e, r⟩ := q; exact ⟨us, e, bY hV r⟩
    | dkt ks xs => obtain ⟨us, e, r⟩ := q; exact ⟨us, e, bY hV r⟩
   ·have e : n = S.length := by
     have := (aH.mp h1).1;simp at this;omega
    subst e;rw [bH (bN _)] at h1;rw [<- I.len, bH (bN _)] at h2;simp at h1 h2;subst h1 h2;exact ⟨vs, ha, bY hV l⟩
  inj := fun n m c c' b h1 h2 h3 h4 h5 h6 => by
   have key : ∀ (n : Nat) (c : Cell), (S ++ [.lv ds])[n]? = some c -> (n < S.length /\ S[n]? = some c) \/ n = S.length := fun n c h => by
    by_cases hn : n < S.length
    ·rw [aJ hn] at h; exact .inl ⟨hn, h⟩
    ·have := (aH.mp h).1
     simp at this;exact .inr (by omega)
   have kφ : ∀ n : Nat, n < S.length -> (φ ++ [a])[n]? = φ[n]? := fun n hn => aJ (by rw [I.len]; exact hn)
   have kp : (φ ++ [a])[S.length]? = some a := by rw [<- I.len]; simp
   rcases key n c h1 with ⟨hn, e1⟩ | e1 <;> rcases key m c' h3 with ⟨hm, e2⟩ | e2
   ·rw [kφ n hn] at h5
    rw [kφ m hm] at h6;exact I.inj n m c c' b e1 h2 e2 h4 h5 h6
   ·subst e2
    rw [kp] at h6;cases h6;rw [kφ n hn] at h5;exact absurd ⟨n, c, e1, h2, h5⟩ na
   ·subst e1
    rw [kp] at h5;cases h5;rw [kφ m hm] at h6;exact absurd ⟨m, c', e2, h4, h6⟩ na
   ·omega
  blk := fun b h => by
   rcases (iD I.len).mp h with h | ⟨_, h⟩
   ·exact fun q => I.blk b h (.inl q)
   ·subst h; exact nB
  btr := fun b h => I.btr b (.inl h) }
end
section
variable {S : aK} {a b : FE} {ρ : Ev} {n m : Nat} {xs ys : List Vl} {x : Vl}
theorem A3 {k : Int} {d : Vl} (h : S[n]? = some (.lv xs)) (h2 : atI xs k = some d) : sM (.cel n) (.dat (.int k)) S = .ok d S := by simp only [sM, Eo, h, h2]
theorem xH (h : S[n]? = some (.lv xs)) : kB (.cel n) S = .ok (.dat (.int xs.length)) S := by simp only [kB, Eo, h]
theorem Lw (h : S[n]? = some (.lv xs)) (h2 : S[m]? = some (.lv ys)) (hl : xs.length + ys.length <= sizeLine) : AA (.cel n) (.cel m) S = .ok (.cel S.length) (S ++ [.lv (xs ++ ys)]) := by simp only [AA, Eo, h, h2, newV]; rw [if_pos hl]
def Dz (xs : List Vl) (S1 : aK) : Res Vl := if xs.length <= sizeLine then newV xs S1 else .stuck
theorem rJ {r : FA} : zS r ρ S = (r ρ S).bind Dz := rfl
theorem xJ : Dz [] S = .ok (.cel S.length) (S ++ [.lv []]) := rfl
theorem xI : Dz [x] S = .ok (.cel S.length) (S ++ [.lv [x]]) := rfl
def GN (b : FE) (ρ : Ev) (x : Vl) (S1 : aK) : Res Vl := match Eo S1 x with
 | some _ => (b ρ S1).bind (pT x)
 | none => .stuck
theorem H9 : zT a b ρ S = (a ρ S).bind (GN b ρ) := rfl
theorem vL (h : S[n]? = some (.lv xs)) : GN b ρ (.cel n) S = (b ρ S).bind (pT (.cel n)) := by simp only [GN, Eo, h]
theorem vN (h : S[n]? = some (.lv xs)) (hl : xs.length < sizeLine) : pT (.cel n) x S = .ok (.dat .non) (S.set n (.lv (xs ++ [x]))) := by simp only [pT, h, hl, if_true]
end
def isNone {α : Type} : Option α -> Bool
 | none => true
 | some _ => false
section
variable {X : Cx} {W : WX} {e a b c o i : Expr} {es rest : List Expr} {pos pos' p q p2 tpos apos cpos : Pos} {x y z C f : Str} {K : aB} {ma mb mc mo me mv : FE} {mi : FI} {mt mu : FT} {mas : FA} {B : Addr -> Prop} {φ φ' : List Addr} {S S' : aK} {H H' : Hp} {σ : L2.St} {Q : VK} {m n : FS} {st : Stmt} {yK : List Stmt} {D : Ends} {t t1 : Tg}
def iC (S : aK) (n : Nat) : Option (List Vl) := match S[n]? with
 | some (.lst ds) => some (ds.map Vl.dat)
 | some (.lv xs) => some xs
 | _ => none
theorem Dl : ∀ {ds : List PH.D} {vs : List L2.V}, RepL K (fG B φ S) H ds vs -> RepVs K B φ S H (ds.map Vl.dat) vs
 | [], vs, h => h
 | d :: ds, vs, ⟨v, ws, e, h1, h2⟩ => ⟨v, ws, e, h1, Dl h2⟩
theorem nF {n : Nat} {a : Addr} {xs : List Vl} (I : GInv K B φ S H) (h : iC S n = some xs) (ha : φ[n]? = some a) : ∃ vs, H a = some (.lst vs) /\ RepVs K B φ S H xs vs := by
 unfold iC at h;split at h
 ·rename_i ds q
  cases h;obtain ⟨vs, h1, h2⟩ := I.ok n _ a q ha;exact ⟨vs, h1, Dl h2⟩
 ·rename_i ys q
  cases h;obtain ⟨vs, h1, h2⟩ := I.ok n _ a q ha;exact ⟨vs, h1, h2⟩
 ·cases h
def lK (t : Tg) (mb : FS) (n : Nat) : Nat -> Nat -> Ev -> aK -> Out
 | 0, _, _, _ => .stuck
 | k + 1, i, ρ, S => match iC S n with
  | none => .stuck
  | some xs => match xs[i]? with
   | none => .next ρ S
   | some d => match mU t d ρ with
    | none => .stuck
    | some ρ1 => match mb ρ1 S with
     | .next ρ2 S2 => lK t mb n k (i + 1) ρ2 S2
     | .cnt ρ2 S2 => lK t mb n k (i + 1) ρ2 S2
     | .brk ρ2 S2 => .next ρ2 S2
     | .ret d S2 => .ret d S2
     | .err e ρ2 S2 => .err e ρ2 S2
     | .stuck => .stuck
def E6 (t : Tg) (mb : FS) (ρ : Ev) (x : Vl) (S : aK) : Out := match x with
 | .cel n => lK t mb n 1000000 0 ρ S
 | _ => .stuck
def Bs (a : FE) (t : Tg) (mb : FS) : FS := fun ρ S => (a ρ S).toS ρ (E6 t mb ρ)
theorem Fl (h : lC K W (Bs ma t m) D σ H) : tFor (Ik K (bU K W ma)) (BZ K t) (lC K W m) D σ H := by
 obtain ⟨B, φ, S, ρ, I, E, f⟩ := h;refine cJ I E f fun φ0 S0 d v H0 I0 X0 E0 r f0 => ?_
 unfold E6 at f0;split at f0
 case h_2 => exact f0.elim
 rename_i n;obtain ⟨a, rfl, ha0⟩ := r;have hx0 : ∃ xs, iC S0 n = some xs := by
  cases q : iC S0 n with
  | some xs => exact ⟨xs, rfl⟩
  | none => rw [lK, q] at f0; exact f0.elim
 obtain ⟨xs0, hx0⟩ := hx0;obtain ⟨vs0, hv0, _⟩ := nF I0 hx0 ha0;refine qT ⟨⟨vs0, SqL.of hv0⟩, ?_⟩
 refine ⟨fun i k σ' H' => ∃ φ1 S1 ρ1, GInv K B φ1 S1 H' /\ Ext φ0 S0 H0 φ1 S1 H' /\ RepE K B φ1 S1 H' ρ1 σ' /\ FinS K W D B φ1 S1 H' (lK t m n k i ρ1 S1), ⟨_, φ0, S0, ρ, I0, Ext.refl, E0, f0⟩, ?_⟩
 rintro i k σ' H' ⟨φ1, S1, ρ1, I1, X1, E1, f1⟩
 cases k with
 | zero => exact f1.elim
 | succ k =>
 rw [lK] at f1;have ha1 := X1.ids n a ha0;split at f1
 ·exact f1.elim
 rename_i xs hxs;obtain ⟨us1, hv1, lx⟩ := nF I1 hxs ha1;have hl := lx.len;split at f1
 ·rename_i hi
  rw [cF] at hi;exact .inl ⟨⟨us1, SqL.of hv1, by omega⟩, f1 φ1 σ' H' I1 Ext.refl E1⟩
 ·rename_i d hd
  have hi : i < us1.length := by rw [hl]; exact (aH.mp hd).1
  refine .inr ⟨⟨us1, us1[i], SqL.of hv1, by simp [hi]⟩, fun σ2 H2 => ∃ φ2 S2 ρ2, GInv K B φ2 S2 H2 /\ Ext φ0 S0 H0 φ2 S2 H2 /\ RepE K B φ2 S2 H2 ρ2 σ2 /\ FinS K W D B φ2 S2 H2 (lK t m n k (i + 1) ρ2 S2), fun σ2 H2 h2 => ⟨k, by omega, h2⟩, fun x H2 y => ?_⟩
  obtain ⟨rfl, y⟩ := y;obtain ⟨v', h3, r2⟩ := lx.getV hd;rw [y us1 (SqL.of hv1)] at h3;cases h3;split at f1
  ·exact f1.elim
  ·rename_i ρ2 q2
   refine rE E1 (d := d) r2 q2 fun vs E3 => ⟨B, φ1, S1, ρ2, I1, E3, ?_⟩
   cases q3 : m ρ2 S1 with
   | next ρ3 S3 =>
    rw [q3] at f1;exact fun φ3 σ3 H3 I3 X3 E4 => ⟨φ3, S3, ρ3, I3, X1.trans X3, E4, FinS.ext f1 X3⟩
   | cnt ρ3 S3 =>
    rw [q3] at f1;exact fun φ3 σ3 H3 I3 X3 E4 => ⟨φ3, S3, ρ3, I3, X1.trans X3, E4, FinS.ext f1 X3⟩
   | brk ρ3 S3 => rw [q3] at f1; exact f1
   | ret d S3 => rw [q3] at f1; exact f1
   | err e ρ3 S3 => rw [q3] at f1; exact f1
   | stuck => rw [q3] at f1; exact f1
theorem EE {tg iter : Expr} (hp : PassesOwn (model X.prog X.w) X.A X.env X.xe) (hc : X.calm = true) (hi : PE X iter (bU X.K W ma)) (hg : PG X tg (BZ X.K t)) (hb : PSs X yK (lC X.K W m))
  (hs : ∀ x, foldedSetIterable iter X.env x = pure x := by intro _; rfl) : PS X (.For tg iter yK [] pos) (lC X.K W (Bs ma t m)) := iT (ps_for hp hc (An hi) hg hb hs) fun D σ H h => Fl h
def lW (j1 j2 : Nat) (mb : FS) (n : Nat) : Nat -> Nat -> Ev -> aK -> Out
 | 0, _, _, _ => .stuck
 | k + 1, i, ρ, S => match iC S n with
  | none => .stuck
  | some xs => match xs[i]? with
   | none => .next ρ S
   | some d => match mb ((ρ.set j1 (some (.dat (.int (i : Nat))))).set j2 (some d)) S with
    | .next ρ2 S2 => lW j1 j2 mb n k (i + 1) ρ2 S2
    | .cnt ρ2 S2 => lW j1 j2 mb n k (i + 1) ρ2 S2
    | .brk ρ2 S2 => .next ρ2 S2
    | .ret d S2 => .ret d S2
    | .err e ρ2 S2 => .err e ρ2 S2
    | .stuck => .stuck
def E5 (j1 j2 : Nat) (mb : FS) (ρ : Ev) (x : Vl) (S : aK) : Out := match x with
 | .cel n => lW j1 j2 mb n 1000000 0 ρ S
 | _ => .stuck
def Dx (a : FE) (j1 j2 : Nat) (mb : FS) : FS := fun ρ S => (a ρ S).toS ρ (E5 j1 j2 mb ρ)
theorem ID {α β : Type} {R : Rl α β} {mm : Ev -> aK -> Res α} {Q1 Q2 : β -> Hp -> Prop} (h : rd K W R mm σ H Q1) (hq : ∀ v H1, Q1 v H1 -> Q2 v H1) : rd K W R mm σ H Q2 := by
 obtain ⟨B, φ, S, ρ, I, E, f⟩ := h;refine ⟨B, φ, S, ρ, I, E, ?_⟩
 cases e : mm ρ S with
 | stuck => rw [e] at f; exact f
 | err x S' => rw [e] at f; exact f
 | ok d S' => rw [e] at f; exact fun φ' v H' I' X r => hq v H' (f φ' v H' I' X r)
def iEn (K : aB) (te : TE) : TI := fun σ H R => te σ H fun v H1 => ∃ a xs, v = .ref a /\ SqL K H1 a xs /\ R (Ite K a) H1
theorem Hy {j1 j2 : Nat} {ρ : Ev} {v1 v2 : L2.V} {d1 d2 : Vl} (E : RepE K B φ S H ρ σ) (r1 : RepV K B φ S H d1 v1) (r2 : RepV K B φ S H d2 v2) : RepE K B φ S H ((ρ.set j1 (some d1)).set j2 (some d2)) (putAll [j1, j2] [v1, v2] σ) := (E.set r1 j1).set r2 j2
theorem Fk {j1 j2 : Nat} (h : lC K W (Dx ma j1 j2 m) D σ H) : tFor (iEn K (bU K W ma)) (BZ K (.tp [j1, j2])) (lC K W m) D σ H := by
 obtain ⟨B, φ, S, ρ, I, E, f⟩ := h;refine cJ I E f fun φ0 S0 d v H0 I0 X0 E0 r f0 => ?_
 unfold E5 at f0;split at f0
 case h_2 => exact f0.elim
 rename_i n;obtain ⟨a, rfl, ha0⟩ := r;have hx0 : ∃ xs, iC S0 n = some xs := by
  cases q : iC S0 n with
  | some xs => exact ⟨xs, rfl⟩
  | none => rw [lW, q] at f0; exact f0.elim
 obtain ⟨xs0, hx0⟩ := hx0;obtain ⟨vs0, hv0, _⟩ := nF I0 hx0 ha0;refine ⟨a, vs0, rfl, SqL.of hv0, ?_⟩
 refine ⟨fun i k σ' H' => ∃ φ1 S1 ρ1, GInv K B φ1 S1 H' /\ Ext φ0 S0 H0 φ1 S1 H' /\ RepE K B φ1 S1 H' ρ1 σ' /\ FinS K W D B φ1 S1 H' (lW j1 j2 m n k i ρ1 S1), ⟨_, φ0, S0, ρ, I0, Ext.refl, E0, f0⟩, ?_⟩
 rintro i k σ' H' ⟨φ1, S1, ρ1, I1, X1, E1, f1⟩
 cases k with
 | zero => exact f1.elim
 | succ k =>
 rw [lW] at f1;have ha1 := X1.ids n a ha0;split at f1
 ·exact f1.elim
 rename_i xs hxs;obtain ⟨us1, hv1, lx⟩ := nF I1 hxs ha1;have hl := lx.len;split at f1
 ·rename_i hi
  rw [cF] at hi;exact .inl ⟨⟨us1, SqL.of hv1, by omega⟩, f1 φ1 σ' H' I1 Ext.refl E1⟩
 ·rename_i d hd
  have hi : i < us1.length := by rw [hl]; exact (aH.mp hd).1
  refine .inr ⟨⟨us1, us1[i], SqL.of hv1, by simp [hi]⟩, fun σ2 H2 => ∃ φ2 S2 ρ2, GInv K B φ2 S2 H2 /\ Ext φ0 S0 H0 φ2 S2 H2 /\ RepE K B φ2 S2 H2 ρ2 σ2 /\ FinS K W D B φ2 S2 H2 (lW j1 j2 m n k (i + 1) ρ2 S2), fun σ2 H2 h2 => ⟨k, by omega, h2⟩, fun x H2 y => ?_⟩
  obtain ⟨T, x', rfl, nT, rfl, y⟩ := y;obtain ⟨v', h3, r2⟩ := lx.getV hd;rw [y us1 (SqL.of hv1)] at h3;cases h3;have X2 := Ext.new (o := .tup [.int (i : Nat), x']) I1 nT;have I2 := I1.new (o := .tup [.int (i : Nat), x']) nT;have E2 := E1.ext X2 I1;have f2 := FinS.ext f1 X2;have E3 := Hy (j1 := j1) (j2 := j2) (d1 := .dat (.int (i : Nat))) (v1 := .int (i : Nat)) E2 rfl (r2.ext X2 I1);refine ⟨T, [.int (i : Nat), x'], rfl, .inl (.inl upd_same), rfl, qK (is := [j1, j2]) (vs := [.int (i : Nat), x']) rfl ⟨B, φ1, S1, _, I2, E3, ?_⟩⟩
  cases q3 : m ((ρ1.set j1 (some (.dat (.int (i : Nat))))).set j2 (some d)) S1 with
  | next ρ3 S3 =>
   rw [q3] at f2;exact fun φ3 σ3 H3 I3 X3 E4 => ⟨φ3, S3, ρ3, I3, X1.trans (X2.trans X3), E4, FinS.ext f2 X3⟩
  | cnt ρ3 S3 =>
   rw [q3] at f2;exact fun φ3 σ3 H3 I3 X3 E4 => ⟨φ3, S3, ρ3, I3, X1.trans (X2.trans X3), E4, FinS.ext f2 X3⟩
  | brk ρ3 S3 => rw [q3] at f2; exact f2
  | ret d S3 => rw [q3] at f2; exact f2
  | err e ρ3 S3 => rw [q3] at f2; exact f2
  | stuck => rw [q3] at f2; exact f2
theorem JQ {j1 j2 : Nat} {elts : List Expr} {kk : Nat} (hp : PassesOwn (model X.prog X.w) X.A X.env X.xe) (hc : X.calm = true) (hg1 : Gl X "enumerate") (hm : X.mg "enumerate" = none) (ha : PE X a (bU X.K W ma)) (hg : PG X (.Tuple elts kk tpos) (BZ X.K (.tp [j1, j2]))) (hb : PSs X yK (lC X.K W m))
  (hs1 : starEach [a] X.env = [(false, eval a X.env)] := by rfl) (hs : ∀ x, foldedSetIterable (.Call (.Name "enumerate" p) [a] [] p2) X.env x = pure x := by intro _; rfl) : PS X (.For (.Tuple elts kk tpos) (.Call (.Name "enumerate" p) [a] [] p2) yK [] pos) (lC X.K W (Dx ma j1 j2 m)) :=
 iT (ps_for hp hc (BI (u := iEn X.K (bU X.K W ma)) (pi_enum hg1 hm (pa_cons ha pa_nil hs1) hs1) fun σ H R h => ID h fun v H1 ⟨a, xs, e, h1, h2⟩ => ⟨a, xs, by rw [e], h1, h2⟩) hg hb hs) fun D σ H h => Fk h
def oQ (t : Tg) (mt : FT) (me : FE) (ρ : Ev) (n : Nat) : Nat -> Nat -> aK -> Res (List Vl)
 | 0, _, _ => .stuck
 | k + 1, i, S => match iC S n with
  | none => .stuck
  | some xs => match xs[i]? with
   | none => .ok [] S
   | some d => match mU t d ρ with
    | none => .stuck
    | some ρ1 => match mt ρ1 S with
     | .ok b S1 => if b = true then (match me ρ1 S1 with
       | .ok e S2 => (match oQ t mt me ρ n k (i + 1) S2 with
        | .ok es S3 => .ok (e :: es) S3
        | _ => .stuck)
       | _ => .stuck) else oQ t mt me ρ n k (i + 1) S1
     | _ => .stuck
def F9 (w : Bool) (es : List Vl) (S : aK) : Res Vl := if w then newV es S else match oX es with
 | some ds => newL false ds S
 | none => .stuck
def Bz (w : Bool) (t : Tg) (mt : FT) (me : FE) (vs : List Nat) (ρ : Ev) (x : Vl) (S1 : aK) : Res Vl := match x with
 | .cel n => (match oQ t mt me (wipeE ρ vs) n 100000 0 S1 with
  | .ok es S2 => F9 w es S2
  | _ => .stuck)
 | _ => .stuck
def En (w : Bool) (a : FE) (t : Tg) (mt : FT) (me : FE) (vs : List Nat) : FE := fun ρ S => (a ρ S).bind (Bz w t mt me vs ρ)
theorem Fin.doneW {w : Bool} {A : Addr} {es : List Vl} {vs : List L2.V} {H0 : Hp} {φ0 : List Addr} {S0 : aK} (f : Fin K W σ (RepV K) B φ0 S0 H0 (F9 w es S) Q) (I : GInv K (eF B A) φ S H) (X0 : Ext φ0 S0 H0 φ S H) (h0 : H0 A = none) (nB : ¬ B A) (ha : H A = some (.lst vs)) (l : RepVs K (eF B A) φ S H es vs) : Q (.ref A) H := by
 unfold F9 at f;split at f
 ·exact Fin.doneV f I X0 h0 nB ha l
 ·split at f
  ·rename_i ds q
   exact Fin.done f I X0 h0 nB ha (tE q l)
  ·exact f.elim
theorem Hr {w : Bool} {t : Tg} {vs : List Nat} (ht : ∀ i ∈ Hi t, i ∈ vs) (h : bU K W (En w ma t mt me vs) σ H Q) : tLc (Ik K (bU K W ma)) (BZ K t) (qU K BV mt) (bU K BV me) vs σ H Q := by
 refine bJ (k := fun x ρ S1 => Bz w t mt me vs ρ x S1) h fun B φ0 S0 ρ d v H0 I0 E0 r f0 => ?_
 unfold Bz at f0;split at f0
 case h_2 => exact f0.elim
 rename_i n;obtain ⟨a, rfl, ha0⟩ := r;cases q0 : oQ t mt me (wipeE ρ vs) n 100000 0 S0 with
 | stuck => rw [q0] at f0; exact f0.elim
 | err e S' => rw [q0] at f0; exact f0.elim
 | ok es0 Sz =>
 rw [q0] at f0;have hx0 : ∃ xs, iC S0 n = some xs := by
  cases q : iC S0 n with
  | some xs => exact ⟨xs, rfl⟩
  | none => rw [oQ, q] at q0; cases q0
 obtain ⟨xs0, hx0⟩ := hx0;obtain ⟨vs0, hv0, _⟩ := nF I0 hx0 ha0;refine qT ⟨⟨vs0, SqL.of hv0⟩, ?_⟩
 intro A hA;have nB : ¬ B A := fun q => by obtain ⟨u, e⟩ := I0.btr A q; rw [hA] at e; cases e
 have IA : GInv K (eF B A) φ0 S0 (upd H0 A (.lst [])) := I0.plus hA;refine ⟨fun i k H' => ∃ φ1 S1 us acc rest, GInv K (eF B A) φ1 S1 H' /\ Ext φ0 S0 H0 φ1 S1 H' /\ RepE K (eF B A) φ1 S1 H' (wipeE ρ vs) (wipe σ vs) /\ H' A = some (.lst us) /\ us.length <= i /\ i + k = 100000 /\ RepVs K (eF B A) φ1 S1 H' acc us /\ oQ t mt me (wipeE ρ vs) n k i S1 = .ok rest Sz /\ acc ++ rest = es0,
  ⟨100000, φ0, S0, [], [], es0, IA, Ext.new I0 hA, (E0.wipes vs).plus I0 hA, upd_same, bN _, rfl, rfl, q0, rfl⟩, ?_⟩
 rintro i k H' ⟨φ1, S1, us, acc, rs, I1, X1, E1, hA1, hul, hik, l1, g1, ea⟩
 cases k with
 | zero => rw [oQ] at g1; cases g1
 | succ k =>
 rw [oQ] at g1;split at g1
 ·cases g1
 rename_i xs hxs;have ha1 := X1.ids n a ha0;obtain ⟨us1, hv1, lx⟩ := nF I1 hxs ha1;have hl := lx.len;split at g1
 ·rename_i hi
  cases g1;rw [cL] at ea;subst ea;rw [cF] at hi;exact .inl ⟨⟨us1, SqL.of hv1, by omega⟩, Fin.doneW f0 I1 X1 hA nB hA1 l1⟩
 ·rename_i d hd
  have hi : i < us1.length := by rw [hl]; exact (aH.mp hd).1
  refine .inr ⟨⟨us1, us1[i], SqL.of hv1, by simp [hi]⟩, fun H2 => ∃ φ1 S1 us acc rest, GInv K (eF B A) φ1 S1 H2 /\ Ext φ0 S0 H0 φ1 S1 H2 /\ RepE K (eF B A) φ1 S1 H2 (wipeE ρ vs) (wipe σ vs) /\ H2 A = some (.lst us) /\ us.length <= i + 1 /\ i + 1 + k = 100000 /\ RepVs K (eF B A) φ1 S1 H2 acc us /\ oQ t mt me (wipeE ρ vs) n k (i + 1) S1 = .ok rest Sz /\ acc ++ rest = es0, fun H2 h2 => ⟨k, by omega, h2⟩, fun x H2 y => ?_⟩
  obtain ⟨rfl, y⟩ := y;obtain ⟨v', h3, r2⟩ := lx.getV hd;rw [y us1 (SqL.of hv1)] at h3;cases h3;split at g1
  case h_1 => cases g1
  rename_i ρ2 q2;refine rE E1 (d := d) r2 q2 fun ws E3 => ⟨by rw [qD ht, qC], eF B A, φ1, S1, ρ2, I1, E3, ?_⟩
  split at g1
  case h_2 => cases g1
  rename_i b S3 q3;rw [q3];intro φ3 b' H3 I3 X3 rb;have rb : b' = b := rb;subst rb;have hA3 := (X3.old A _ hA1 fun q => I1.blk A q (.inr rfl)).1
  have Xa := X1.trans X3;cases b' with
  | false => exact ⟨φ3, S3, us, acc, rs, I3, Xa, E1.ext X3 I1, hA3, by omega, by omega, l1.ext X3 I1, g1, ea⟩
  | true =>
   rw [if_pos rfl];rw [if_pos rfl] at g1;refine ⟨eF B A, φ3, S3, ρ2, I3, E3.ext X3 I1, ?_⟩
   split at g1
   case h_2 => cases g1
   rename_i e S4 q4;rw [q4];intro φ4 v4 H4 I4 X4 r4;have hA4 := (X4.old A _ hA3 fun q => I3.blk A q (.inr rfl)).1
   split at g1
   case h_2 => cases g1
   rename_i es S5 q5;cases g1;have l4 : RepVs K (eF B A) φ4 S4 H4 (acc ++ [e]) (us ++ [v4]) := ((l1.ext X3 I1).ext X4 I3).snocV r4;have z : sizeLine = 16777216 := rfl;refine ⟨us, hA4, by omega, φ4, S4, us ++ [v4], acc ++ [e], es, I4.plusPut hA4, ?_, ((E1.ext X3 I1).ext X4 I3).plusPut hA4, upd_same, by simp; omega, by omega, bY (RepV.plusPut hA4) l4, q5, by rw [<- ea]; simp⟩
   exact ⟨fun b o h nb => by
    obtain ⟨h1, h2⟩ := (Xa.trans X4).old b o h nb;exact ⟨by rw [upd_ne (fun e => by subst e; rw [hA] at h; cases h)]; exact h1, h2⟩, (Xa.trans X4).ids⟩
theorem HG (w : Bool) {t : Tg} {elt tg iter : Expr} {ifs : List Expr} {scope : Scope} {own : List (Str × Nat)} (hc : X.calm = true) (hN : X.N.Nodup) (hi : PE X iter (bU X.K W ma)) (ok : BlkOk X.N X.env.scope scope own)
  (hg : ∀ (s : Shared) (H : Hp) (C : Addr) (cl : List (Str × Addr)) (fp : List Addr), PG (X.blk s H scope (compEnvC scope cl C X.env) fp) tg (BZ X.K t)) (ht : ∀ (s : Shared) (H : Hp) (C : Addr) (cl : List (Str × Addr)) (fp : List Addr), PTs (X.blk s H scope (compEnvC scope cl C X.env) fp) ifs (qU X.K BV mt))
  (he : ∀ (s : Shared) (H : Hp) (C : Addr) (cl : List (Str × Addr)) (fp : List Addr), PE (X.blk s H scope (compEnvC scope cl C X.env) fp) elt (bU X.K BV me)) (hs : ∀ x, foldedSetIterable iter X.env x = pure x := by intro _; rfl) (hv : ∀ i ∈ Hi t, i ∈ own.map (·.2) := by decide) :
  PE X (.ListComp elt [⟨tg, iter, ifs, 0⟩] scope pos) (bU X.K W (En w ma t mt me (own.map (·.2)))) := bP (pe_lc hc hN (An hi) ok hg ht he hs) fun σ H Q h => Hr hv h
def sH (t : Tg) (mt : FT) (me : FE) (ρ : Ev) : List PH.D -> aK -> Res (List Vl)
 | [], S => .ok [] S
 | d :: r, S => match mU t (.dat d) ρ with
  | none => .stuck
  | some ρ1 => match mt ρ1 S with
   | .ok b S1 => if b = true then (match me ρ1 S1 with
     | .ok e S2 => (match sH t mt me ρ r S2 with
      | .ok es S3 => .ok (e :: es) S3
      | _ => .stuck)
     | _ => .stuck) else sH t mt me ρ r S1
   | _ => .stuck
def C0 (t : Tg) (mt : FT) (me : FE) (vs : List Nat) (ρ : Ev) (ds : List PH.D) (S1 : aK) : Res Vl := if ds.length <= sizeLine then (match sH t mt me (wipeE ρ vs) ds S1 with
 | .ok es S2 => newV es S2
 | _ => .stuck) else .stuck
def Aq (mi : FI) (t : Tg) (mt : FT) (me : FE) (vs : List Nat) : FE := fun ρ S => (mi ρ S).bind (C0 t mt me vs ρ)
theorem Hs {t : Tg} {vs : List Nat} (ht : ∀ i ∈ Hi t, i ∈ vs) (h : bU K W (Aq mi t mt me vs) σ H Q) : tLc (IE K W mi) (BZ K t) (qU K BV mt) (bU K BV me) vs σ H Q := by
 refine bJ (k := fun ds ρ S1 => C0 t mt me vs ρ ds S1) h fun B φ0 S0 ρ ds J H0 I0 E0 r f0 => ?_
 intro A hA;unfold C0 at f0;split at f0
 case isFalse => exact f0.elim
 rename_i hsz;cases q0 : sH t mt me (wipeE ρ vs) ds S0 with
 | stuck => rw [q0] at f0; exact f0.elim
 | err e S' => rw [q0] at f0; exact f0.elim
 | ok es0 Sz =>
 rw [q0] at f0;have nB : ¬ B A := fun q => by obtain ⟨u, e⟩ := I0.btr A q; rw [hA] at e; cases e
 have IA : GInv K (eF B A) φ0 S0 (upd H0 A (.lst [])) := I0.plus hA;have b2 : ∀ a, H0 a ≠ none -> eF B A a -> B a := fun b hb h => by
  rcases h with h | h
  ·exact h
  ·exact absurd (by rw [h]; exact hA) hb
 refine ⟨fun i k H' => i <= ds.length /\ k = ds.length - i /\ ∃ φ1 S1 us acc rest, GInv K (eF B A) φ1 S1 H' /\ Ext φ0 S0 H0 φ1 S1 H' /\ RepE K (eF B A) φ1 S1 H' (wipeE ρ vs) (wipe σ vs) /\ H' A = some (.lst us) /\ us.length <= i /\ RepVs K (eF B A) φ1 S1 H' acc us /\ sH t mt me (wipeE ρ vs) (ds.drop i) S1 = .ok rest Sz /\ acc ++ rest = es0,
  ⟨_, zB _, rfl, φ0, S0, [], [], es0, IA, Ext.new I0 hA, (E0.wipes vs).plus I0 hA, upd_same, bN _, rfl, q0, rfl⟩, ?_⟩
 rintro i k H' ⟨hi, rfl, φ1, S1, us, acc, rs, I1, X1, E1, hA1, hul, l1, g1, ea⟩
 obtain ⟨hgo, hstop, hyld⟩ := r φ1 S1 H' (eF B A) I1 (X1.kpB (fun _ h => .inl h) b2 I0)
 by_cases hlt : i < ds.length
 ·refine .inr ⟨hgo i hlt, fun H2 => i + 1 <= ds.length /\ ∃ φ1 S1 us acc rest, GInv K (eF B A) φ1 S1 H2 /\ Ext φ0 S0 H0 φ1 S1 H2 /\ RepE K (eF B A) φ1 S1 H2 (wipeE ρ vs) (wipe σ vs) /\ H2 A = some (.lst us) /\ us.length <= i + 1 /\ RepVs K (eF B A) φ1 S1 H2 acc us /\ sH t mt me (wipeE ρ vs) (ds.drop (i + 1)) S1 = .ok rest Sz /\ acc ++ rest = es0, fun H2 ⟨h1, h2⟩ => ⟨ds.length - (i + 1), by omega, h1, rfl, h2⟩, fun x H2 y => ?_⟩
  have hd : ds[i]? = some ds[i] := by simp [hlt]
  obtain ⟨I2, X2, r2⟩ := hyld i x H2 ds[i] hd y;rw [bW hlt] at g1;unfold sH at g1;split at g1
  case h_1 => cases g1
  rename_i ρ2 q2;have hA2 := (X2.old A _ hA1 fun q => I1.blk A q (.inr rfl)).1
  refine rE (E1.ext X2 I1) (d := .dat ds[i]) r2 q2 fun ws E3 => ⟨by rw [qD ht, qC], eF B A, φ1, S1, ρ2, I2, E3, ?_⟩
  split at g1
  case h_2 => cases g1
  rename_i b S3 q3;rw [q3];intro φ3 b' H3 I3 X3 rb;have rb : b' = b := rb;subst rb;have hA3 := (X3.old A _ hA2 fun q => I2.blk A q (.inr rfl)).1
  have Xa := X1.trans (X2.trans X3);cases b' with
  | false => exact ⟨hlt, φ3, S3, us, acc, rs, I3, Xa, (E1.ext X2 I1).ext X3 I2, hA3, Nat.le_succ_of_le hul, (l1.ext X2 I1).ext X3 I2, g1, ea⟩
  | true =>
   rw [if_pos rfl];rw [if_pos rfl] at g1;refine ⟨eF B A, φ3, S3, ρ2, I3, E3.ext X3 I2, ?_⟩
   split at g1
   case h_2 => cases g1
   rename_i e S4 q4;rw [q4];intro φ4 v4 H4 I4 X4 r4;have hA4 := (X4.old A _ hA3 fun q => I3.blk A q (.inr rfl)).1
   split at g1
   case h_2 => cases g1
   rename_i es S5 q5;cases g1;have l4 : RepVs K (eF B A) φ4 S4 H4 (acc ++ [e]) (us ++ [v4]) := (((l1.ext X2 I1).ext X3 I2).ext X4 I3).snocV r4;refine ⟨us, hA4, by omega, hlt, φ4, S4, us ++ [v4], acc ++ [e], es, I4.plusPut hA4, ?_, (((E1.ext X2 I1).ext X3 I2).ext X4 I3).plusPut hA4, upd_same, by simp; omega, bY (RepV.plusPut hA4) l4, q5, by rw [<- ea]; simp⟩
   exact ⟨fun b o h nb => by
    obtain ⟨h1, h2⟩ := (Xa.trans X4).old b o h nb;exact ⟨by rw [upd_ne (fun e => by subst e; rw [hA] at h; cases h)]; exact h1, h2⟩, (Xa.trans X4).ids⟩
 ·have e : i = ds.length := by omega
  subst e;rw [oY] at g1;cases g1;rw [cL] at ea;subst ea;exact .inl ⟨hstop, Fin.doneV f0 I1 X1 hA nB hA1 l1⟩
theorem A6 {t : Tg} {elt tg iter : Expr} {ifs : List Expr} {scope : Scope} {own : List (Str × Nat)} (hc : X.calm = true) (hN : X.N.Nodup) (hi : PI X tg iter (IE X.K W mi)) (ok : BlkOk X.N X.env.scope scope own)
  (hg : ∀ (s : Shared) (H : Hp) (C : Addr) (cl : List (Str × Addr)) (fp : List Addr), PG (X.blk s H scope (compEnvC scope cl C X.env) fp) tg (BZ X.K t)) (ht : ∀ (s : Shared) (H : Hp) (C : Addr) (cl : List (Str × Addr)) (fp : List Addr), PTs (X.blk s H scope (compEnvC scope cl C X.env) fp) ifs (qU X.K BV mt))
  (he : ∀ (s : Shared) (H : Hp) (C : Addr) (cl : List (Str × Addr)) (fp : List Addr), PE (X.blk s H scope (compEnvC scope cl C X.env) fp) elt (bU X.K BV me)) (hs : ∀ x, foldedSetIterable iter X.env x = pure x := by intro _; rfl) (hv : ∀ i ∈ Hi t, i ∈ own.map (·.2) := by decide) :
  PE X (.ListComp elt [⟨tg, iter, ifs, 0⟩] scope pos) (bU X.K W (Aq mi t mt me (own.map (·.2)))) := bP (pe_lc hc hN hi ok hg ht he hs) fun σ H Q h => Hs hv h
end
section
variable {S : aK} {a : FE} {ρ : Ev} {n : Nat} {t : Tg} {mt : FT} {me : FE} {mb : FS} {mi : FI} {vs : List Nat} {xs : List Vl} {w : Bool} {j1 j2 : Nat} {ds : List PH.D}
theorem iR (h : S[n]? = some (.lv xs)) : iC S n = some xs := by simp only [iC, h]
theorem Gx : Bs a t mb ρ S = (a ρ S).toS ρ (E6 t mb ρ) := rfl
theorem EB : E6 t mb ρ (.cel n) S = lK t mb n 1000000 0 ρ S := rfl
theorem Lr : Dx a j1 j2 mb ρ S = (a ρ S).toS ρ (E5 j1 j2 mb ρ) := rfl
theorem J4 : E5 j1 j2 mb ρ (.cel n) S = lW j1 j2 mb n 1000000 0 ρ S := rfl
theorem Ge : En w a t mt me vs ρ S = (a ρ S).bind (Bz w t mt me vs ρ) := rfl
theorem A2 : Aq mi t mt me vs ρ S = (mi ρ S).bind (C0 t mt me vs ρ) := rfl
theorem xB {k i : Nat} {d : Vl} {ρ1 ρ2 : Ev} {S2 : aK} (h : iC S n = some xs) (hi : xs[i]? = some d) (h1 : mU t d ρ = some ρ1) (h2 : mb ρ1 S = .next ρ2 S2) : lK t mb n (k + 1) i ρ S = lK t mb n k (i + 1) ρ2 S2 := by
 rw [lK, h];dsimp only;rw [hi];dsimp only;rw [h1];dsimp only;rw [h2]
theorem zU {k i : Nat} (h : iC S n = some xs) (hi : xs[i]? = none) : lK t mb n (k + 1) i ρ S = .next ρ S := by
 rw [lK, h];dsimp only;rw [hi]
theorem Cs {k i : Nat} {d : Vl} {ρ2 : Ev} {S2 : aK} (h : iC S n = some xs) (hi : xs[i]? = some d) (h2 : mb ((ρ.set j1 (some (.dat (.int (i : Nat))))).set j2 (some d)) S = .next ρ2 S2) : lW j1 j2 mb n (k + 1) i ρ S = lW j1 j2 mb n k (i + 1) ρ2 S2 := by
 rw [lW, h];dsimp only;rw [hi];dsimp only;rw [h2]
theorem Ep {k i : Nat} (h : iC S n = some xs) (hi : xs[i]? = none) : lW j1 j2 mb n (k + 1) i ρ S = .next ρ S := by
 rw [lW, h];dsimp only;rw [hi]
theorem zW {α : Type} {f g : α -> Vl} {xs : List α} (h : iC S n = some (xs.map f)) (hm : ∀ x ∈ xs, ∃ ρ1, mU t (f x) ρ = some ρ1 /\ me ρ1 S = .ok (g x) S) : ∀ (r i k : Nat), i + r = xs.length -> r < k -> oQ t fJ me ρ n k i S = .ok ((xs.drop i).map g) S
 | 0, i, k + 1, hi, _ => by
  rw [oQ, h];dsimp only;rw [show (xs.map f)[i]? = none from cF.mpr (by rw [aQ]; omega), List.drop_eq_nil_of_le (by omega)]
  rfl
 | r + 1, i, k + 1, hi, hk => by
  have hlt : i < xs.length := by omega
  have ih := zW h hm r (i + 1) k (by omega) (by omega)
  obtain ⟨ρ1, h1, h2⟩ := hm xs[i] (dN hlt);rw [oQ, h];dsimp only;rw [show (xs.map f)[i]? = some (f xs[i]) by rw [cG, bA hlt]; rfl]
  dsimp only;rw [h1];dsimp only [fJ];rw [if_pos rfl, h2];dsimp only;rw [ih, bW hlt];rfl
 | r + 1, i, 0, _, hk => by omega
theorem GG {α : Type} {f g : α -> Vl} {xs : List α} (h : iC S n = some (xs.map f)) (hl : xs.length < 100000) (hm : ∀ x ∈ xs, ∃ ρ1, mU t (f x) (wipeE ρ vs) = some ρ1 /\ me ρ1 S = .ok (g x) S) : Bz w t fJ me vs ρ (.cel n) S = F9 w (xs.map g) S := by
 unfold Bz;dsimp only;rw [zW h hm xs.length 0 100000 (by omega) hl, List.drop_zero]
theorem CV {α : Type} {g : α -> PH.D} : ∀ xs : List α, oX (xs.map fun x => Vl.dat (g x)) = some (xs.map g)
 | [] => rfl
 | x :: xs => by rw [aM, oX, CV xs]; rfl
theorem tV {α : Type} {f : α -> Vl} {g : α -> PH.D} {xs : List α} (h : iC S n = some (xs.map f)) (hl : xs.length < 100000) (hm : ∀ x ∈ xs, ∃ ρ1, mU t (f x) (wipeE ρ vs) = some ρ1 /\ me ρ1 S = .ok (.dat (g x)) S) : Bz false t fJ me vs ρ (.cel n) S = .ok (.dat (.lst (xs.map g))) S := by
 rw [GG h hl hm];unfold F9;rw [if_neg (by decide), CV]
 rfl
end
def jK {α β : Type} (f : α -> Option β) : List α -> Option (List β)
 | [] => some []
 | x :: xs => match f x, jK f xs with
  | some y, some ys => some (y :: ys)
  | _, _ => none
mutual
def Dd (c : Nat -> Option PH.D) : TIt -> Option PH.D
 | .inl d => some d
 | .inr n => c n
 | .tup xs => match BX c xs with
  | some ds => some (.tup ds)
  | none => none
def BX (c : Nat -> Option PH.D) : List TIt -> Option (List PH.D)
 | [] => some []
 | x :: xs => match Dd c x, BX c xs with
  | some y, some ys => some (y :: ys)
  | _, _ => none
end
theorem BW {c : Nat -> Option PH.D} : ∀ xs : List TIt, BX c xs = jK (Dd c) xs
 | [] => by rw [BX]; rfl
 | x :: xs => by rw [BX, BW xs, jK]; cases Dd c x <;> cases jK (Dd c) xs <;> rfl
def Cg (c : Nat -> Option PH.D) : Vl -> Option PH.D
 | .dat d => some d
 | .cel n => c n
 | .tc xs => match jK (Dd c) xs with
  | some ds => some (.tup ds)
  | none => none
 | _ => none
def EW (S : aK) : Nat -> Nat -> Option PH.D
 | 0, _ => none
 | k + 1, n => match S[n]? with
  | some (.lst es) => some (.lst es)
  | some (.lv xs) => (match jK (Cg (EW S k)) xs with
   | some ds => some (.lst ds)
   | none => none)
  | _ => none
mutual
def Bm : PH.D -> Bool
 | .non => true
 | .bl _ => true
 | .int _ => true
 | .str _ => true
 | .tup ds => Ah ds
 | _ => false
def Ah : List PH.D -> Bool
 | [] => true
 | d :: ds => Bm d && Ah ds
end
def deadS (S : aK) : aK := S.map fun _ => Cell.dead
def wN (S S2 : aK) : aK := S ++ mS (S2.length - S.length) Cell.dead
section
variable {K : aB} {B : Addr -> Prop} {φ φ' : List Addr} {S S' S2 : aK} {H H' : Hp}
mutual
theorem Bl {Bk Bk' : Addr -> Prop} : ∀ (d : PH.D) (v : L2.V), Bm d = true -> Rep K Bk H d v -> Rep K Bk' H d v
 | .non, v, _, h => h
 | .bl b, v, _, h => h
 | .int i, v, _, h => h
 | .str x, v, _, h => h
 | .tup ds, v, hs, ⟨a, vs, e, h, r⟩ => ⟨a, vs, e, h, zI ds vs (by unfold Bm at hs; exact hs) r⟩
 | .lst ds, v, hs, h => by cases hs
 | .ins C ns ds, v, hs, h => by cases hs
 | .dct, v, hs, h => by cases hs
 | .opq k, v, hs, h => by cases hs
theorem zI {Bk Bk' : Addr -> Prop} : ∀ (ds : List PH.D) (vs : List L2.V), Ah ds = true -> RepL K Bk H ds vs -> RepL K Bk' H ds vs
 | [], vs, _, h => h
 | d :: ds, vs, hs, ⟨v, ws, e, h1, h2⟩ => by
  unfold Ah at hs;obtain ⟨a1, a2⟩ := FZ.mp hs;exact ⟨v, ws, e, Bl d v a1 h1, zI ds ws a2 h2⟩
end
theorem uE {n : Nat} {c : Cell} (h : (deadS S)[n]? = some c) : c = .dead := by
 unfold deadS at h;rw [cG] at h;cases q : S[n]? with
 | none => rw [q] at h; cases h
 | some d => rw [q] at h; cases h; rfl
theorem pV {a : Addr} : ¬ gJ φ (deadS S) a := fun ⟨n, c, h1, h2, _⟩ => h2 (uE h1)
theorem GInv.deadS (I : GInv K B φ S H) : GInv K B φ (deadS S) H where
 len := by unfold PH.deadS; rw [aQ]; exact I.len
 ok := fun n c a h1 h2 => by obtain rfl := uE h1; trivial
 inj := fun n m c c' a h1 h2 => absurd (uE h1) h2
 blk := fun a h => absurd h pV
 btr := I.btr
theorem Ext.deadS : Ext φ S H φ (deadS S) H := ⟨fun b o h nb => ⟨h, pV⟩, fun _ _ h => h⟩
theorem DQ {φ₂ : List Addr} {S₂ : aK} {H₂ : Hp} (ex : Ext φ S H φ₂ S₂ H₂) (I : GInv K B φ S H) {c : Cell} {a : Addr} (ha : c ≠ .dead -> ∀ o, H a = some o -> H₂ a = some o) (q : yJ K B φ S H c a) : yJ K B φ₂ S₂ H₂ c a := by
 cases c with
 | dead => trivial
 | lst ds => obtain ⟨vs, e, r⟩ := q; exact ⟨vs, ha (by simp) _ e, ex.repL I r⟩
 | ins C fs => obtain ⟨dx, vs, e, r⟩ := q; exact ⟨dx, vs, ha (by simp) _ e, r.ext ex I⟩
 | dct fs => obtain ⟨vs, e, r⟩ := q; exact ⟨vs, ha (by simp) _ e, r.ext ex I⟩
 | lv xs => obtain ⟨vs, e, r⟩ := q; exact ⟨vs, ha (by simp) _ e, r.ext ex I⟩
 | dki ks xs => obtain ⟨vs, e, r⟩ := q; exact ⟨vs, ha (by simp) _ e, r.ext ex I⟩
 | dkt ks xs => obtain ⟨vs, e, r⟩ := q; exact ⟨vs, ha (by simp) _ e, r.ext ex I⟩
def FU (K : aB) (B : Addr -> Prop) (φ : List Addr) (S : aK) (H : Hp) (c : Nat -> Option PH.D) : Prop :=
 ∀ (n : Nat) (a : Addr) (d : PH.D), φ[n]? = some a -> c n = some d -> Rep K (fG B φ (PH.deadS S)) H d (.ref a)
mutual
theorem Hl {c : Nat -> Option PH.D} (I : GInv K B φ S H) (hc : FU K B φ S H c) : ∀ (x : TIt) (d : PH.D) (v : L2.V), Dd c x = some d -> RepI K (fG B φ S) φ H x v -> Rep K (fG B φ (PH.deadS S)) H d v
 | .inl d', d, v, h, r => by
  rw [Dd] at h;cases h;exact Rep.kp (Ext.deadS.kp I) _ _ r
 | .inr n, d, v, h, ⟨a, e1, e2⟩ => by
  rw [Dd] at h;rw [e1];exact hc n a d e2 h
 | .tup xs, d, v, h, ⟨a, vs, e, h1, r1⟩ => by
  rw [Dd] at h;split at h
  ·rename_i ds q
   cases h;exact ⟨a, vs, e, h1, vS I hc xs ds vs q r1⟩
  ·cases h
theorem vS {c : Nat -> Option PH.D} (I : GInv K B φ S H) (hc : FU K B φ S H c) : ∀ (xs : List TIt) (ds : List PH.D) (vs : List L2.V), BX c xs = some ds -> RepIs K (fG B φ S) φ H xs vs -> RepL K (fG B φ (PH.deadS S)) H ds vs
 | [], ds, vs, h, r => by
  rw [BX] at h;cases h;exact r
 | x :: xs, ds, vs, h, ⟨v, ws, e, r1, r2⟩ => by
  rw [BX] at h;split at h
  ·rename_i y ys q1 q2
   cases h;exact ⟨v, ws, e, Hl I hc x y v q1 r1, vS I hc xs ys ws q2 r2⟩
  ·cases h
end
theorem Hk {c : Nat -> Option PH.D} (I : GInv K B φ S H) (hc : FU K B φ S H c) (xs : List TIt) (ds : List PH.D) (vs : List L2.V) (h : jK (Dd c) xs = some ds) (r : RepIs K (fG B φ S) φ H xs vs) : RepL K (fG B φ (PH.deadS S)) H ds vs := vS I hc xs ds vs (by rw [BW]; exact h) r
theorem KG {c : Nat -> Option PH.D} (I : GInv K B φ S H) (hc : FU K B φ S H c) {x : Vl} {d : PH.D} {v : L2.V} (h : Cg c x = some d) (r : RepV K B φ S H x v) : Rep K (fG B φ (PH.deadS S)) H d v := by
 cases x with
 | dat d' => cases h; exact Rep.kp (Ext.deadS.kp I) _ _ r
 | cel n =>
  obtain ⟨a, e1, e2⟩ := r;rw [e1];exact hc n a d e2 h
 | tc xs =>
  obtain ⟨a, vs, e, h1, r1⟩ := r;dsimp only [Cg] at h;split at h
  ·rename_i ds q
   cases h;exact ⟨a, vs, e, h1, Hk I hc xs ds vs q r1⟩
  ·cases h
 | cels ns => cases h
 | scr ns => cases h
theorem AX {c : Nat -> Option PH.D} (I : GInv K B φ S H) (hc : FU K B φ S H c) : ∀ (xs : List Vl) (ds : List PH.D) (vs : List L2.V), jK (Cg c) xs = some ds -> RepVs K B φ S H xs vs -> RepL K (fG B φ (PH.deadS S)) H ds vs
 | [], ds, vs, h, r => by
  cases h;exact r
 | x :: xs, ds, vs, h, ⟨v, ws, e, r1, r2⟩ => by
  unfold jK at h;split at h
  ·rename_i y ys q1 q2
   cases h;exact ⟨v, ws, e, KG I hc q1 r1, AX I hc xs ys ws q2 r2⟩
  ·cases h
theorem Fg (I : GInv K B φ S H) : ∀ k : Nat, FU K B φ S H (EW S k)
 | 0 => fun n a d ha h => by cases h
 | k + 1 => fun n a d ha h => by
  have nb : ∀ c, S[n]? = some c -> c ≠ .dead -> ¬ fG B φ (PH.deadS S) a := fun c hn hc q => by
   rcases q with q | q
   ·exact I.blk a ⟨n, c, hn, hc, ha⟩ q
   ·exact pV q
  unfold EW at h;split at h
  ·rename_i es q
   cases h;obtain ⟨vs, e, r⟩ := I.ok n _ a q ha;exact ⟨a, vs, rfl, nb _ q (by simp), e, RepL.kp (Ext.deadS.kp I) _ _ r⟩
  ·rename_i xs q
   split at h
   ·rename_i ds q2
    cases h;obtain ⟨vs, e, r⟩ := I.ok n _ a q ha;exact ⟨a, vs, rfl, nb _ q (by simp), e, AX I (Fg I k) xs ds vs q2 r⟩
   ·cases h
  ·cases h
theorem II (hl : S.length <= S2.length) {n : Nat} {c : Cell} (h : (wN S S2)[n]? = some c) (hc : c ≠ .dead) : S[n]? = some c := by
 unfold wN at h
 by_cases hn : n < S.length
 ·rw [aJ hn] at h
  exact h
 ·rw [bH (by omega), Cf] at h
  split at h
  ·cases h; exact absurd rfl hc
  ·cases h
theorem Ij {φ φ' : List Addr} (h : ∀ (n : Nat) (a : Addr), φ[n]? = some a -> φ'[n]? = some a) : φ.length <= φ'.length := by
 by_cases hz : φ.length = 0
 ·omega
 ·have := h (φ.length - 1) (φ[φ.length - 1]'(by omega)) (bA _)
  have := (aH.mp this).1;omega
theorem HX (I : GInv K B φ S H) (I' : GInv K B φ' S2 H') (X' : Ext φ (PH.deadS S) H φ' S2 H') : GInv K B φ' (wN S S2) H' /\ Ext φ S H φ' (wN S S2) H' := by
 have hl : S.length <= S2.length := by
  have := Ij X'.ids;rw [<- I.len, <- I'.len];exact this
 have back : ∀ {n : Nat} {c : Cell} {a : Addr}, (wN S S2)[n]? = some c -> c ≠ .dead -> φ'[n]? = some a -> S[n]? = some c /\ φ[n]? = some a := fun {n c a} h hc ha => by
  have h1 := II hl h hc;refine ⟨h1, ?_⟩
  have hn : n < φ.length := by rw [I.len]; exact (aH.mp h1).1
  have h2 : φ[n]? = some (φ[n]) := bA hn;have h3 := X'.ids _ _ h2;rw [ha] at h3;rw [h2, h3]
 have al : ∀ {a : Addr}, gJ φ' (wN S S2) a -> gJ φ S a := fun ⟨n, c, h1, h2, h3⟩ => ⟨n, c, (back h1 h2 h3).1, h2, (back h1 h2 h3).2⟩
 have X : Ext φ S H φ' (wN S S2) H' := ⟨fun b o h nb => ⟨(X'.old b o h pV).1, fun q => nb (al q)⟩, X'.ids⟩
 refine ⟨⟨?_, fun n c a h1 h2 => ?_, fun n m c c' a h1 h2 h3 h4 h5 h6 => ?_, fun a h => I.blk a (al h), I'.btr⟩, X⟩
 ·unfold wN
  rw [iV, List.length_replicate, I'.len];omega
 ·by_cases hc : c = .dead
  ·subst hc; trivial
  ·obtain ⟨e1, e2⟩ := back h1 hc h2
   exact DQ X I (fun _ o h => (X'.old a o h pV).1) (I.ok n c a e1 e2)
 ·obtain ⟨e1, e2⟩ := back h1 h2 h5
  obtain ⟨e3, e4⟩ := back h3 h4 h6;exact I.inj n m c c' a e1 h2 e3 h4 e2 e4
theorem EJ {φ : List Addr} {S : aK} : ∀ {ds : List PH.D} {vs : List L2.V}, RepL K (fG B φ S) H ds vs -> RepVs K B φ S H (ds.map Vl.dat) vs
 | [], vs, h => h
 | d :: ds, vs, ⟨v, ws, e, h1, h2⟩ => ⟨v, ws, e, h1, EJ h2⟩
end
def rdR (S1 : aK) (r : Res Vl) : Res Vl := match r with
 | .ok (.dat d) S2 => if Bm d = true then .ok (.dat d) (wN S1 S2) else .stuck
 | _ => .stuck
def toJ : Vl -> Option TIt
 | .dat d => some (.inl d)
 | .cel n => some (.inr n)
 | .tc xs => some (.tup xs)
 | _ => none
section
variable {K : aB} {B : Addr -> Prop} {φ φ' : List Addr} {S S' S2 : aK} {H H' : Hp}
theorem Ck : ∀ {xs : List Vl} {js : List TIt} {vs : List L2.V}, jK toJ xs = some js -> RepVs K B φ S H xs vs -> RepIs K (fG B φ S) φ H js vs
 | [], js, vs, h, r => by cases h; exact r
 | x :: xs, js, vs, h, ⟨v, ws, e, r1, r2⟩ => by
  unfold jK at h;split at h
  ·rename_i y ys q1 q2
   cases h;refine ⟨v, ws, e, ?_, Ck q2 r2⟩
   cases x with
   | dat d => cases q1; exact r1
   | cel n => cases q1; exact r1
   | tc ys => cases q1; exact r1
   | _ => cases q1
  ·cases h
theorem RepIs.len {Bk : Addr -> Prop} : ∀ {js : List TIt} {vs : List L2.V}, RepIs K Bk φ H js vs -> vs.length = js.length
 | [], vs, h => by cases h; rfl
 | x :: xs, vs, ⟨v, ws, e, r1, r2⟩ => by rw [e, bE, bE, r2.len]
theorem RepIs.get {Bk : Addr -> Prop} : ∀ {js : List TIt} {vs : List L2.V} {i : Nat} {x : TIt}, RepIs K Bk φ H js vs -> js[i]? = some x -> ∃ v, vs[i]? = some v /\ RepI K Bk φ H x v
 | [], vs, i, x, h, q => by simp at q
 | y :: js, _, 0, x, ⟨v, ws, rfl, r1, r2⟩, q => by cases q; exact ⟨v, rfl, r1⟩
 | y :: js, _, i + 1, x, ⟨v, ws, rfl, r1, r2⟩, q => RepIs.get (i := i) r2 (by simpa using q)
end
def KZ : TIt -> Vl
 | .inl d => .dat d
 | .inr n => .cel n
 | .tup xs => .tc xs
def Jr (xs : List Vl) (S : aK) : Res Vl := match jK toJ xs with
 | some js => if js.length <= sizeLine then .ok (.tc js) S else .stuck
 | none => .stuck
def wX (r : FA) : FE := fun ρ S => (r ρ S).bind Jr
def JV (x y : Vl) (S : aK) : Res Vl := match x, y with
 | .tc xs, .dat (.int i) => (match atI xs i with
  | some j => .ok (KZ j) S
  | none => .stuck)
 | _, _ => .stuck
section
variable {X : Cx} {W : WX} {a b : Expr} {es : List Expr} {pos p : Pos} {mas : FA} {ma mb : FE} {K : aB}
theorem xM (h : PA X es (Fc X.K W mas)) : PE X (.Tuple es x1 pos) (bU X.K W (wX mas)) := bP (pe_tup h) fun σ H Q h =>
 bJ (k := fun xs ρ S1 => Jr xs S1) h fun B φ S ρ d v H1 I E r f => by
  unfold Jr at f;split at f
  ·rename_i js q
   have l := Ck q r;split at f
   ·rename_i hl
    exact ⟨by rw [l.len]; exact hl, fun p hp => f φ _ _ (I.new hp) (Ext.new I hp) ⟨p, v, rfl, .inl (.inl upd_same), l.kp ((Ext.new I hp).kp I) fun _ _ h => h⟩⟩
   ·exact f.elim
  ·exact f.elim
theorem KR : dO K (cIx K) JV := fun {W σ B φ S H x y d e Q} I r1 r2 f => by
 unfold JV at f;split at f
 ·rename_i xs i
  cases r2;obtain ⟨a, vs, rfl, h1, l1⟩ := r1;split at f
  ·rename_i j q
   unfold atI at q;cases qi : ixN xs.length i with
   | none => rw [qi] at q; cases q
   | some n =>
    rw [qi] at q;obtain ⟨v, h2, h3⟩ := l1.get q;refine ⟨vs, v, .inr h1, by unfold atI; rw [l1.len, qi]; exact h2, Fin.now f I ?_⟩
    cases j with
    | inl d => exact h3
    | inr n => exact h3
    | tup ys => exact h3
  ·exact f.elim
 ·exact f.elim
end
section
variable {S : aK} {ρ : Ev} {mas : FA} {md : FD}
theorem pS : wX mas ρ S = (mas ρ S).bind Jr := rfl
theorem G0 : wN S (deadS S) = S := by
 unfold wN deadS;rw [aQ, ET];simp
end
abbrev FGn := Ev -> aK -> Res (List PH.D)
abbrev FDG := List Vl -> aK -> Res (List PH.D)
end PH
namespace L2
open PySem PySem.Spec PyProof.Rows GenW
abbrev EndP := End -> Shared -> Prop
def GTurn (M : Model) (A : Around) (F : EndP) (c : Code) (t : Sem PySem.Fin) (fs : List Frame) (s : Shared) : Prop :=
 ∀ Γ p, Γ.code = c -> Γ.Woken A -> ∃ e s', Runs M Γ p t fs s e s' /\ F e s'
def KB (it : Addr) (s s' : Shared) : Prop := s'.os = s.os /\ s'.gens = s.gens /\ ∀ b o, b ≠ it -> s.heap.get? b = some o -> s'.heap.get? b = some o
def FR (M : Model) (A : Around) (it a : Addr) (its : Array Value) : Nat -> Shared -> EndP
 | 0, s => fun e s' => e = .ret (.ok (.ret .none)) /\ KB it s s'
 | r + 1, s => fun e s' => match e with
  | .ret _ => False
  | .susp v g l k c p fs => (End.susp v g l k c p fs).quiet = true /\ its[its.size - (r + 1)]? = some v /\ KB it s s' /\ s'.heap.get? it = some (GNX.itObj a (its.size - r)) /\
    ∀ s'' : Shared, s''.heap.get? it = some (GNX.itObj a (its.size - r)) -> s''.heap.IsList a its -> GTurn M A (FR M A it a its r s'') c (k (.send .none)) fs s''
abbrev TQ := Addr -> List V -> Hp -> Prop
end L2
namespace L2
open PySem PySem.Spec PyProof.Rows
abbrev Cls3 := Value × Option Nat × (Addr -> Value -> Option Addr -> TS)
end L2
namespace PH
open PySem PySem.Spec PyProof.Rows L2
inductive XJ where
 | c (v : L2.V) (d : PH.D) | f (n : Str) | v (i : Nat) | fl (n : Str) (i : Nat)
section
variable {X : Cx} {W : WX} {e : Expr} {es : List Expr} {pos : Pos} {K : aB} {B : Addr -> Prop} {φ φ' : List Addr} {S S' : aK} {H H' : Hp} {σ : L2.St} {m : FS} {D : Ends} {cs : List Str} {x : Str}
inductive HJ where
 | m (f : FS) | j (k : Nat) (its : List XJ)
end
end PH
namespace PH
open PySem PySem.Spec PyProof PyProof.Rows L2
theorem IP {n : Nat} {fa : List He.Fa} {fn : List He.DefD} {ts : List He.Tab} {ex : aB -> Bool} {g : Addr -> Option Obj} {s : Shared} (h : ∀ a, g a = s.heap.get? a) : Kb n fa fn ts ex g = (Jz n fa fn ts ex).obs s := by
 have e : g = s.heap.get? := funext h;rw [e] <;> rfl
section
variable {X : Cx} {W : WX}
theorem fI {i j pos} : PE X (.Constant (.int i) j pos) (bU X.K W (mC (.int i))) := HF pe_int fun _ _ => rfl
theorem fS {x j pos} : PE X (.Constant (.str x) j pos) (bU X.K W (mC (.str x))) := HF pe_str fun _ _ => rfl
theorem fB {b j pos} : PE X (.Constant (.bool b) j pos) (bU X.K W (mC (.bl b))) := HF pe_bl fun _ _ => rfl
theorem fN {j pos} : PE X (.Constant .none j pos) (bU X.K W (mC .non)) := HF pe_non fun _ _ => rfl
end
section
variable {P : Program} {w : World} {K : aB} {mg : Str -> Option Value} {base : Heap}
theorem fH {x : Str} {st : Stmt} {N ps : List Str} {k : Nat} {md : FD} {mb : FS} (F : mT K x st) (g : mg x = some (.ref (He.ga K x))) (S : FnScope N ps (defScope st)) (R : Runs md N.length ps.length mb)
  (bnd : ∀ (kV doc pm : Value) (an : Option Addr) (cdv ct : Value) (us : List Value), us.length = ps.length -> bindArgs (eS x x (defArgs st) (defBody st) (defScope st) .none kV doc pm an cdv ct) ⟨us, []⟩ = pure (ps.zip us))
  (hbody : ∀ (cdv : Value) (A : Around) (outer : List Env) (s : Shared) (H : Hp) (E : XK), Room k (A.deeper (envOfC x (defScope st) s.heap.objs.size (He.ga K x) cdv)) ->
   Takes (cxOf (L2.CX P w) P w K mg base N x (defScope st) (He.ga K x) cdv A outer s H E) (fun c x _ H => E c x H) -> N.Nodup ->
   PSs (cxOf (L2.CX P w) P w K mg base N x (defScope st) (He.ga K x) cdv A outer s H E) (defBody st) (lC K (fun c x _ H => E c x H) mb)) : lN P w K mg base (k + 1) x ps (spF K md) :=
 okF F g S R bnd fun cdv A outer s H E hr => hbody cdv A outer s H E hr (takes_of (X := cxOf (L2.CX P w) P w K mg base N x (defScope st) (He.ga K x) cdv A outer s H E) (E := E) rfl rfl rfl rfl) S.nd
theorem zQ {C m q : Str} {st : Stmt} {N ps : List Str} {k : Nat} {md : FD} {mb : FS} (F : Hh K C m q st) (g : Meth K (He.ga K C) m (He.ma K (He.ga K C) m)) (S : FnScope N ps (defScope st)) (R : Runs md N.length ps.length mb)
  (bnd : ∀ (kV doc pm : Value) (an : Option Addr) (cdv ct : Value) (us : List Value), us.length = ps.length -> bindArgs (eS m q (defArgs st) (defBody st) (defScope st) .none kV doc pm an cdv ct) ⟨us, []⟩ = pure (ps.zip us))
  (hbody : ∀ (cdv : Value) (A : Around) (outer : List Env) (s : Shared) (H : Hp) (E : XK), Room k (A.deeper (envOfC q (defScope st) s.heap.objs.size (He.ma K (He.ga K C) m) cdv)) ->
   Takes (cxOf (L2.CX P w) P w K mg base N q (defScope st) (He.ma K (He.ga K C) m) cdv A outer s H E) (fun c x _ H => E c x H) -> N.Nodup ->
   PSs (cxOf (L2.CX P w) P w K mg base N q (defScope st) (He.ma K (He.ga K C) m) cdv A outer s H E) (defBody st) (lC K (fun c x _ H => E c x H) mb)) : OkMX P w K mg base (k + 1) C m ps (spF K md) :=
 okFM F g S R bnd fun cdv A outer s H E hr => hbody cdv A outer s H E hr (takes_of (X := cxOf (L2.CX P w) P w K mg base N q (defScope st) (He.ma K (He.ga K C) m) cdv A outer s H E) (E := E) rfl rfl rfl rfl) S.nd
end
end PH
namespace PH
open PySem PySem.Spec PyProof.Rows L2
structure XsF (K : aB) (D : Addr) : Prop where
 cl : (PySem.W.clsIn K D).isSome = true
 hg : cR K (.ref D) "__getattribute__" = some (some (.builtin "BaseException.__getattribute__"))
 hk : cR K (.ref D) "__getattr__" = some none
 hs : PySem.W.subIn K (.ref D) (.type "BaseException") = some true
 ha : cR K (.ref D) "__class__" = some (some (.builtin "object.__class__"))
 hn : tI K (.builtin "object.__class__") "__get__" = some (some (.builtin "getset_descriptor.__get__"))
 ht : vP K (.builtin "object.__class__") = some true
 hm : AW K D (.type "object") = some true
inductive XH where
 | own (y : Str) | ty (T : String)
def xhB (c : Str) : XH -> Bool
 | .own y => decide (c = y)
 | .ty _ => true
def rXa (K : aB) (a : Addr) (cls : Value) (d : Option Addr) : List V -> Hp -> VK -> Prop := fun xs H Q => ∃ (D : Addr) (c : V) (cv : Value) (b : Bool), xs = [.ref a, c] /\ (∀ u, RelV c u -> u = cv) /\ cls = .ref D /\ XsF K D /\ PySem.W.hasDictIn K D = true /\ (d = none \/ ∃ dd fs, d = some dd /\ H dd = some (.xd fs)) /\ qQ K (.ref D) cv = some b /\ Q (.bl b) H
def hV (K : aB) : XH -> V
 | .own y => .ref (He.ga K y)
 | .ty T => .ty T
def Il (K : aB) (a : Addr) (cls : Value) (d : Option Addr) (k : Nat) : List XH -> TA
 | [] => tNil
 | y :: r => tCons (tCB (rXa K a cls d) (tCons (yX k) (tCons (tC (hV K y)) tNil))) (Il K a cls d k r)
def K0 (K : aB) (a : Addr) (cls : Value) (d : Option Addr) (k i : Nat) (fin : Option (List XH)) : List (List XH) -> TS
 | [] => fun D σ H => match fin with
  | none => D.nx σ H
  | some ys => tOp (FM K) (yX i) (tLst (Il K a cls d k ys)) σ H fun v H1 => D.rt v H1
 | ys :: r => fun D σ H => tOp (FM K) (yX i) (tLst (Il K a cls d k ys)) σ H fun v H1 => K0 K a cls d k i fin r D (σ.set i (some v)) H1
def hAll (K : aB) (a : Addr) (cls : Value) (d : Option Addr) (k i : Nat) (ys : List XH) (r : List (List XH)) (fin : Option (List XH)) : TS := fun D σ H => tLst (Il K a cls d k ys) σ H fun v H1 => K0 K a cls d k i fin r D (σ.set i (some v)) H1
section
variable {X : Cx} {W : WX} {e : Expr} {es : List Expr} {K : aB} {B : Addr -> Prop} {φ φ' : List Addr} {S S' : aK} {H H' : Hp} {σ : L2.St} {D : Ends} {x : Str} {m : FS} {cs : List Str} {pos p p2 p3 : Pos}
def hR (K : aB) (b : Str) (k i : Nat) (ys : List XH) (r : List (List XH)) (fin : Option (List XH)) : Cls3 := (.ref (He.ga K b), some k, fun a cls d => hAll K a cls d k i ys r fin)
end
section
variable {X : Cx} {W : WX} {K : aB} {B : Addr -> Prop} {φ φ' : List Addr} {S S' : aK} {H H' : Hp} {σ : L2.St} {D : Ends} {ma : FE} {m : FS} {t : Tg} {yK : List Stmt} {pos : Pos}
theorem Ft {j : TIt} {v : L2.V} (r : RepI K (fG B φ S) φ H j v) : RepV K B φ S H (KZ j) v := by
 cases j with
 | inl d => exact r
 | inr n => exact r
 | tup xs => exact r
end
def Aa : Vl -> Option (List TIt)
 | .dat (.tup ds) => some (ds.map TIt.inl)
 | .tc js => some js
 | _ => none
section
variable {X : Cx} {W : WX} {K : aB} {B : Addr -> Prop} {φ φ' : List Addr} {S S' : aK} {H H' : Hp} {σ : L2.St} {a : Expr} {pos p : Pos} {ma : FE}
theorem zL {Bk : Addr -> Prop} : ∀ {ds : List PH.D} {vs : List L2.V}, RepL K Bk H ds vs -> RepIs K Bk φ H (ds.map TIt.inl) vs
 | [], vs, h => h
 | d :: ds, vs, ⟨v, ws, e, h1, h2⟩ => ⟨v, ws, e, h1, zL h2⟩
theorem RepIs.append {Bk : Addr -> Prop} : ∀ {xs ys : List TIt} {vs ws : List L2.V}, RepIs K Bk φ H xs vs -> RepIs K Bk φ H ys ws -> RepIs K Bk φ H (xs ++ ys) (vs ++ ws)
 | [], ys, vs, ws, h, h' => by cases h; exact h'
 | x :: xs, ys, vs, ws, ⟨v, us, e, h1, h2⟩, h' => by
  subst e;exact ⟨v, us ++ ws, rfl, h1, RepIs.append h2 h'⟩
theorem AZ {x : Vl} {js : List TIt} {v : L2.V} (h : Aa x = some js) (r : RepV K B φ S H x v) : ∃ q vs, v = .ref q /\ SqT K H q vs /\ RepIs K (fG B φ S) φ H js vs := by
 unfold Aa at h;split at h
 ·cases h
  obtain ⟨q, vs, e, h1, l⟩ := r;exact ⟨q, vs, e, h1, zL l⟩
 ·cases h
  exact r
 ·cases h
def pU (x y : Vl) (S : aK) : Res Vl := match Aa x, Aa y with
 | some xs, some ys => if xs.length + ys.length <= sizeLine then .ok (.tc (xs ++ ys)) S else .stuck
 | _, _ => .stuck
theorem Dk : dO K (FM K) pU := fun {W σ B φ S H x y d e Q} I r1 r2 f => by
 unfold pU at f;split at f
 ·rename_i xs ys q1 q2
  obtain ⟨a, vs, rfl, h1, l1⟩ := AZ q1 r1;obtain ⟨b, ws, rfl, h2, l2⟩ := AZ q2 r2;split at f
  ·rename_i h
   refine nJ ⟨a, b, vs, ws, rfl, rfl, h1, h2, by rw [l1.len, l2.len]; exact h, fun e => ?_, fun e1 e2 => ?_, fun _ _ p hp => ?_⟩
   ·have l := l1.append l2
    rw [e, zA] at l;exact Fin.now f I ⟨b, ws, rfl, h2, l⟩
   ·have l := l1.append l2
    rw [e2, cL] at l;exact Fin.now f I ⟨a, vs, rfl, h1, l⟩
   ·exact f φ _ _ (I.new hp) (Ext.new I hp) ⟨p, vs ++ ws, rfl, .inl (.inl upd_same), (l1.append l2).kp ((Ext.new I hp).kp I) fun _ _ h => h⟩
  ·exact f.elim
 ·exact f.elim
def A7 (x : Vl) (S : aK) : Res Vl := match x with
 | .cel n => (match S[n]? with
  | some (.lv es) => (match jK toJ es with
   | some js => .ok (.tc js) S
   | none => .stuck)
  | _ => .stuck)
 | _ => .stuck
theorem KN : yE K (DR K) A7 := fun {W σ B φ S H x d Q} I r f => by
 unfold A7 at f;split at f
 ·rename_i n
  split at f
  ·rename_i es q
   split at f
   ·rename_i js q2
    obtain ⟨a, rfl, ha⟩ := r;obtain ⟨vs, h1, l⟩ := I.ok n _ a q ha;have l2 := Ck q2 l;exact ⟨vs, SqL.of h1, fun p hp => f φ _ _ (I.new hp) (Ext.new I hp) ⟨p, vs, rfl, .inl (.inl upd_same), l2.kp ((Ext.new I hp).kp I) fun _ _ h => h⟩⟩
   ·exact f.elim
  ·exact f.elim
 ·exact f.elim
theorem M3 (hm : X.mg "tuple" = none) (ha : PE X a (bU X.K W ma)) (hg : Gl X "tuple" := by rfl) (hs : starEach [a] X.env = [(false, eval a X.env)] := by rfl) : PE X (.Call (.Name "tuple" p) [a] [] pos) (bU X.K W (m1 A7 ma)) := bP (EI hm ha hg hs) fun σ H Q h => pC KN h
def kL (x y : Vl) (S : aK) : Res Vl := match x with
 | .tc xs => JV (.tc xs) y S
 | x => cV x y S
theorem s_ixB : dO K (cIx K) kL := fun {W σ B φ S H x y d e Q} I r1 r2 f => by
 unfold kL at f;split at f
 ·exact KR I r1 r2 f
 ·exact s_ix I r1 r2 f
def uA (x : Vl) (S : aK) : Res Vl := match x with
 | .cel n => (match S[n]? with
  | some (.lv es) => newV es S
  | _ => .stuck)
 | _ => .stuck
theorem I7 : yE K (HR K) uA := fun {W σ B φ S H x d Q} I r f => by
 unfold uA at f;split at f
 ·rename_i n
  split at f
  ·rename_i es q
   obtain ⟨a, rfl, ha⟩ := r;obtain ⟨vs, h1, l⟩ := I.ok n _ a q ha;exact ⟨vs, .inl (SqL.of h1), fun p hp => Fin.newV f I l hp⟩
  ·exact f.elim
 ·exact f.elim
theorem JT (hm : X.mg "list" = none) (ha : PE X a (bU X.K W ma)) (hg : Gl X "list" := by rfl) (hs : starEach [a] X.env = [(false, eval a X.env)] := by rfl) : PE X (.Call (.Name "list" p) [a] [] pos) (bU X.K W (m1 uA ma)) := bP (HL hm ha hg hs) fun σ H Q h => pC I7 h
variable {b : Expr} {mb : FE}
theorem qX (ha : PE X a (bU X.K W ma)) (hb : PE X b (bU X.K W mb)) (hs : PlainIx b := by intro _ _; rfl) : PE X (.Subscript a b pos) (bU X.K W (aZ kL ma mb)) := bP (M8 ha hb hs) fun σ H Q h => tK s_ixB h
theorem RepIs.drop {Bk : Addr -> Prop} : ∀ (n : Nat) {xs : List TIt} {vs : List L2.V}, RepIs K Bk φ H xs vs -> RepIs K Bk φ H (xs.drop n) (vs.drop n)
 | 0, xs, vs, h => h
 | n + 1, [], vs, h => by cases h; exact rfl
 | n + 1, x :: xs, vs, ⟨v, ws, e, h1, h2⟩ => by subst e; exact RepIs.drop n h2
theorem RepIs.take {Bk : Addr -> Prop} : ∀ (n : Nat) {xs : List TIt} {vs : List L2.V}, RepIs K Bk φ H xs vs -> RepIs K Bk φ H (xs.take n) (vs.take n)
 | 0, xs, vs, h => by rw [List.take_zero, List.take_zero]; exact rfl
 | n + 1, [], vs, h => by cases h; exact rfl
 | n + 1, x :: xs, vs, ⟨v, ws, e, h1, h2⟩ => by subst e; exact ⟨v, ws.take n, rfl, h1, RepIs.take n h2⟩
def DM (xs : List TIt) (lo hi : Option Int) : List TIt := (xs.drop (HT.sIx xs.length 0 lo)).take (HT.sIx xs.length xs.length hi - HT.sIx xs.length 0 lo)
theorem RepIs.cut {Bk : Addr -> Prop} {ds : List TIt} {vs : List L2.V} {lo hi : Option Int} (h : RepIs K Bk φ H ds vs) : RepIs K Bk φ H (DM ds lo hi) (cutV vs lo hi) := by
 unfold DM cutV;rw [h.len];exact (h.drop _).take _
theorem DL {xs : List TIt} {lo hi : Option Int} (h : HT.sIx xs.length 0 lo = 0 /\ HT.sIx xs.length xs.length hi = xs.length) : DM xs lo hi = xs := by
 unfold DM;rw [h.1, h.2];simp
def uX (x : Vl) (lo hi : Option Int) (S : aK) : Res Vl := match x with
 | .tc xs => .ok (.tc (DM xs lo hi)) S
 | .dat (.tup xs) => .ok (.dat (.tup (cutD xs lo hi))) S
 | _ => .stuck
def Ke (a : FE) (l h : FO) : FE := fun ρ S => (a ρ S).bind fun x S1 => (l ρ S1).bind fun lo S2 => (h ρ S2).bind fun hi S3 => uX x lo hi S3
theorem f_slB {p2 : Pos} {lo hi : Option Expr} {ml mh : FO} (ha : PE X a (bU X.K W ma)) (hl : PO X lo (rdO X.K W ml)) (hh : PO X hi (rdO X.K W mh)) : PE X (.Subscript a (.Slice lo hi none p2) pos) (bU X.K W (Ke ma ml mh)) := bP (pe_slice sl_C ha hl hh) fun σ H Q h =>
 bJ (k := fun x ρ S1 => (ml ρ S1).bind fun lo S2 => (mh ρ S2).bind fun hi S3 => uX x lo hi S3) h fun B φ S ρ d v H1 I E r f => gP I E f fun φ1 S1 d1 v1 H2 I1 X1 E1 r1 f1 => gP I1 E1 f1 fun φ2 S2 d2 v2 H3 I2 X2 E2 r2 f2 => by
  cases r1;cases r2
  replace r := (r.ext X1 I).ext X2 I1
  unfold uX at f2;split at f2
  ·rename_i xs
   obtain ⟨a, vs, rfl, h1, l1⟩ := r;refine nJ ⟨vs, h1, fun hw => ?_, fun hw p hp => ?_⟩
   ·rw [l1.len] at hw
    have e := DL (xs := xs) hw;rw [e] at f2;exact Fin.now f2 I2 ⟨a, vs, rfl, h1, l1⟩
   ·exact f2 φ2 _ _ (I2.new hp) (Ext.new I2 hp) ⟨p, _, rfl, .inl (.inl upd_same), l1.cut.kp ((Ext.new I2 hp).kp I2) fun _ _ h => h⟩
  ·rename_i xs
   obtain ⟨a, vs, rfl, h1, l1⟩ := r;refine nJ ⟨vs, h1, fun hw => ?_, fun hw p hp => Fin.newT f2 I2 l1.cut hp⟩
   rw [l1.len] at hw;have e := AN (xs := xs) hw;rw [e] at f2;exact Fin.now f2 I2 ⟨a, vs, rfl, h1, l1⟩
  ·exact f2.elim
end
section
variable {X : Cx} {W : WX} {K : aB} {B : Addr -> Prop} {φ φ' : List Addr} {S S' : aK} {H H' : Hp} {σ : L2.St} {Q : VK} {ma me : FE} {mt : FT} {pos : Pos}
def oR (t : Tg) (mt : FT) (me : FE) (ρ : Ev) : List TIt -> aK -> Res (List Vl)
 | [], S => .ok [] S
 | j :: r, S => match mU t (KZ j) ρ with
  | none => .stuck
  | some ρ1 => match mt ρ1 S with
   | .ok b S1 => if b = true then (match me ρ1 S1 with
     | .ok e S2 => (match oR t mt me ρ r S2 with
      | .ok es S3 => .ok (e :: es) S3
      | _ => .stuck)
     | _ => .stuck) else oR t mt me ρ r S1
   | _ => .stuck
def C1 (w : Bool) (t : Tg) (mt : FT) (me : FE) (vs : List Nat) (ρ : Ev) (x : Vl) (S1 : aK) : Res Vl := match Aa x with
 | some xs => if xs.length <= 1000 then (match oR t mt me (wipeE ρ vs) xs S1 with
  | .ok es S2 => F9 w es S2
  | _ => .stuck) else .stuck
 | none => .stuck
def IS (w : Bool) (a : FE) (t : Tg) (mt : FT) (me : FE) (vs : List Nat) : FE := fun ρ S => (a ρ S).bind (C1 w t mt me vs ρ)
theorem Ht {w : Bool} {t : Tg} {vs : List Nat} (ht : ∀ i ∈ Hi t, i ∈ vs) (h : bU K W (IS w ma t mt me vs) σ H Q) : tLc (Ik K (bU K W ma)) (BZ K t) (qU K BV mt) (bU K BV me) vs σ H Q := by
 refine bJ (k := fun x ρ S1 => C1 w t mt me vs ρ x S1) h fun B φ0 S0 ρ d v H0 I0 E0 r f0 => ?_
 unfold C1 at f0;split at f0
 case h_2 => exact f0.elim
 rename_i xs qx;split at f0
 case isFalse => exact f0.elim
 rename_i hsz;obtain ⟨a, vs0, rfl, ha0, l0⟩ := AZ qx r;have hl := l0.len;cases q0 : oR t mt me (wipeE ρ vs) xs S0 with
 | stuck => rw [q0] at f0; exact f0.elim
 | err e S' => rw [q0] at f0; exact f0.elim
 | ok es0 Sz =>
 rw [q0] at f0;refine nJ ⟨⟨vs0, ha0⟩, ?_⟩
 intro A hA;have nB : ¬ B A := fun q => by obtain ⟨u, e⟩ := I0.btr A q; rw [hA] at e; cases e
 have IA : GInv K (eF B A) φ0 S0 (upd H0 A (.lst [])) := I0.plus hA;have z : sizeLine = 16777216 := rfl;refine ⟨fun i k H' => i <= xs.length /\ k = xs.length + 1 - i /\ ∃ φ1 S1 us acc rest, GInv K (eF B A) φ1 S1 H' /\ Ext φ0 S0 H0 φ1 S1 H' /\ RepE K (eF B A) φ1 S1 H' (wipeE ρ vs) (wipe σ vs) /\ H' A = some (.lst us) /\ us.length <= i /\ RepVs K (eF B A) φ1 S1 H' acc us /\ oR t mt me (wipeE ρ vs) (xs.drop i) S1 = .ok rest Sz /\ acc ++ rest = es0,
  ⟨xs.length + 1, zB _, rfl, φ0, S0, [], [], es0, IA, Ext.new I0 hA, (E0.wipes vs).plus I0 hA, upd_same, bN _, rfl, q0, rfl⟩, ?_⟩
 rintro i k H' ⟨hi, hk, φ1, S1, us, acc, rs, I1, X1, E1, hA1, hul, l1, g1, ea⟩
 have h2 : SqT K H' a vs0 := SqT.kp (X1.kp I0).tup ha0;have kp : Kp (fG B φ0 S0) H0 (fG (eF B A) φ1 S1) H' := ⟨fun b o h nb => by
  obtain ⟨h1, h2⟩ := (X1.kp I0).old b o h nb;refine ⟨h1, fun q => ?_⟩
  rcases q with (q | q) | q
  ·exact h2 (.inl q)
  ·subst q; rw [hA] at h; cases h
  ·exact h2 (.inr q), (X1.kp I0).tup⟩
 have lx : RepIs K (fG (eF B A) φ1 S1) φ1 H' xs vs0 := l0.kp kp X1.ids
 by_cases he : i = xs.length
 ·rw [he, oY, oR] at g1
  cases g1;rw [cL] at ea;subst ea;exact .inl ⟨⟨vs0, h2, by omega⟩, Fin.doneW f0 I1 X1 hA nB hA1 l1⟩
 ·have hlt : i < xs.length := by omega
  have hiv : i < vs0.length := by omega
  rw [bW hlt, oR] at g1;refine .inr ⟨⟨vs0, vs0[i], h2, by simp [hiv]⟩, fun H2 => i + 1 <= xs.length /\ ∃ φ1 S1 us acc rest, GInv K (eF B A) φ1 S1 H2 /\ Ext φ0 S0 H0 φ1 S1 H2 /\ RepE K (eF B A) φ1 S1 H2 (wipeE ρ vs) (wipe σ vs) /\ H2 A = some (.lst us) /\ us.length <= i + 1 /\ RepVs K (eF B A) φ1 S1 H2 acc us /\ oR t mt me (wipeE ρ vs) (xs.drop (i + 1)) S1 = .ok rest Sz /\ acc ++ rest = es0, fun H2 h2 => ⟨xs.length + 1 - (i + 1), by omega, h2.1, rfl, h2.2⟩, fun x H2 y => ?_⟩
  obtain ⟨rfl, y⟩ := y;obtain ⟨v', h3, r2'⟩ := lx.get (bA hlt);rw [y vs0 h2] at h3;cases h3;have r2 := Ft r2';split at g1
  case h_1 => cases g1
  rename_i ρ2 q2;refine rE E1 (d := KZ xs[i]) r2 q2 fun ws E3 => ⟨by rw [qD ht, qC], eF B A, φ1, S1, ρ2, I1, E3, ?_⟩
  split at g1
  case h_2 => cases g1
  rename_i b S3 q3;rw [q3];intro φ3 b' H3 I3 X3 rb;have rb : b' = b := rb;subst rb;have hA3 := (X3.old A _ hA1 fun q => I1.blk A q (.inr rfl)).1
  have Xa := X1.trans X3;cases b' with
  | false => exact ⟨hlt, φ3, S3, us, acc, rs, I3, Xa, E1.ext X3 I1, hA3, by omega, l1.ext X3 I1, g1, ea⟩
  | true =>
   rw [if_pos rfl];rw [if_pos rfl] at g1;refine ⟨eF B A, φ3, S3, ρ2, I3, E3.ext X3 I1, ?_⟩
   split at g1
   case h_2 => cases g1
   rename_i e S4 q4;rw [q4];intro φ4 v4 H4 I4 X4 r4;have hA4 := (X4.old A _ hA3 fun q => I3.blk A q (.inr rfl)).1
   split at g1
   case h_2 => cases g1
   rename_i es S5 q5;cases g1;have l4 : RepVs K (eF B A) φ4 S4 H4 (acc ++ [e]) (us ++ [v4]) := ((l1.ext X3 I1).ext X4 I3).snocV r4;refine ⟨us, hA4, by omega, hlt, φ4, S4, us ++ [v4], acc ++ [e], es, I4.plusPut hA4, ?_, ((E1.ext X3 I1).ext X4 I3).plusPut hA4, upd_same, by simp; omega, bY (RepV.plusPut hA4) l4, q5, by rw [<- ea]; simp⟩
   exact ⟨fun b o h nb => by
    obtain ⟨h1, h2⟩ := (Xa.trans X4).old b o h nb;exact ⟨by rw [upd_ne (fun e => by subst e; rw [hA] at h; cases h)]; exact h1, h2⟩, (Xa.trans X4).ids⟩
theorem f_lcJ (w : Bool) {t : Tg} {elt tg iter : Expr} {ifs : List Expr} {scope : Scope} {own : List (Str × Nat)} (hc : X.calm = true) (hN : X.N.Nodup) (hi : PE X iter (bU X.K W ma)) (ok : BlkOk X.N X.env.scope scope own)
  (hg : ∀ (s : Shared) (H : Hp) (C : Addr) (cl : List (Str × Addr)) (fp : List Addr), PG (X.blk s H scope (compEnvC scope cl C X.env) fp) tg (BZ X.K t)) (ht : ∀ (s : Shared) (H : Hp) (C : Addr) (cl : List (Str × Addr)) (fp : List Addr), PTs (X.blk s H scope (compEnvC scope cl C X.env) fp) ifs (qU X.K BV mt))
  (he : ∀ (s : Shared) (H : Hp) (C : Addr) (cl : List (Str × Addr)) (fp : List Addr), PE (X.blk s H scope (compEnvC scope cl C X.env) fp) elt (bU X.K BV me)) (hs : ∀ x, foldedSetIterable iter X.env x = pure x := by intro _; rfl) (hv : ∀ i ∈ Hi t, i ∈ own.map (·.2) := by decide) :
  PE X (.ListComp elt [⟨tg, iter, ifs, 0⟩] scope pos) (bU X.K W (IS w ma t mt me (own.map (·.2)))) := bP (pe_lc hc hN (An hi) ok hg ht he hs) fun σ H Q h => Ht hv h
end
def Cw (N : Nat) (md : FD) (ds : List Vl) (S1 : aK) : Res Vl := match jK (Cg (EW S1 N)) ds with
 | some es => rdR S1 (md (es.map Vl.dat) (deadS S1))
 | none => .stuck
def Kg (N : Nat) (md : FD) (as : FA) : FE := fun ρ S => (as ρ S).bind (Cw N md)
section
variable {X : Cx} {W : WX} {e : Expr} {es : List Expr} {pos p : Pos} {x : Str} {mas : FA} {ps : List Str} {md : FD} {j k : Nat} {S : aK} {ρ : Ev}
theorem FB (N : Nat) (F : lN X.prog X.w X.K X.mg X.base j x ps (spF X.K md)) (hr : Room k X.A) (tk : Takes X W) (ha : PA X (e :: es) (Fc X.K W mas)) (hjk : j <= k := by decide) (hg : Gl X x := by rfl) (hdb : (x == ("__debug__" : Str)) = false := by decide)
  (he : starEach (e :: es) X.env = (false, eval e X.env) :: starEach es X.env := by rfl) (hpl : (backTo pos (starEach es X.env)).any (·.1) = false := by rfl) : PE X (.Call (.Name x p) (e :: es) [] pos) (bU X.K W (Kg N md mas)) := by
 obtain ⟨fd, F, hm, hk, hb⟩ := F;refine bP (pe_callS (E := WE W) F (hr.mono hjk) hg hm hk hb (fun σ => passAt tk σ) ha hdb he hpl) fun σ H Q h => ?_
 refine bJ (k := fun ds _ S => Cw N md ds S) h fun B φ S ρ d v H1 I E r f => ?_
 unfold Cw at f;split at f
 case h_2 => exact f.elim
 rename_i es' qd;refine ⟨B, φ, deadS S, _, I.deadS, EJ (AX I (Fg I N) d es' v qd r), ?_⟩
 unfold rdR at f;split at f
 case h_2 => exact f.elim
 rename_i y S2 qm;rw [qm];split at f
 case isFalse => exact f.elim
 rename_i hc;intro φ' u H' I' X' r';obtain ⟨bk, be⟩ := HX I I' X';exact f φ' u H' bk be (Bl y u hc r')
theorem g_rdN {N : Nat} : Kg N md mas ρ S = (mas ρ S).bind (Cw N md) := rfl
theorem IW {N : Nat} {ds : List Vl} {es : List PH.D} {d : PH.D} (h1 : jK (Cg (EW S N)) ds = some es) (h2 : md (es.map Vl.dat) (deadS S) = .ok (.dat d) (deadS S)) (h3 : Bm d = true) : Cw N md ds S = .ok (.dat d) S := by
 unfold Cw;rw [h1];dsimp only;rw [h2];unfold rdR;dsimp only;rw [if_pos h3, G0]
variable {a : FE} {t : Tg} {mt : FT} {me : FE} {vs : List Nat} {w : Bool} {l h : FO} {x : Vl} {lo hi : Option Int}
theorem EA : IS w a t mt me vs ρ S = (a ρ S).bind (C1 w t mt me vs ρ) := rfl
def GD (x : Vl) (lo hi : Option Int) (S : aK) : Res Vl := uX x lo hi S
def GB (h : FO) (ρ : Ev) (x : Vl) (lo : Option Int) (S2 : aK) : Res Vl := (h ρ S2).bind (GD x lo)
def Js (l h : FO) (ρ : Ev) (x : Vl) (S1 : aK) : Res Vl := (l ρ S1).bind (GB h ρ x)
theorem Az : Ke a l h ρ S = (a ρ S).bind (Js l h ρ) := rfl
theorem vJ : Js l h ρ x S = (l ρ S).bind (GB h ρ x) := rfl
theorem vI : GB h ρ x lo S = (h ρ S).bind (GD x lo) := rfl
theorem vK : GD x lo hi S = uX x lo hi S := rfl
end
def kZ : FS :=
 (bI (lJ (m1 (fIsi "int") (aE 0)) (G6 (m1 (fIsi "bool") (aE 0)))))
def gA : FD := run 1 1 kZ
def sU : FS :=
 (bI (lJ (aR gA (aC (aE 0) aL)) (oA Fe Fe (mC (.int 0)) (aE 0) (mC (.int 1)))))
def sD : FD := run 1 1 sU
def iQ : FE :=
 (lJ (aR gA (aC (aE 4) aL)) (oA Fe Fe (aE 2) (aE 4) (aE 3)))
def gG : FS :=
 (aT (bV (sG (lP (dH (m1 (fIsi "tuple") (aE 0)))) (mB (aZ eK (m1 kD (aE 0)) (mC (.int 0))))) (bI (mC (.bl false))) bD)
 (aT (bV (sG (lP (dH (m1 (fIsi "str") (aZ cV (aE 0) (mC (.int 0)))))) (mB (m1 (eC true) (aZ cV (aE 0) (mC (.int 0)))))) (bI (mC (.bl false))) bD)
 (aT (bT (m1 uB (aZ cV (aE 0) (mC (.int 0)))) (.tp [1, 2, 3]))
 (aT (bV (mB (aZ Ce (m1 kD (aE 0)) (aZ (dY false) (aE 1) (mC (.int 1))))) (bI (mC (.bl false))) bD)
 (bI (m1 uY (Dw false (jA (IR false (aE 0) (qV (mC (.int 1))) yT)) (.nm 4) fJ iQ [4])))))))
def gB : FD := run 5 1 gG
def mF : FS :=
 (aT (bT (aZ cV (aE 0) (mC (.int 0))) (.nm 1))
 (aT (bV (sG (mB (aZ eK (aE 1) (mC (.str "keep")))) (mB (aZ eK (aE 1) (mC (.str "again"))))) (bI (cS false (aC (aZ cV (aE 0) (mC (.int 1))) aL))) bD)
 (aT (bV (mB (aZ eK (aE 1) (mC (.str "either")))) (bI (cS false (aC (aZ cV (aE 0) (mC (.int 1))) (aC (aZ cV (aE 0) (mC (.int 2))) aL)))) bD)
 (aT (bV (mB (aZ eK (aE 1) (mC (.str "call")))) (bI (aZ cV (aE 0) (mC (.int 3)))) bD)
 (bI (cS false aL))))))
def hY : FD := run 2 1 mF
def jR : FS :=
 (aT (bT (aZ cV (aE 0) (mC (.int 0))) (.nm 2))
 (aT (bV (sG (mB (aZ eK (aE 2) (mC (.str "keep")))) (mB (aZ eK (aE 2) (mC (.str "again"))))) (bI (cZ (aC (aE 2) (aC (aZ cV (aE 1) (mC (.int 0))) aL)))) bD)
 (aT (bV (mB (aZ eK (aE 2) (mC (.str "either")))) (bI (cZ (aC (aE 2) (aC (aZ cV (aE 1) (mC (.int 0))) (aC (aZ cV (aE 1) (mC (.int 1))) aL))))) bD)
 (aT (bV (mB (aZ eK (aE 2) (mC (.str "call")))) (bI (cZ (aC (aE 2) (aC (aZ cV (aE 0) (mC (.int 1))) (aC (aZ cV (aE 0) (mC (.int 2))) (aC (aE 1) aL)))))) bD)
 (bI (aE 0))))))
def jO : FD := run 3 2 jR
def eR (f_copied_block : FD) : FS :=
 (bI (aR jO (aC (aE 0) (aC (Dw false (jA (aR hY (aC (aE 0) aL))) (.nm 1) fJ (aR (f_copied_block) (aC (aE 1) aL)) [1]) aL))))
def iS (f_copied_statement : FD) : FS :=
 (bI (Dw false (jA (aE 0)) (.nm 1) fJ (aR (f_copied_statement) (aC (aE 1) aL)) [1]))
def hI : Nat -> FD × FD
 | 0 => (iG, iG)
 | n + 1 => let r := hI n
  (run 2 1 (eR r.2), run 2 1 (iS r.1))
def eM (n : Nat) : FD := (hI n).1
def cY (n : Nat) : FD := (hI n).2
def jS : FS :=
 (aT (bV (dH (aR gB (aC (aE 0) aL))) (bI (mC (.bl true))) bD)
 (aT (bV (sG (lP (dH (m1 (fIsi "tuple") (aE 0)))) (sG (mB (aZ Fd (m1 kD (aE 0)) (mC (.int 2)))) (lP (dH (m1 (fIsi "str") (aZ cV (aE 0) (mC (.int 0)))))))) (bI (mC (.bl false))) bD)
 (aT (bT (aZ cV (aE 0) (mC (.int 0))) (.nm 3))
 (aT (bV (mB (aZ eK (aE 3) (mC (.str "end")))) (bI (lJ (aZ eK (m1 kD (aE 0)) (mC (.int 2))) (aR sD (aC (aZ cV (aE 0) (mC (.int 1))) aL)))) bD)
 (aT (bV (mB (aZ eK (aE 1) (mC (.int 3)))) (bI (mC (.bl false))) bD)
 (aT (bV (sG (mB (aZ eK (aE 3) (mC (.str "keep")))) (mB (aZ eK (aE 3) (mC (.str "again"))))) (bI (lJ (aZ eK (m1 kD (aE 0)) (mC (.int 2))) (m1 (fIsi "list") (aZ cV (aE 0) (mC (.int 1)))))) bD)
 (aT (bV (mB (aZ eK (aE 3) (mC (.str "either")))) (bI (lJ (aZ eK (m1 kD (aE 0)) (mC (.int 3))) (lJ (m1 (fIsi "list") (aZ cV (aE 0) (mC (.int 1)))) (m1 (fIsi "list") (aZ cV (aE 0) (mC (.int 2))))))) bD)
 (aT (bV (sG (mB (aZ Ce (aE 3) (mC (.str "call")))) (mB (aZ Ce (m1 kD (aE 0)) (mC (.int 4))))) (bI (mC (.bl false))) bD)
 (aT (bV (sG (lP (dH (aR gA (aC (aZ cV (aE 0) (mC (.int 1))) aL)))) (lP (mB (oA Fe Fd (mC (.int 0)) (aZ cV (aE 0) (mC (.int 1))) (aE 2))))) (bI (mC (.bl false))) bD)
 (aT (bV (sG (lP (dH (m1 (fIsi "bool") (aZ cV (aE 0) (mC (.int 2)))))) (sG (lP (dH (m1 (fIsi "list") (aZ cV (aE 0) (mC (.int 3)))))) (mB (aZ Ce (m1 kD (aZ cV (aE 0) (mC (.int 3)))) (mC (.int 2)))))) (bI (mC (.bl false))) bD)
 (bI (lJ (m1 (fIsi "list") (aZ cV (aZ cV (aE 0) (mC (.int 3))) (mC (.int 0)))) (m1 (fIsi "list") (aZ cV (aZ cV (aE 0) (mC (.int 3))) (mC (.int 1))))))))))))))))
def gM : FD := run 4 3 jS
def dR (f_first_fault : FD) : FS :=
 (lU [8, 9, 10] (aT (bT (aR (f_first_fault) (aC (aE 9) (aC (aZ (dY false) (aE 1) (mC (.int 1))) (aC (aE 2) (aC (aZ (dY false) (aE 7) (cZ (aC (aE 8) aL))) (aC (aE 4) aL)))))) (.tp [10, 4]))
 (bV (mB (aZ (FC true) (aE 10) (mC .non))) (bI (cZ (aC (aE 10) (aC (aE 4) aL)))) bD)))
def gT (f_first_fault : FD) : FS :=
 (lU [5, 6, 7, 8, 9, 10] (aT (bT (aZ (dY false) (aE 3) (cZ (aC (aE 5) aL))) (.nm 7))
 (aT (bV (sG (mB (aZ eK (aE 5) (mC (.int 8)))) (sG (mB (aZ eK (aE 4) (mC (.int 12)))) (lP (dH (aR gM (aC (aE 6) (aC (aE 1) (aC (aE 2) aL)))))))) (bI (cZ (aC (aE 7) (aC (aE 4) aL)))) bD)
 (aT (G8 (fun x y => x + y) 4 (mC (.int 1)))
 (yU (Bt (aR hY (aC (aE 6) aL))) (.tp [8, 9]) (dR (f_first_fault)))))))
def jT (f_first_fault : FD) : FS :=
 (aT (yU (Bt (aE 0)) (.tp [5, 6]) (gT (f_first_fault)))
 (bI (cZ (aC (mC .non) (aC (aE 4) aL)))))
def bR : Nat -> FD
 | 0 => iG
 | n + 1 => run 11 5 (jT (bR n))
def cQ : FS :=
 (lU [2, 3, 4, 5] (aT (bV (lP (dH (m1 (fIsi "list") (aE 3)))) (lV "NoBook" ["path", "procedure"] (aC (aE 2) (aC (cZ aL) aL))) bD)
 (aT (bT (aR (bR 10) (aC (aE 3) (aC (mC (.int 0)) (aC (m1 kD (aE 1)) (aC (cZ aL) (aC (mC (.int 0)) aL)))))) (.tp [4, 5]))
 (bV (mB (aZ (FC true) (aE 4) (mC .non))) (lV "NoBook" ["path", "procedure"] (aC (aE 2) (aC (aE 4) aL))) bD))))
def mI : FS :=
 (aT (bV (sG (lP (dH (m1 (fIsi "list") (aE 1)))) (lP (mB (oA Fe Fe (mC (.int 1)) (m1 kD (aE 1)) (mC (.int 3)))))) (lV "NoBook" ["path", "procedure"] (aC (m1 yW (mC (.int 1))) (aC (cZ aL) aL))) bD)
 (aT (yU (Bt (aE 1)) (.tp [2, 3]) cQ)
 (Du "Book" "own" (aE 0) (Dw false (jA (aE 1)) (.nm 3) fJ (aR (cY 20) (aC (aE 3) aL)) [3]))))
def fQ : FD := run 6 2 mI
def oL : FS :=
 (bI (m1 kD (Cr "Book" "own" (aE 0))))
def lI : FD := run 1 1 oL
def jW : FS :=
 (bI (Dw false (jA (Cr "Book" "own" (aE 0))) (.nm 1) fJ (aR (cY 20) (aC (aE 1) aL)) [1]))
def gO : FD := run 2 1 jW
def sW : FS :=
 (bI (aZ (dY true) (cS false (aC (mC (.int 0)) aL)) (Ki (Dw false (jA (IR false (aE 0) yT (qV (mC (.int 63))))) (.nm 1) fJ (m1 xR (aE 1)) [1]) (cS false (aC (mC (.int 0)) aL)))))
def sF : FD := run 2 1 sW
def sY : FS :=
 (aT (iK (fun x y => x + y) (aE 0) (mC (.int 0)) (mC (.int 1)))
 (aT (bT (aZ (dY false) (mC (.int 1)) (aZ qS (m1 xR (aZ cV (aE 0) (mC (.int 0)))) (aZ rM (m1 kD (aE 0)) (mC (.int 1))))) (.nm 2))
 (aT (bT (m1 xR (aZ cV (aE 0) (aE 2))) (.nm 3))
 (aT (bV (mB (aZ fGe (aE 3) (aZ JU (mC (.int 10)) (mC (.int 18))))) (aT (Dt (aZ oS (aE 3) (aE 1)) (aE 0) (aE 2))
 (bI (aZ qS (aE 3) (aE 1)))) bD)
 (aT (bT (aZ qS (aZ DK (m1 xR (aZ (dY false) (aZ (dY false) (aE 3) (aZ DK (mC (.int 7919)) (aZ cV (aE 0) (mC (.int 0))))) (mC (.int 1)))) (mC (.int 48271))) (mC (.int 2147483647))) (.nm 4))
 (aT (bT (aZ qS (aZ DK (aE 4) (aZ (dY false) (aZ oS (aE 4) (mC (.int 1009))) (mC (.int 69621)))) (mC (.int 2147483647))) (.nm 4))
 (aT (bT (aZ qS (aZ DK (aE 4) (aZ (dY false) (aZ oS (aE 4) (mC (.int 2003))) (mC (.int 40692)))) (mC (.int 2147483399))) (.nm 4))
 (bI (aZ qS (aZ oS (aE 4) (mC (.int 11))) (aE 1))))))))))
def bK : FD := run 5 2 sY
def oJ : FS :=
 (aT (bV (mB (aZ eK (aZ cV (aE 0) (mC (.int 0))) (mC (.str "call")))) (bI (m1 (A8 false) (aZ cV (aE 0) (mC (.int 3))))) bD)
 (bI (Dw false (jA (IR false (aE 0) (qV (mC (.int 1))) yT)) (.nm 1) (dH (m1 (fIsi "list") (aE 1))) (aE 1) [1])))
def lH : FD := run 2 1 oJ
def sV : FS :=
 (aT (bV (mB (aZ eK (aZ cV (aE 0) (mC (.int 0))) (mC (.str "call")))) (bI (aZ (dY false) (IR false (aE 0) yT (qV (mC (.int 3)))) (cZ (aC (aE 1) aL)))) bD)
 (aT (bV (mB (aZ eK (m1 kD (aE 1)) (mC (.int 0)))) (bI (aE 0)) bD)
 (bI (aZ (dY false) (cZ (aC (aZ cV (aE 0) (mC (.int 0))) aL)) (m1 fTuple (aE 1))))))
def sE : FD := run 2 2 sV
def rN (f_L_copy : FD) : FE :=
 (aR sE (aC (aE 1) (aC (Dw false (jA (aR lH (aC (aE 1) aL))) (.nm 2) fJ (aR (f_L_copy) (aC (aE 2) aL)) [2]) aL)))
def sZ (f_L_copy : FD) : FS :=
 (bI (Dw false (jA (aE 0)) (.nm 1) fJ (rN (f_L_copy)) [1]))
def mZ : Nat -> FD
 | 0 => iG
 | n + 1 => run 3 1 (sZ (mZ n))
def oI : FS :=
 (bI (Dw false (jA (aE 0)) (.nm 1) fJ (aR (mZ 10) (aC (aE 1) aL)) [1]))
def jG : FD := run 2 1 oI
def hJ (f_L_same : FD) : FE :=
 (aR (f_L_same) (aC (aZ cV (aE 0) (aE 2)) (aC (aZ cV (aE 1) (aE 2)) aL)))
def nI (f_L_same : FD) : FS :=
 (aT (bV (dH (m1 (fIsi2 "list" "tuple") (aE 0))) (aT (bV (sG (mB (aZ Ce (m1 (fIsi "list") (aE 0)) (m1 (fIsi "list") (aE 1)))) (mB (aZ Ce (m1 (fIsi "tuple") (aE 0)) (m1 (fIsi "tuple") (aE 1))))) (bI (mC (.bl false))) bD)
 (bI (lJ (aZ eK (m1 kD (aE 0)) (m1 kD (aE 1))) (m1 uY (Dw false (wY (m1 kD (aE 0))) (.nm 2) fJ (hJ (f_L_same)) [2]))))) bD)
 (aT (bV (sG (dH (m1 (fIsi2 "list" "tuple") (aE 1))) (mB (aZ Ce (m1 (fIsi "bool") (aE 0)) (m1 (fIsi "bool") (aE 1))))) (bI (mC (.bl false))) bD)
 (bI (lJ (aZ eK (m1 (fIsi "int") (aE 0)) (m1 (fIsi "int") (aE 1))) (aZ eK (aE 0) (aE 1))))))
def fM : Nat -> FD
 | 0 => iG
 | n + 1 => run 3 2 (nI (fM n))
def mH : FS :=
 (aT (bT (cS false (aC (cS false (aC (mC (.int 0)) (aC (mC (.int 0)) (aC (mC (.int 0)) (aC (mC (.int 1)) (aC (mC (.int 1)) aL)))))) (aC (cS false (aC (mC (.int 0)) (aC (mC (.int 0)) (aC (mC (.int 2)) (aC (mC (.int 3)) (aC (mC (.int 1)) aL)))))) (aC (cS false (aC (mC (.int 0)) (aC (mC (.int 6)) (aC (mC (.int 7)) (aC (mC (.int 8)) (aC (mC (.int 8)) aL)))))) (aC (cS false (aC (mC (.int 0)) (aC (mC (.int 4)) (aC (mC (.int 5)) (aC (mC (.int 6)) (aC (mC (.int 7)) aL)))))) (aC (cS false (aC (mC (.int 0)) (aC (mC (.int 1)) (aC (mC (.int 3)) (aC (mC (.int 6)) (aC (mC (.int 8)) aL)))))) aL)))))) (.nm 2))
 (aT (bT (aZ (dY false) (aE 2) (cS false (aC (cS false (aC (mC (.int 0)) (aC (mC (.int 1)) (aC (mC (.int 2)) (aC (mC (.int 3)) (aC (mC (.int 4)) (aC (mC (.int 5)) (aC (mC (.int 6)) (aC (mC (.int 7)) (aC (mC (.int 8)) aL)))))))))) (aC (cS false (aC (mC (.int 1)) (aC (mC (.int 1)) (aC (mC (.int 2)) (aC (mC (.int 3)) (aC (mC (.int 4)) aL)))))) (aC (cS false (aC (mC (.int 5)) (aC (mC (.int 6)) (aC (mC (.int 7)) (aC (mC (.int 8)) (aC (mC (.int 8)) aL)))))) aL))))) (.nm 2))
 (aT (bT (aZ cV (aE 2) (aE 1)) (.nm 3))
 (aT (bT (aZ cV (aE 3) (aR bK (aC (aE 0) (aC (m1 kD (aE 3)) aL)))) (.nm 4))
 (aT (bV (mB (aZ eK (aE 4) (mC (.int 0)))) (aT (bT (aZ rM (aR bK (aC (aE 0) (aC (mC (.int 19)) aL))) (mC (.int 9))) (.nm 5))
 (bI (cZ (aC (mC (.str "go")) (aC (aZ cV (cS false (aC (aE 5) (aC (mC (.int 2)) (aC (aZ rM (aZ qS (m1 xR (aE 5)) (mC (.int 3))) (mC (.int 1))) (aC (mC (.int 1)) aL))))) (aR bK (aC (aE 0) (aC (mC (.int 4)) aL)))) aL))))) bD)
 (aT (bV (mB (aZ eK (aE 4) (mC (.int 1)))) (bI (cZ (aC (mC (.str "turn")) (aC (aZ (dY false) (mC (.int 1)) (aR bK (aC (aE 0) (aC (mC (.int 3)) aL)))) aL)))) bD)
 (aT (bV (mB (aZ eK (aE 4) (mC (.int 2)))) (bI (cZ (aC (mC (.str "mirror")) aL))) bD)
 (aT (bV (mB (aZ eK (aE 4) (mC (.int 3)))) (bI (cZ (aC (mC (.str "scale")) (aC (aZ cV (cZ (aC (m1 yW (mC (.int 1))) (aC (m1 yW (mC (.int 1))) (aC (m1 yW (mC (.int 1))) (aC (mC (.int 1)) (aC (mC (.int 1)) (aC (mC (.int 0)) (aC (mC (.int 2)) (aC (m1 yW (mC (.int 3))) aL))))))))) (aR bK (aC (aE 0) (aC (mC (.int 8)) aL)))) aL)))) bD)
 (aT (bV (mB (aZ Fd (aE 4) (mC (.int 6)))) (bI (cZ (aC (aZ cV (cZ (aC (mC (.str "aim")) (aC (mC (.str "place")) aL))) (aZ rM (aE 4) (mC (.int 4)))) (aC (aZ rM (aR bK (aC (aE 0) (aC (mC (.int 19)) aL))) (mC (.int 9))) (aC (aZ rM (aR bK (aC (aE 0) (aC (mC (.int 19)) aL))) (mC (.int 9))) aL))))) bD)
 (bI (cZ (aC (aZ cV (cZ (aC (mC (.str "mark")) (aC (mC (.str "return")) (aC (mC (.str "exchange")) aL)))) (aZ rM (aE 4) (mC (.int 6)))) aL))))))))))))
def fP : FD := run 6 2 mH
def sX : FS :=
 (aT (bT (aZ (dY false) (mC (.int 1)) (aR bK (aC (aE 0) (aC (mC (.int 3)) aL)))) (.nm 2))
 (aT (bT (aR bK (aC (aE 0) (aC (mC (.int 4)) aL))) (.nm 3))
 (aT (bV (mB (aZ eK (aE 1) (mC (.int 6)))) (bT (aZ (dY false) (mC (.int 1)) (aZ qS (aE 3) (mC (.int 2)))) (.nm 3)) bD)
 (aT (bV (mB (aZ eK (aE 1) (mC (.int 7)))) (bT (mC (.int 3)) (.nm 3)) bD)
 (aT (bT (cS false (aC (cS false (aC (cZ (aC (mC (.str "go")) (aC (aE 2) aL))) (aC (cZ (aC (mC (.str "go")) (aC (m1 yW (aE 2)) aL))) aL))) (aC (cS false (aC (cZ (aC (mC (.str "turn")) (aC (aE 2) aL))) (aC (cZ (aC (mC (.str "turn")) (aC (aZ rM (mC (.int 4)) (aE 2)) aL))) aL))) (aC (cS false (aC (cZ (aC (mC (.str "mirror")) aL)) (aC (cZ (aC (mC (.str "mirror")) aL)) aL))) aL)))) (.nm 4))
 (bI (aZ cV (aZ (dY false) (aE 4) (cS false (aC (cS false (aC (cZ (aC (mC (.str "exchange")) aL)) (aC (cZ (aC (mC (.str "exchange")) aL)) aL))) aL))) (aE 3))))))))
def mY : FD := run 5 2 sX
def hW (f_L_piece : FD) : FS :=
 (lU [7] (bV (mB (aZ FF (aZ cV (aE 3) (mC (.int 0))) (mC (.int 0)))) (bT (aZ (dY false) (aE 6) (aR (f_L_piece) (aC (aE 0) (aC (aE 1) (aC (aE 2) (aC (aE 3) (aC (aE 4) (aC (aE 5) aL)))))))) (.nm 6)) bD))
def qN (f_L_piece : FD) : FS :=
 (aT (bT (cS false aL) (.nm 6))
 (aT (yU (wY (aR bK (aC (aE 0) (aC (mC (.int 3)) aL)))) (.nm 7) (hW (f_L_piece)))
 (bI (aE 6))))
def qM (f_L_block : FD) (f_L_piece : FD) : FS :=
 (aT (bT (aR bK (aC (aE 0) (aC (mC (.int 17)) aL))) (.nm 6))
 (aT (bV (yV (mB (aZ FF (aE 6) (mC (.int 6)))) (yV (mB (aZ Fd (aE 6) (mC (.int 15)))) (mB (aZ FF (aE 2) (mC (.int 2)))))) (bT (aZ qS (aE 6) (mC (.int 6))) (.nm 6)) bD)
 (aT (bV (yV (mB (aZ eK (aE 6) (mC (.int 6)))) (mB (aZ Fd (aZ cV (aE 3) (mC (.int 0))) (mC (.int 2))))) (bT (mC (.int 0)) (.nm 6)) bD)
 (aT (bV (yV (mB (aZ FF (aE 6) (mC (.int 10)))) (yV (mB (aZ Fd (aE 6) (mC (.int 15)))) (sG (mB (aZ Fd (aZ cV (aE 4) (mC (.int 0))) (mC (.int 1)))) (mB (aZ fGe (aE 5) (aZ cV (aE 4) (mC (.int 1)))))))) (bT (mC (.int 0)) (.nm 6)) bD)
 (aT (iK (fun x y => x - y) (aE 3) (mC (.int 0)) (mC (.int 1)))
 (aT (bV (mB (aZ Fd (aE 6) (mC (.int 6)))) (bI (cS false (aC (aR fP (aC (aE 0) (aC (aE 1) aL))) aL))) bD)
 (aT (bV (mB (aZ eK (aE 6) (mC (.int 6)))) (aT (iK (fun x y => x - y) (aE 3) (mC (.int 0)) (mC (.int 1)))
 (aT (bT (aR mY (aC (aE 0) (aC (aE 1) aL))) (.nm 7))
 (aT (bT (cS false aL) (.nm 8))
 (aT (bV (mB (aZ FF (aZ cV (aE 3) (mC (.int 0))) (mC (.int 0)))) (bT (aR (f_L_piece) (aC (aE 0) (aC (aE 1) (aC (aE 2) (aC (aE 3) (aC (aE 4) (aC (aE 5) aL))))))) (.nm 8)) bD)
 (bI (aZ (dY false) (aZ (dY false) (IR false (aE 7) yT (qV (mC (.int 1)))) (aE 8)) (IR false (aE 7) (qV (mC (.int 1))) yT))))))) bD)
 (aT (bV (mB (aZ Fd (aE 6) (mC (.int 9)))) (aT (bT (aR (f_L_block) (aC (aE 0) (aC (aE 1) (aC (aZ (dY false) (aE 2) (mC (.int 1))) (aC (aE 3) (aC (aE 4) (aC (mC (.int 0)) aL))))))) (.nm 9))
 (bI (cS false (aC (cZ (aC (mC (.str "either")) (aC (aE 9) (aC (aR (f_L_block) (aC (aE 0) (aC (aE 1) (aC (aZ (dY false) (aE 2) (mC (.int 1))) (aC (aE 3) (aC (aE 4) (aC (aE 5) aL))))))) aL)))) aL)))) bD)
 (aT (bV (mB (aZ eK (aE 6) (mC (.int 9)))) (bI (cS false (aC (cZ (aC (mC (.str "again")) (aC (aR (f_L_block) (aC (aE 0) (aC (aE 1) (aC (aZ (dY false) (aE 2) (mC (.int 1))) (aC (aE 3) (aC (aE 4) (aC (mC (.int 0)) aL))))))) aL))) aL))) bD)
 (aT (bV (mB (aZ eK (aE 6) (mC (.int 10)))) (bI (cS false (aC (cZ (aC (mC (.str "keep")) (aC (aR (f_L_block) (aC (aE 0) (aC (aE 1) (aC (aZ (dY false) (aE 2) (mC (.int 1))) (aC (aE 3) (aC (aE 4) (aC (aE 5) aL))))))) aL))) aL))) bD)
 (aT (bV (mB (aZ FF (aE 6) (mC (.int 14)))) (bI (cS false (aC (cZ (aC (mC (.str "end")) (aC (aR bK (aC (aE 0) (aC (mC (.int 2)) aL))) aL))) aL))) bD)
 (aT (iK (fun x y => x - y) (aE 4) (mC (.int 0)) (mC (.int 1)))
 (aT (bT (aZ (dY false) (aE 5) (aR bK (aC (aE 0) (aC (aZ rM (aZ cV (aE 4) (mC (.int 1))) (aE 5)) aL)))) (.nm 10))
 (aT (bT (aZ eK (aR bK (aC (aE 0) (aC (mC (.int 3)) aL))) (mC (.int 0))) (.nm 11))
 (aT (bT (aR (f_L_block) (aC (aE 0) (aC (aE 1) (aC (aZ (dY false) (aE 2) (mC (.int 1))) (aC (aE 3) (aC (aE 4) (aC (aE 5) aL))))))) (.nm 9))
 (bI (cS false (aC (cZ (aC (mC (.str "call")) (aC (aE 10) (aC (aE 11) (aC (cS false (aC (aE 9) (aC (aR (f_L_block) (aC (aE 0) (aC (aE 1) (aC (aZ (dY false) (aE 2) (mC (.int 1))) (aC (aE 3) (aC (aE 4) (aC (aE 5) aL))))))) aL))) aL))))) aL))))))))))))))))))
def tX : Nat -> FD × FD
 | 0 => (iG, iG)
 | n + 1 => let r := tX n
  (run 8 6 (qN r.2), run 12 6 (qM r.1 r.2))
def qI (n : Nat) : FD := (tX n).1
def hZ (n : Nat) : FD := (tX n).2
def oK : FS :=
 (aT (iK (fun x y => x - y) (aE 2) (mC (.int 0)) (mC (.int 4)))
 (aT (iK (fun x y => x - y) (aE 3) (mC (.int 0)) (mC (.int 1)))
 (aT (bT (aR bK (aC (aE 0) (aC (aZ cV (aE 3) (mC (.int 1))) aL))) (.nm 4))
 (aT (bT (aZ eK (aR bK (aC (aE 0) (aC (mC (.int 3)) aL))) (mC (.int 0))) (.nm 5))
 (aT (bT (aR bK (aC (aE 0) (aC (mC (.int 2)) aL))) (.nm 6))
 (aT (bT (cS false (aC (aR fP (aC (aE 0) (aC (aE 1) aL))) (aC (aR fP (aC (aE 0) (aC (aE 1) aL))) aL))) (.nm 7))
 (aT (bV (mB (aZ eK (aR bK (aC (aE 0) (aC (mC (.int 2)) aL))) (mC (.int 0)))) (bT (aR mY (aC (aE 0) (aC (aE 1) aL))) (.nm 7)) bD)
 (aT (bT (cS false (aC (cS false aL) (aC (cS false (aC (aZ cV (aE 7) (mC (.int 0))) (aC (cZ (aC (mC (.str "call")) (aC (aE 4) (aC (aE 5) (aC (cS false (aC (cS false aL) (aC (cS false aL) aL))) aL))))) (aC (aZ cV (aE 7) (mC (.int 1))) aL)))) aL))) (.nm 8))
 (bI (cS false (aC (cZ (aC (mC (.str "either")) (aC (aZ cV (aE 8) (aE 6)) (aC (aZ cV (aE 8) (aZ rM (mC (.int 1)) (aE 6))) aL)))) aL)))))))))))
def nZ : FD := run 9 4 oK
def hG : FS :=
 (lU [7] (bV (mB (aZ FF (aZ cV (aE 2) (mC (.int 0))) (mC (.int 0)))) (bT (aZ (dY false) (aE 6) (aR (hZ 30) (aC (aE 0) (aC (aE 1) (aC (mC (.int 0)) (aC (aE 2) (aC (aE 3) (aC (aE 4) aL)))))))) (.nm 6)) bD))
def tD : FS :=
 (aT (bT (aR bK (aC (aE 0) (aC (mC (.int 6)) aL))) (.nm 5))
 (aT (bT (cS false aL) (.nm 6))
 (aT (bV (yV (mB (aZ eK (aR bK (aC (aE 0) (aC (mC (.int 2)) aL))) (mC (.int 0)))) (yV (mB (aZ FF (aZ cV (aE 2) (mC (.int 0))) (mC (.int 3)))) (mB (aZ FF (aZ cV (aE 3) (mC (.int 0))) (mC (.int 0)))))) (bT (aR nZ (aC (aE 0) (aC (aE 1) (aC (aE 2) (aC (aE 3) aL))))) (.nm 6)) bD)
 (aT (yU (wY (aZ (dY false) (mC (.int 1)) (aR bK (aC (aE 0) (aC (mC (.int 4)) aL))))) (.nm 7) hG)
 (aT (bT (cS false (aC (cS false (aC (cZ (aC (mC (.str "either")) (aC (cS false (aC (cZ (aC (mC (.str "end")) (aC (mC (.int 1)) aL))) aL)) (aC (cS false aL) aL)))) aL)) (aC (cS false (aC (cZ (aC (mC (.str "end")) (aC (mC (.int 1)) aL))) aL)) aL))) (.nm 8))
 (aT (bV (sG (mB (aZ eK (aE 5) (mC (.int 1)))) (mB (aZ eK (aE 5) (mC (.int 3))))) (bI (aZ (dY false) (aE 6) (aZ cV (aE 8) (aZ oS (aE 5) (mC (.int 2)))))) bD)
 (aT (bV (mB (aZ eK (aE 5) (mC (.int 2)))) (bI (aZ (dY false) (aZ cV (aE 8) (mC (.int 0))) (aE 6))) bD)
 (bI (aE 6)))))))))
def pO : FD := run 9 5 tD
def jF : FS :=
 (lU [8, 9, 10] (aT (bT (cS true (aC (aZ rM (aZ rM (aE 2) (mC (.int 2))) (m1 xR (aZ FF (aE 5) (mC (.int 2))))) aL)) (.nm 9))
 (aT (bT (aZ (dY false) (aE 8) (mC (.int 1))) (.nm 10))
 (aT (bV (dH (aE 4)) (bT (mC (.int 0)) (.nm 10)) bD)
 (wZ (Kn (aE 7) (aR pO (aC (aE 0) (aC (aE 3) (aC (aE 9) (aC (aE 6) (aC (aE 10) aL))))))))))))
def tA : FS :=
 (aT (bT (aR bK (aC (aE 0) (aC (mC (.int 6)) aL))) (.nm 3))
 (aT (bT (aZ eK (aR bK (aC (aE 0) (aC (mC (.int 8)) aL))) (mC (.int 0))) (.nm 4))
 (aT (bT (aZ (dY false) (mC (.int 1)) (aR bK (aC (aE 0) (aC (aE 1) aL)))) (.nm 5))
 (aT (bT (cS true (aC (mC (.int 4)) (aC (aE 5) aL))) (.nm 6))
 (aT (bT (cS true aL) (.nm 7))
 (aT (yU (wY (aE 5)) (.nm 8) jF)
 (bI (Kj (aE 7)))))))))
def pN : FD := Bn 11 3 tA
def qO : FS :=
 (bI (lJ (m1 (HI "Book") (aE 1)) (aZ eK (Cr "Book" "own" (aE 0)) (Cr "Book" "own" (aE 1)))))
def iA : FD := run 2 2 qO
def oG : FS :=
 (aT (bT (Br "Book" "bodies" gO (aE 0) aL) (.nm 2))
 (bI (lJ (aR (fM 20) (aC (aE 2) (aC (aE 1) aL))) (aZ eK (m1 (A9 "Book" lI) (aE 0)) (m1 kD (aE 1))))))
def fO : FD := run 3 2 oG
def oF : FS :=
 (aT (bV (mB (aZ eK (aZ cV (aE 0) (mC (.int 0))) (mC (.str "call")))) (bI (aZ pU (IR true (aE 0) yT (qV (mC (.int 3)))) (wX (aC (aE 1) aL)))) bD)
 (aT (bV (mB (aZ eK (m1 kB (aE 1)) (mC (.int 0)))) (bI (aE 0)) bD)
 (bI (aZ pU (wX (aC (aZ cV (aE 0) (mC (.int 0))) aL)) (m1 A7 (aE 1))))))
def nY : FD := run 2 2 oF
def kY (f_L_copy_w : FD) : FE :=
 (aR nY (aC (aE 1) (aC (Aq (jA (aR lH (aC (aE 1) aL))) (.nm 2) fJ (aR (f_L_copy_w) (aC (aE 2) aL)) [2]) aL)))
def oH (f_L_copy_w : FD) : FS :=
 (bI (Aq (jA (aE 0)) (.nm 1) fJ (kY (f_L_copy_w)) [1]))
def eB : Nat -> FD
 | 0 => iG
 | n + 1 => run 3 1 (oH (eB n))
def lA : FS :=
 (bI (Aq (jA (aE 0)) (.nm 1) fJ (aR (eB 10) (aC (aE 1) aL)) [1]))
def kT : FD := run 2 1 lA
def hC : FS :=
 (aT (bT (aZ kL (aE 0) (mC (.int 0))) (.nm 2))
 (aT (bV (sG (mB (aZ eK (aE 2) (mC (.str "keep")))) (mB (aZ eK (aE 2) (mC (.str "again"))))) (bI (cZ (aC (aE 2) (aC (aZ cV (aE 1) (mC (.int 0))) aL)))) bD)
 (aT (bV (mB (aZ eK (aE 2) (mC (.str "either")))) (bI (cZ (aC (aE 2) (aC (aZ cV (aE 1) (mC (.int 0))) (aC (aZ cV (aE 1) (mC (.int 1))) aL))))) bD)
 (aT (bV (mB (aZ eK (aE 2) (mC (.str "call")))) (bI (cZ (aC (aE 2) (aC (aZ kL (aE 0) (mC (.int 1))) (aC (aZ kL (aE 0) (mC (.int 2))) (aC (aE 1) aL)))))) bD)
 (bI (G7 (aE 0)))))))
def gX : FD := run 3 2 hC
def jU : FS :=
 (aT (bT (aZ kL (aE 0) (mC (.int 0))) (.nm 1))
 (aT (bV (sG (mB (aZ eK (aE 1) (mC (.str "keep")))) (mB (aZ eK (aE 1) (mC (.str "again"))))) (bI (zS (aC (aZ kL (aE 0) (mC (.int 1))) aL))) bD)
 (aT (bV (mB (aZ eK (aE 1) (mC (.str "either")))) (bI (zS (aC (aZ kL (aE 0) (mC (.int 1))) (aC (aZ kL (aE 0) (mC (.int 2))) aL)))) bD)
 (aT (bV (mB (aZ eK (aE 1) (mC (.str "call")))) (bI (aZ kL (aE 0) (mC (.int 3)))) bD)
 (bI (zS aL))))))
def jP : FD := run 2 1 jU
def eA (f_copied_block_v : FD) : FS :=
 (bI (aR gX (aC (aE 0) (aC (En false (aR jP (aC (aE 0) aL)) (.nm 1) fJ (aR (f_copied_block_v) (aC (aE 1) aL)) [1]) aL))))
def gI (f_copied_statement_v : FD) : FS :=
 (bI (En false (aE 0) (.nm 1) fJ (aR (f_copied_statement_v) (aC (aE 1) aL)) [1]))
def fT : Nat -> FD × FD
 | 0 => (iG, iG)
 | n + 1 => let r := fT n
  (Bn 2 1 (eA r.2), Bn 2 1 (gI r.1))
def cX (n : Nat) : FD := (fT n).1
def cD (n : Nat) : FD := (fT n).2
def gU : FS :=
 (lU [2, 3, 4, 5] (aT (bV (lP (dH (m1 (fIsi "list") (aE 3)))) (lV "NoBook" ["path", "procedure"] (aC (aE 2) (aC (cZ aL) aL))) bD)
 (aT (bT (Kg 8 (bR 10) (aC (aE 3) (aC (mC (.int 0)) (aC (m1 kB (aE 1)) (aC (cZ aL) (aC (mC (.int 0)) aL)))))) (.tp [4, 5]))
 (bV (mB (aZ (FC true) (aE 4) (mC .non))) (lV "NoBook" ["path", "procedure"] (aC (aE 2) (aC (aE 4) aL))) bD))))
def jV : FS :=
 (aT (bV (sG (lP (dH (m1 (fIsi "list") (aE 1)))) (lP (mB (oA Fe Fe (mC (.int 1)) (m1 kB (aE 1)) (mC (.int 3)))))) (lV "NoBook" ["path", "procedure"] (aC (m1 yW (mC (.int 1))) (aC (cZ aL) aL))) bD)
 (aT (Dx (aE 1) 2 3 gU)
 (Du "Book" "own" (aE 0) (En false (aE 1) (.nm 3) fJ (aR (cD 20) (aC (aE 3) aL)) [3]))))
def gN : FD := Bn 6 2 jV
def lB : FS :=
 (aT (bV (mB (aZ eK (aZ kL (aE 0) (mC (.int 0))) (mC (.str "call")))) (bI (m1 uA (aZ kL (aE 0) (mC (.int 3))))) bD)
 (bI (IS true (Ke (aE 0) (qV (mC (.int 1))) yT) (.nm 1) (dH (m1 (fIsi "list") (aE 1))) (aE 1) [1])))
def kU : FD := run 2 1 lB
def jM (f_L_lists_v : FD) : FS :=
 (lU [3] (bT (aZ AA (aE 1) (aR (f_L_lists_v) (aC (aE 3) aL))) (.nm 1)))
def jL (f_L_lists_v : FD) : FS :=
 (lU [2, 3] (Bs (aR kU (aC (aE 2) aL)) (.nm 3) (jM (f_L_lists_v))))
def mG (f_L_lists_v : FD) : FS :=
 (aT (bT (zS (aC (aE 0) aL)) (.nm 1))
 (aT (Bs (aE 0) (.nm 2) (jL (f_L_lists_v)))
 (bI (aE 1))))
def dF : Nat -> FD
 | 0 => iG
 | n + 1 => run 4 1 (mG (dF n))
def gZ : FS :=
 (aT (bT (aZ cV (aE 0) (mC (.int 0))) (.nm 2))
 (aT (bV (sG (mB (aZ eK (aE 2) (mC (.str "keep")))) (mB (aZ eK (aE 2) (mC (.str "again"))))) (bI (wX (aC (aE 2) (aC (aZ sM (aE 1) (mC (.int 0))) aL)))) bD)
 (aT (bV (mB (aZ eK (aE 2) (mC (.str "either")))) (bI (wX (aC (aE 2) (aC (aZ sM (aE 1) (mC (.int 0))) (aC (aZ sM (aE 1) (mC (.int 1))) aL))))) bD)
 (aT (bV (mB (aZ eK (aE 2) (mC (.str "call")))) (bI (wX (aC (aE 2) (aC (aZ cV (aE 0) (mC (.int 1))) (aC (aZ cV (aE 0) (mC (.int 2))) (aC (aE 1) aL)))))) bD)
 (bI (aE 0))))))
def gW : FD := run 3 2 gZ
def dZ (f_copied_block_w : FD) : FS :=
 (bI (aR gW (aC (aE 0) (aC (Aq (jA (aR hY (aC (aE 0) aL))) (.nm 1) fJ (aR (f_copied_block_w) (aC (aE 1) aL)) [1]) aL))))
def gH (f_copied_statement_w : FD) : FS :=
 (bI (Aq (jA (aE 0)) (.nm 1) fJ (aR (f_copied_statement_w) (aC (aE 1) aL)) [1]))
def fR : Nat -> FD × FD
 | 0 => (iG, iG)
 | n + 1 => let r := fR n
  (run 2 1 (dZ r.2), run 2 1 (gH r.1))
def cW (n : Nat) : FD := (fR n).1
def cC (n : Nat) : FD := (fR n).2
def hE : FS :=
 (bI (Aq (jA (Cr "Book" "own" (aE 0))) (.nm 1) fJ (aR (cC 20) (aC (aE 1) aL)) [1]))
def gY : FD := run 2 1 hE
def pJ : FS :=
 (aT (bT (aR (fM 20) (aC (aE 3) (aC (aE 4) aL))) (.nm 11))
 (aT (bV (sG (mB (aZ Ce (aZ (CL "Book" iA) (aE 6) (aE 7)) (aE 11))) (mB (aZ Ce (aZ (CL "Book" iA) (aE 7) (aE 6)) (aE 11)))) (bI (mC (.bl false))) bD)
 (bI (lJ (aZ (CL "Book" iA) (zR false "Book" fQ (aC (Br "Book" "bodies" gO (aE 6) aL) aL)) (aE 6)) (aZ (CL "Book" iA) (aE 6) (zR false "Book" fQ (aC (aR jG (aC (aE 3) aL)) aL)))))))
def pI : FS :=
 (aT (wZ (zT (aE 5) (cS true aL)))
 (aT (bT (Br "Book" "bodies" gY (aE 6) aL) (.nm 10))
 (aT (bT (aR (dF 10) (aC (aZ sM (aE 10) (aZ qS (aE 2) (m1 kB (aE 10)))) aL)) (.nm 8))
 (aT (bT (aZ sM (aE 8) (aZ qS (aE 2) (m1 kB (aE 8)))) (.nm 9))
 (aT (wZ (zT (aE 9) (cZ (aC (mC (.str "return")) aL))))
 (aT (wZ (zT (aE 10) (cS true aL)))
 (aT (bV (sG (lP (dH (aR fO (aC (aE 6) (aC (aE 3) aL))))) (lP (dH (aR fO (aC (aE 7) (aC (aE 4) aL)))))) (bI (mC (.bl false))) bD)
 pJ)))))))
def pH : FS :=
 (aT (bT (aR (dF 10) (aC (aZ sM (aE 5) (aZ qS (aE 2) (m1 kB (aE 5)))) aL)) (.nm 8))
 (aT (bT (aZ sM (aE 8) (aZ qS (aE 2) (m1 kB (aE 8)))) (.nm 9))
 (aT (wZ (zT (aE 9) (cZ (aC (mC (.str "mark")) aL))))
 (aT (bV (lP (dH (aR fO (aC (aE 6) (aC (aE 3) aL))))) (bI (mC (.bl false))) bD)
 pI))))
def lT : FS :=
 (aT (bT (aR kT (aC (aE 3) aL)) (.nm 5))
 (aT (bT (zR false "Book" gN (aC (aE 5) aL)) (.nm 6))
 (aT (bT (zR false "Book" fQ (aC (aR jG (aC (aE 4) aL)) aL)) (.nm 7))
 (aT (bV (sG (lP (dH (aR fO (aC (aE 6) (aC (aE 3) aL))))) (lP (dH (aR fO (aC (aE 7) (aC (aE 4) aL)))))) (bI (mC (.bl false))) bD)
 pH))))
def nH : FS :=
 (aT (bT (aR sF (aC (aE 0) aL)) (.nm 1))
 (aT (bT (aR bK (aC (aE 1) (aC (mC (.int 7)) aL))) (.nm 2))
 (aT (bT (aR pN (aC (aE 1) (aC (mC (.int 3)) (aC (mC (.int 7)) aL)))) (.nm 3))
 (aT (bT (aR pN (aC (aE 1) (aC (mC (.int 3)) (aC (mC (.int 7)) aL)))) (.nm 4))
 (aT (bV (mB (aZ eK (aR bK (aC (aE 1) (aC (mC (.int 4)) aL))) (mC (.int 0)))) (bT (aR jG (aC (aE 3) aL)) (.nm 4)) bD)
 lT)))))
def m_law_k08 : FD := Bn 12 1 nH
theorem DY {x0 x1 : Vl} {S : aK} : fO [x0, x1] S = bQ (oG [some x0, some x1, none] S) := (rfl)
theorem DX {x0 x1 : Vl} {S : aK} : nY [x0, x1] S = bQ (oF [some x0, some x1] S) := (rfl)
theorem DZ {n : Nat} {x0 : Vl} {S : aK} : eB (n + 1) [x0] S = bQ ((oH (eB n)) [some x0, none, none] S) := (rfl)
theorem BK {x0 : Vl} {S : aK} : kT [x0] S = bQ (lA [some x0, none] S) := (rfl)
theorem vC {x0 x1 : Vl} {S : aK} : gX [x0, x1] S = bQ (hC [some x0, some x1, none] S) := (rfl)
theorem yY {x0 : Vl} {S : aK} : jP [x0] S = bQ (jU [some x0, none] S) := (rfl)
theorem yZ {x0 x1 : Vl} {S : aK} : gN [x0, x1] S = trunc S.length (bQ (jV [some x0, some x1, none, none, none, none] S)) := (rfl)
theorem BL {x0 : Vl} {S : aK} : kU [x0] S = bQ (lB [some x0, none] S) := (rfl)
theorem Cc {n : Nat} {x0 : Vl} {S : aK} : dF (n + 1) [x0] S = bQ ((mG (dF n)) [some x0, none, none, none] S) := (rfl)
theorem vB {x0 x1 : Vl} {S : aK} : gW [x0, x1] S = bQ (gZ [some x0, some x1, none] S) := (rfl)
theorem vD {x0 : Vl} {S : aK} : gY [x0] S = bQ (hE [some x0, none] S) := (rfl)
theorem FW {x0 : Vl} {S : aK} : m_law_k08 [x0] S = trunc S.length (bQ (nH [some x0, none, none, none, none, none, none, none, none, none, none, none] S)) := (rfl)
end PH
namespace PHZ
open PH PySem PySem.Spec PyProof.Rows L2
theorem yL : FnScope ["value"] ["value"] (defScope nL) := ⟨rfl, rfl, rfl, by decide +kernel, rfl, by decide +kernel, by decide +kernel⟩
theorem EY : FnScope ["value"] ["value"] (defScope wC) := ⟨rfl, rfl, rfl, by decide +kernel, rfl, by decide +kernel, by decide +kernel⟩
theorem yM : FnScope ["value", "many", "low", "high", "number"] ["value"] (defScope kQ) := ⟨rfl, rfl, rfl, by decide +kernel, rfl, by decide +kernel, by decide +kernel⟩
theorem Ae : FnScope ["statement", "word"] ["statement"] (defScope pE) := ⟨rfl, rfl, rfl, by decide +kernel, rfl, by decide +kernel, by decide +kernel⟩
theorem vV : FnScope ["statement", "blocks", "word"] ["statement", "blocks"] (defScope mK) := ⟨rfl, rfl, rfl, by decide +kernel, rfl, by decide +kernel, by decide +kernel⟩
theorem oN : FnScope ["block", "statement"] ["block"] (defScope iH) := ⟨rfl, rfl, rfl, by decide +kernel, rfl, by decide +kernel, by decide +kernel⟩
theorem kN : FnScope ["statement", "block"] ["statement"] (defScope eL) := ⟨rfl, rfl, rfl, by decide +kernel, rfl, by decide +kernel, by decide +kernel⟩
theorem vW : FnScope ["value", "level", "many", "word"] ["value", "level", "many"] (defScope mL) := ⟨rfl, rfl, rfl, by decide +kernel, rfl, by decide +kernel, by decide +kernel⟩
theorem pD : FnScope ["block", "level", "many", "path", "met", "at", "statement", "here", "number", "inner", "fault"] ["block", "level", "many", "path", "met"] (defScope mM) := ⟨rfl, rfl, rfl, by decide +kernel, rfl, by decide +kernel, by decide +kernel⟩
theorem Ag : FnScope ["self", "bodies", "procedure", "body", "fault", "met"] ["self", "bodies"] (defScope hX) := ⟨rfl, rfl, rfl, by decide +kernel, rfl, by decide +kernel, by decide +kernel⟩
theorem Bj : FnScope ["self"] ["self"] (defScope lF) := ⟨rfl, rfl, rfl, by decide +kernel, rfl, by decide +kernel, by decide +kernel⟩
theorem Cn : FnScope ["self", "other"] ["self", "other"] (defScope mX) := ⟨rfl, rfl, rfl, by decide +kernel, rfl, by decide +kernel, by decide +kernel⟩
theorem wB : FnScope ["self", "body"] ["self"] (defScope eZ) := ⟨rfl, rfl, rfl, by decide +kernel, rfl, by decide +kernel, by decide +kernel⟩
theorem Ea : FnScope ["_law_script", "_law_cell"] ["_law_script"] (defScope rY) := ⟨rfl, rfl, rfl, by decide +kernel, rfl, by decide +kernel, by decide +kernel⟩
theorem Ec : FnScope ["_law_pool_here", "_law_many", "_law_at", "_law_cell", "_law_number"] ["_law_pool_here", "_law_many"] (defScope wH) := ⟨rfl, rfl, rfl, by decide +kernel, rfl, by decide +kernel, by decide +kernel⟩
theorem Af : FnScope ["_law_pool_here", "_law_mood", "_law_menus", "_law_menu", "_law_kind", "_law_far"] ["_law_pool_here", "_law_mood"] (defScope pG) := ⟨rfl, rfl, rfl, by decide +kernel, rfl, by decide +kernel, by decide +kernel⟩
theorem Eb : FnScope ["_law_pool_here", "_law_mood", "_law_k", "_law_kind", "_law_rows"] ["_law_pool_here", "_law_mood"] (defScope wG) := ⟨rfl, rfl, rfl, by decide +kernel, rfl, by decide +kernel, by decide +kernel⟩
theorem vY : FnScope ["_law_pool_here", "_law_mood", "_law_level", "_law_room", "_law_calls", "_law_low", "_law_kind", "_law_pair_here", "_law_inner", "_law_one", "_law_goal", "_law_saved"] ["_law_pool_here", "_law_mood", "_law_level", "_law_room", "_law_calls", "_law_low"] (defScope tO) := ⟨rfl, rfl, rfl, by decide +kernel, rfl, by decide +kernel, by decide +kernel⟩
theorem vZ : FnScope ["_law_pool_here", "_law_mood", "_law_level", "_law_room", "_law_calls", "_law_low", "_law_block_here", "_law_turn"] ["_law_pool_here", "_law_mood", "_law_level", "_law_room", "_law_calls", "_law_low"] (defScope tP) := ⟨rfl, rfl, rfl, by decide +kernel, rfl, by decide +kernel, by decide +kernel⟩
theorem Bi : FnScope ["_law_pool_here", "_law_mood", "_law_room", "_law_calls", "_law_goal", "_law_saved", "_law_at", "_law_pair_here", "_law_rows"] ["_law_pool_here", "_law_mood", "_law_room", "_law_calls"] (defScope rH) := ⟨rfl, rfl, rfl, by decide +kernel, rfl, by decide +kernel, by decide +kernel⟩
theorem Ee : FnScope ["_law_pool_here", "_law_mood", "_law_room", "_law_calls", "_law_low", "_law_ending", "_law_body_here", "_law_turn", "_law_rows"] ["_law_pool_here", "_law_mood", "_law_room", "_law_calls", "_law_low"] (defScope wJ) := ⟨rfl, rfl, rfl, by decide +kernel, rfl, by decide +kernel, by decide +kernel⟩
theorem Ed : FnScope ["_law_pool_here", "_law_most", "_law_size", "_law_mood", "_law_wild", "_law_many", "_law_calls", "_law_bodies", "_law_procedure", "_law_room", "_law_low"] ["_law_pool_here", "_law_most", "_law_size"] (defScope wI) := ⟨rfl, rfl, rfl, by decide +kernel, rfl, by decide +kernel, by decide +kernel⟩
theorem Bh : FnScope ["_law_statement", "_law_item"] ["_law_statement"] (defScope nO) := ⟨rfl, rfl, rfl, by decide +kernel, rfl, by decide +kernel, by decide +kernel⟩
theorem EZ : FnScope ["_law_statement", "_law_blocks_here"] ["_law_statement", "_law_blocks_here"] (defScope wF) := ⟨rfl, rfl, rfl, by decide +kernel, rfl, by decide +kernel, by decide +kernel⟩
theorem zH : FnScope ["_law_block_here", "_law_row", "_law_inner"] ["_law_block_here"] (defScope rZ) := ⟨rfl, rfl, rfl, by decide +kernel, rfl, by decide +kernel, by decide +kernel⟩
theorem Bg : FnScope ["_law_bodies", "_law_body_here"] ["_law_bodies"] (defScope nN) := ⟨rfl, rfl, rfl, by decide +kernel, rfl, by decide +kernel, by decide +kernel⟩
theorem zG : FnScope ["_law_one", "_law_other", "_law_k"] ["_law_one", "_law_other"] (defScope rX) := ⟨rfl, rfl, rfl, by decide +kernel, rfl, by decide +kernel, by decide +kernel⟩
theorem Bf : FnScope ["_law_book_here", "_law_bodies", "_law_told"] ["_law_book_here", "_law_bodies"] (defScope rG) := ⟨rfl, rfl, rfl, by decide +kernel, rfl, by decide +kernel, by decide +kernel⟩
theorem Be : FnScope ["_law_statement", "_law_blocks_here"] ["_law_statement", "_law_blocks_here"] (defScope rF) := ⟨rfl, rfl, rfl, by decide +kernel, rfl, by decide +kernel, by decide +kernel⟩
theorem uJ : FnScope ["_law_block_here", "_law_row", "_law_inner"] ["_law_block_here"] (defScope nM) := ⟨rfl, rfl, rfl, by decide +kernel, rfl, by decide +kernel, by decide +kernel⟩
theorem yN : FnScope ["_law_bodies", "_law_body_here"] ["_law_bodies"] (defScope kR) := ⟨rfl, rfl, rfl, by decide +kernel, rfl, by decide +kernel, by decide +kernel⟩
theorem tM : FnScope ["statement", "blocks", "word"] ["statement", "blocks"] (defScope kI) := ⟨rfl, rfl, rfl, by decide +kernel, rfl, by decide +kernel, by decide +kernel⟩
theorem vX : FnScope ["statement", "word"] ["statement"] (defScope mN) := ⟨rfl, rfl, rfl, by decide +kernel, rfl, by decide +kernel, by decide +kernel⟩
theorem iZ : FnScope ["statement", "block"] ["statement"] (defScope dX) := ⟨rfl, rfl, rfl, by decide +kernel, rfl, by decide +kernel, by decide +kernel⟩
theorem lS : FnScope ["block", "statement"] ["block"] (defScope fX) := ⟨rfl, rfl, rfl, by decide +kernel, rfl, by decide +kernel, by decide +kernel⟩
theorem wA : FnScope ["self", "bodies", "procedure", "body", "fault", "met"] ["self", "bodies"] (defScope eW) := ⟨rfl, rfl, rfl, by decide +kernel, rfl, by decide +kernel, by decide +kernel⟩
theorem yO : FnScope ["_law_statement", "_law_item"] ["_law_statement"] (defScope kS) := ⟨rfl, rfl, rfl, by decide +kernel, rfl, by decide +kernel, by decide +kernel⟩
theorem rW : FnScope ["_law_block_here", "_law_lists_here", "_law_statement", "_law_inner"] ["_law_block_here"] (defScope pF) := ⟨rfl, rfl, rfl, by decide +kernel, rfl, by decide +kernel, by decide +kernel⟩
theorem tL : FnScope ["statement", "blocks", "word"] ["statement", "blocks"] (defScope kH) := ⟨rfl, rfl, rfl, by decide +kernel, rfl, by decide +kernel, by decide +kernel⟩
theorem iY : FnScope ["statement", "block"] ["statement"] (defScope dW) := ⟨rfl, rfl, rfl, by decide +kernel, rfl, by decide +kernel, by decide +kernel⟩
theorem lR : FnScope ["block", "statement"] ["block"] (defScope fW) := ⟨rfl, rfl, rfl, by decide +kernel, rfl, by decide +kernel, by decide +kernel⟩
theorem tN : FnScope ["self", "body"] ["self"] (defScope dU) := ⟨rfl, rfl, rfl, by decide +kernel, rfl, by decide +kernel, by decide +kernel⟩
theorem sc_law_k08 : FnScope ["_law_script", "_law_pool_here", "_law_at", "_law_first", "_law_second", "_law_passed", "_law_book_here", "_law_other", "_law_lists_here", "_law_chosen", "_law_told", "_law_alike"] ["_law_script"] (defScope qF) := ⟨rfl, rfl, rfl, by decide +kernel, rfl, by decide +kernel, by decide +kernel⟩
theorem Cm : FnScope ["self", "procedure", "path"] ["self", "procedure", "path"] (defScope mV) := ⟨rfl, rfl, rfl, by decide +kernel, rfl, by decide +kernel, by decide +kernel⟩
structure Txt (w : World) (K : aB) (mg : Str -> Option Value) : Prop where
 n_isinstance : mg "isinstance" = none
 n_int : mg "int" = none
 n_bool : mg "bool" = none
 n_tuple : mg "tuple" = none
 n_len : mg "len" = none
 n_str : mg "str" = none
 lim : Lim K
 k_LIMITS : ∃ es n, KDict K w (He.ga K "LIMITS") es n
 g_LIMITS : mg "LIMITS" = some (.ref (He.ga K "LIMITS"))
 n_all : mg "all" = none
 i_DEEPEST : ∃ t, mg "DEEPEST" = some (.int 3 t)
 n_list : mg "list" = none
 n_enumerate : mg "enumerate" = none
 i_MOST_IN_LIST : ∃ t, mg "MOST_IN_LIST" = some (.int 8 t)
 i_MOST_IN_PROCEDURE : ∃ t, mg "MOST_IN_PROCEDURE" = some (.int 12 t)
 i_MOST_PROCEDURES : ∃ t, mg "MOST_PROCEDURES" = some (.int 3 t)
 xa_NoBook : XaF K mg "NoBook" ["procedure", "path"]
 fx_NoBook : Hh K "NoBook" "__init__" "NoBook.__init__" mV
 c_Book : Cls K (He.ga K "Book")
 a_Book_own : NoAttr K (He.ga K "Book") "own"
 I_Book : IsF K "Book"
 g_Book : mg "Book" = some (.ref (He.ga K "Book"))
 n_range : mg "range" = none
 T_Book : ClF K mg "Book"
 G_is_integer : mg "is_integer" = some (.ref (He.ga K "is_integer"))
 f_is_integer : mT K "is_integer" nL
 G_is_bit : mg "is_bit" = some (.ref (He.ga K "is_bit"))
 f_is_bit : mT K "is_bit" wC
 G_is_command : mg "is_command" = some (.ref (He.ga K "is_command"))
 f_is_command : mT K "is_command" kQ
 G_blocks_of : mg "blocks_of" = some (.ref (He.ga K "blocks_of"))
 f_blocks_of : mT K "blocks_of" pE
 G_with_blocks : mg "with_blocks" = some (.ref (He.ga K "with_blocks"))
 f_with_blocks : mT K "with_blocks" mK
 G_copied_block : mg "copied_block" = some (.ref (He.ga K "copied_block"))
 f_copied_block : mT K "copied_block" iH
 G_copied_statement : mg "copied_statement" = some (.ref (He.ga K "copied_statement"))
 f_copied_statement : mT K "copied_statement" eL
 G_well_formed : mg "well_formed" = some (.ref (He.ga K "well_formed"))
 f_well_formed : mT K "well_formed" mL
 G_first_fault : mg "first_fault" = some (.ref (He.ga K "first_fault"))
 f_first_fault : mT K "first_fault" mM
 M_Book_init : Meth K (He.ga K "Book") "__init__" (He.ma K (He.ga K "Book") "__init__")
 f_Book_init : Hh K "Book" "__init__" "Book.__init__" hX
 M_Book_len : Meth K (He.ga K "Book") "__len__" (He.ma K (He.ga K "Book") "__len__")
 f_Book_len : Hh K "Book" "__len__" "Book.__len__" lF
 M_Book_eq : Meth K (He.ga K "Book") "__eq__" (He.ma K (He.ga K "Book") "__eq__")
 f_Book_eq : Hh K "Book" "__eq__" "Book.__eq__" mX
 M_Book_bodies : Meth K (He.ga K "Book") "bodies" (He.ma K (He.ga K "Book") "bodies")
 f_Book_bodies : Hh K "Book" "bodies" "Book.bodies" eZ
 G_L_pool : mg "_law_pool" = some (.ref (He.ga K "_law_pool"))
 f_L_pool : mT K "_law_pool" rY
 G_L_draw : mg "_law_draw" = some (.ref (He.ga K "_law_draw"))
 f_L_draw : mT K "_law_draw" wH
 G_L_command : mg "_law_command" = some (.ref (He.ga K "_law_command"))
 f_L_command : mT K "_law_command" pG
 G_L_pair : mg "_law_pair" = some (.ref (He.ga K "_law_pair"))
 f_L_pair : mT K "_law_pair" wG
 G_L_piece : mg "_law_piece" = some (.ref (He.ga K "_law_piece"))
 f_L_piece : mT K "_law_piece" tO
 G_L_block : mg "_law_block" = some (.ref (He.ga K "_law_block"))
 f_L_block : mT K "_law_block" tP
 G_L_around : mg "_law_around" = some (.ref (He.ga K "_law_around"))
 f_L_around : mT K "_law_around" rH
 G_L_body : mg "_law_body" = some (.ref (He.ga K "_law_body"))
 f_L_body : mT K "_law_body" wJ
 G_L_book : mg "_law_book" = some (.ref (He.ga K "_law_book"))
 f_L_book : mT K "_law_book" wI
 G_L_blocks : mg "_law_blocks" = some (.ref (He.ga K "_law_blocks"))
 f_L_blocks : mT K "_law_blocks" nO
 G_L_with : mg "_law_with" = some (.ref (He.ga K "_law_with"))
 f_L_with : mT K "_law_with" wF
 G_L_copy : mg "_law_copy" = some (.ref (He.ga K "_law_copy"))
 f_L_copy : mT K "_law_copy" rZ
 G_L_copies : mg "_law_copies" = some (.ref (He.ga K "_law_copies"))
 f_L_copies : mT K "_law_copies" nN
 G_L_same : mg "_law_same" = some (.ref (He.ga K "_law_same"))
 f_L_same : mT K "_law_same" rX
 G_L_good_2 : mg "_law_good" = some (.ref (He.ga K "_law_good"))
 f_L_good_2 : mT K "_law_good" rG
 G_L_with_v : mg "_law_with" = some (.ref (He.ga K "_law_with"))
 f_L_with_v : mT K "_law_with" rF
 G_L_copy_w : mg "_law_copy" = some (.ref (He.ga K "_law_copy"))
 f_L_copy_w : mT K "_law_copy" nM
 G_L_copies_w : mg "_law_copies" = some (.ref (He.ga K "_law_copies"))
 f_L_copies_w : mT K "_law_copies" kR
 G_with_blocks_u : mg "with_blocks" = some (.ref (He.ga K "with_blocks"))
 f_with_blocks_u : mT K "with_blocks" kI
 G_blocks_of_v : mg "blocks_of" = some (.ref (He.ga K "blocks_of"))
 f_blocks_of_v : mT K "blocks_of" mN
 G_copied_statement_v : mg "copied_statement" = some (.ref (He.ga K "copied_statement"))
 f_copied_statement_v : mT K "copied_statement" dX
 G_copied_block_v : mg "copied_block" = some (.ref (He.ga K "copied_block"))
 f_copied_block_v : mT K "copied_block" fX
 M_Book_init_v : Meth K (He.ga K "Book") "__init__" (He.ma K (He.ga K "Book") "__init__")
 f_Book_init_v : Hh K "Book" "__init__" "Book.__init__" eW
 G_L_blocks_v : mg "_law_blocks" = some (.ref (He.ga K "_law_blocks"))
 f_L_blocks_v : mT K "_law_blocks" kS
 G_L_lists_v : mg "_law_lists" = some (.ref (He.ga K "_law_lists"))
 f_L_lists_v : mT K "_law_lists" pF
 G_with_blocks_v : mg "with_blocks" = some (.ref (He.ga K "with_blocks"))
 f_with_blocks_v : mT K "with_blocks" kH
 G_copied_statement_w : mg "copied_statement" = some (.ref (He.ga K "copied_statement"))
 f_copied_statement_w : mT K "copied_statement" dW
 G_copied_block_w : mg "copied_block" = some (.ref (He.ga K "copied_block"))
 f_copied_block_w : mT K "copied_block" fW
 M_Book_bodies_w : Meth K (He.ga K "Book") "bodies" (He.ma K (He.ga K "Book") "bodies")
 f_Book_bodies_w : Hh K "Book" "bodies" "Book.bodies" dU
 G_law_k08 : mg "law" = some (.ref (He.ga K "law"))
 f_law_k08 : mT K "law" qF
section
variable {P : Program} {w : World} {K : aB} {mg : Str -> Option Value} {base : Heap}
theorem xa_NoBook (T : Txt w K mg) : XcA P w K mg base 1 "NoBook" ["self", "procedure", "path"] (KI (He.ga K "NoBook") "procedure" "path") :=
 KY (m := "__init__") T.xa_NoBook T.fx_NoBook Cm Fi (fun _ _ _ _ _ _ us hl => match us, hl with | [_, _, _], _ => rfl) fun cdv A outer s H vs Q E hr hsp => by
  obtain ⟨a, y, z, e, ha, h⟩ := hsp;subst e;exact ⟨_, (pss_cons (ps_ost (cv 0) (cv 1)) (pss_one (ps_ost (cv 0) (cv 2)))), rd_X2 T.xa_NoBook (by simp) (by simp) ha (fun _ _ => rfl) h⟩
theorem mP (T : Txt w K mg) : lN P w K mg base 1 "is_integer" ["value"] (spF K gA) :=
 fH (k := 0) T.f_is_integer T.G_is_integer yL (Runs.plain (n := 1) (np := 1)) (fun _ _ _ _ _ _ us hl => match us, hl with | [_], _ => rfl) fun _ _ _ _ _ _ hr tk nd => by
  unfold kZ;exact (aI (aN (jI (eJ (T := "int") T.n_isinstance T.n_int (fv 0)) (pe_one (M0 (eJ (T := "bool") T.n_isinstance T.n_bool (fv 0)))))))
theorem Ei (T : Txt w K mg) : lN P w K mg base 2 "is_bit" ["value"] (spF K sD) :=
 fH (k := 1) T.f_is_bit T.G_is_bit EY (Runs.plain (n := 1) (np := 1)) (fun _ _ _ _ _ _ us hl => match us, hl with | [_], _ => rfl) fun _ _ _ _ _ _ hr tk nd => by
  unfold sU;exact (aI (aN (jI (aO (mP T) hr tk (aA (fv 0) aG)) (pe_one (EF nR Ak nR Ak fI (fv 0) fI)))))
theorem yQ (T : Txt w K mg) : lN P w K mg base 2 "is_command" ["value"] (spF K gB) :=
 fH (k := 1) T.f_is_command T.G_is_command yM (Runs.plain (n := 5) (np := 1)) (fun _ _ _ _ _ _ us hl => match us, hl with | [_], _ => rfl) fun _ _ _ _ _ _ hr tk nd => by
  unfold gG iQ;exact (aF (bF (PW.pt (eT (eI (dJ (eJ (T := "tuple") T.n_isinstance T.n_tuple (fv 0)))) (pw_or1 (aS (bB hr.units) s_eq (jC T.n_len (fv 0)) fI)))) (aI (aN fB)) aP)
  (aF (bF (PW.pt (eT (eI (dJ (eJ (T := "str") T.n_isinstance T.n_str (cE (fv 0) fI)))) (pw_or1 (F7 T.lim T.k_LIMITS T.g_LIMITS (cE (fv 0) fI))))) (aI (aN fB)) aP)
  (aF (B6 (t := (.tp [1, 2, 3])) (f_lim T.lim T.k_LIMITS T.g_LIMITS (cE (fv 0) fI)) (pg_tup rfl (pgs_cons (pg_name (i := 1) nd rfl (.inl rfl)) (pgs_cons (pg_name (i := 2) nd rfl (.inr rfl)) (pgs_cons (pg_name (i := 3) nd rfl (.inr rfl)) pgs_nil)))))
  (aF (bF (aS (nP hr.units) Ai (jC T.n_len (fv 0)) (cA bM dB (fv 1) fI)) (aI (aN fB)) aP)
  (aI (aN (K2 T.n_all (xO (own := [("number", 4)]) (t := (.nm 4)) rfl nd (gL (DJ (fv 0) (lX fI) lY)) (blkOk_by (own := [("number", 4)]) (N := ["value", "many", "low", "high", "number"]) (sc := defScope kQ) (by decide +kernel)) (fun _ _ _ _ _ => (pg_name (i := 4) nd rfl (.inl rfl))) (fun _ _ _ _ _ => dE) (fun _ _ _ _ _ => (jI (aO (mP T) hr takes0 (aA (fv 4) aG)) (pe_one (EF nR Ak nR Ak (fv 2) (fv 4) (fv 3)))))))))))))
theorem nS (T : Txt w K mg) : lN P w K mg base 1 "blocks_of" ["statement"] (spF K hY) :=
 fH (k := 0) T.f_blocks_of T.G_blocks_of Ae (Runs.plain (n := 2) (np := 1)) (fun _ _ _ _ _ _ us hl => match us, hl with | [_], _ => rfl) fun _ _ _ _ _ _ hr tk nd => by
  unfold mF;exact (aF (aX (i := 1) nd rfl (.inl rfl) (cE (fv 0) fI))
  (aF (bF (PW.pt (eT (aS (bB hr.units) s_eq (fv 1) fS) (pw_or1 (aS (bB hr.units) s_eq (fv 1) fS)))) (aI (aN (bX (aA (cE (fv 0) fI) aG)))) aP)
  (aF (bF (aS (bB hr.units) s_eq (fv 1) fS) (aI (aN (bX (aA (cE (fv 0) fI) (aA (cE (fv 0) fI) aG))))) aP)
  (aF (bF (aS (bB hr.units) s_eq (fv 1) fS) (aI (aN (cE (fv 0) fI))) aP)
  (aI (aN (bX aG)))))))
theorem wQ (T : Txt w K mg) : lN P w K mg base 1 "with_blocks" ["statement", "blocks"] (spF K jO) :=
 fH (k := 0) T.f_with_blocks T.G_with_blocks vV (Runs.plain (n := 3) (np := 2)) (fun _ _ _ _ _ _ us hl => match us, hl with | [_, _], _ => rfl) fun _ _ _ _ _ _ hr tk nd => by
  unfold jR;exact (aF (aX (i := 2) nd rfl (.inl rfl) (cE (fv 0) fI))
  (aF (bF (PW.pt (eT (aS (bB hr.units) s_eq (fv 2) fS) (pw_or1 (aS (bB hr.units) s_eq (fv 2) fS)))) (aI (aN (bZ (aA (fv 2) (aA (cE (fv 1) fI) aG))))) aP)
  (aF (bF (aS (bB hr.units) s_eq (fv 2) fS) (aI (aN (bZ (aA (fv 2) (aA (cE (fv 1) fI) (aA (cE (fv 1) fI) aG)))))) aP)
  (aF (bF (aS (bB hr.units) s_eq (fv 2) fS) (aI (aN (bZ (aA (fv 2) (aA (cE (fv 0) fI) (aA (cE (fv 0) fI) (aA (fv 1) aG))))))) aP)
  (aI (aN (fv 0)))))))
theorem jX (T : Txt w K mg) : ∀ n, (lN P w K mg base (1 + n + 1) "copied_statement" ["statement"] (spF K (eM n))) /\ (lN P w K mg base (1 + n + 1) "copied_block" ["block"] (spF K (cY n)))
 | 0 => ⟨fZ T.f_copied_statement T.G_copied_statement kN (fun _ _ _ _ _ _ us hl => match us, hl with | [_], _ => rfl), fZ T.f_copied_block T.G_copied_block oN (fun _ _ _ _ _ _ us hl => match us, hl with | [_], _ => rfl)⟩
 | n + 1 => by
  have ih := jX T n;have ih_copied_statement := ih.1;have ih_copied_block := ih.2;refine ⟨?_, ?_⟩
  ·exact fH (k := 1 + n + 1) T.f_copied_statement T.G_copied_statement kN (Runs.plain (n := 2) (np := 1)) (fun _ _ _ _ _ _ us hl => match us, hl with | [_], _ => rfl) fun _ _ _ _ _ _ hr tk nd => by
    unfold eR;exact (aI (aN (aO (wQ T) hr tk (aA (fv 0) (aA (xO (own := [("block", 1)]) (t := (.nm 1)) rfl nd (gL (aO (nS T) hr tk (aA (fv 0) aG) (by omega))) (blkOk_by (own := [("block", 1)]) (N := ["statement", "block"]) (sc := defScope eL) (by decide +kernel)) (fun _ _ _ _ _ => (pg_name (i := 1) nd rfl (.inl rfl))) (fun _ _ _ _ _ => dE) (fun _ _ _ _ _ => (aO ih_copied_block hr takes0 (aA (fv 1) aG) (by omega)))) aG)) (by omega))))
  ·exact fH (k := 1 + n + 1) T.f_copied_block T.G_copied_block oN (Runs.plain (n := 2) (np := 1)) (fun _ _ _ _ _ _ us hl => match us, hl with | [_], _ => rfl) fun _ _ _ _ _ _ hr tk nd => by
    unfold iS;exact (aI (aN (xO (own := [("statement", 1)]) (t := (.nm 1)) rfl nd (gL (fv 0)) (blkOk_by (own := [("statement", 1)]) (N := ["block", "statement"]) (sc := defScope iH) (by decide +kernel)) (fun _ _ _ _ _ => (pg_name (i := 1) nd rfl (.inl rfl))) (fun _ _ _ _ _ => dE) (fun _ _ _ _ _ => (aO ih_copied_statement hr takes0 (aA (fv 1) aG) (by omega))))))
theorem oP (T : Txt w K mg) (n : Nat) : lN P w K mg base (1 + n + 1) "copied_block" ["block"] (spF K (cY n)) := (jX T n).2
theorem wR (T : Txt w K mg) : lN P w K mg base 3 "well_formed" ["value", "level", "many"] (spF K gM) :=
 fH (k := 2) T.f_well_formed T.G_well_formed vW (Runs.plain (n := 4) (np := 3)) (fun _ _ _ _ _ _ us hl => match us, hl with | [_, _, _], _ => rfl) fun _ _ _ _ _ _ hr tk nd => by
  unfold jS;exact (aF (bF (dJ (aO (yQ T) hr tk (aA (fv 0) aG))) (aI (aN fB)) aP)
  (aF (bF (PW.pt (eT (eI (dJ (eJ (T := "tuple") T.n_isinstance T.n_tuple (fv 0)))) (eT (aS nQ Aj (jC T.n_len (fv 0)) fI) (pw_or1 (eI (dJ (eJ (T := "str") T.n_isinstance T.n_str (cE (fv 0) fI)))))))) (aI (aN fB)) aP)
  (aF (aX (i := 3) nd rfl (.inl rfl) (cE (fv 0) fI))
  (aF (bF (aS (bB hr.units) s_eq (fv 3) fS) (aI (aN (jI (kO (bB hr.units) s_eq (jC T.n_len (fv 0)) fI) (pe_one (aO (Ei T) hr tk (aA (cE (fv 0) fI) aG)))))) aP)
  (aF (bF (aS (bB hr.units) s_eq (fv 1) (xQ T.i_DEEPEST)) (aI (aN fB)) aP)
  (aF (bF (PW.pt (eT (aS (bB hr.units) s_eq (fv 3) fS) (pw_or1 (aS (bB hr.units) s_eq (fv 3) fS)))) (aI (aN (jI (kO (bB hr.units) s_eq (jC T.n_len (fv 0)) fI) (pe_one (eJ (T := "list") T.n_isinstance T.n_list (cE (fv 0) fI)))))) aP)
  (aF (bF (aS (bB hr.units) s_eq (fv 3) fS) (aI (aN (jI (kO (bB hr.units) s_eq (jC T.n_len (fv 0)) fI) (jI (eJ (T := "list") T.n_isinstance T.n_list (cE (fv 0) fI)) (pe_one (eJ (T := "list") T.n_isinstance T.n_list (cE (fv 0) fI))))))) aP)
  (aF (bF (PW.pt (eT (aS (nP hr.units) Ai (fv 3) fS) (pw_or1 (aS (nP hr.units) Ai (jC T.n_len (fv 0)) fI)))) (aI (aN fB)) aP)
  (aF (bF (PW.pt (eT (eI (dJ (aO (mP T) hr tk (aA (cE (fv 0) fI) aG)))) (pw_or1 (eI (xK nR Ak nQ Aj fI (cE (fv 0) fI) (fv 2)))))) (aI (aN fB)) aP)
  (aF (bF (PW.pt (eT (eI (dJ (eJ (T := "bool") T.n_isinstance T.n_bool (cE (fv 0) fI)))) (eT (eI (dJ (eJ (T := "list") T.n_isinstance T.n_list (cE (fv 0) fI)))) (pw_or1 (aS (nP hr.units) Ai (jC T.n_len (cE (fv 0) fI)) fI))))) (aI (aN fB)) aP)
  (aI (aN (jI (eJ (T := "list") T.n_isinstance T.n_list (cE (cE (fv 0) fI) fI)) (pe_one (eJ (T := "list") T.n_isinstance T.n_list (cE (cE (fv 0) fI) fI))))))))))))))))
theorem lG (T : Txt w K mg) : ∀ n, lN P w K mg base (3 + n + 1) "first_fault" ["block", "level", "many", "path", "met"] (spF K (bR n))
 | 0 => fZ T.f_first_fault T.G_first_fault pD (fun _ _ _ _ _ _ us hl => match us, hl with | [_, _, _, _, _], _ => rfl)
 | n + 1 => by
  have ih_first_fault := lG T n;exact fH (k := 3 + n + 1) T.f_first_fault T.G_first_fault pD (Runs.plain (n := 11) (np := 5)) (fun _ _ _ _ _ _ us hl => match us, hl with | [_, _, _, _, _], _ => rfl) fun _ _ _ _ _ _ hr tk nd => by
   unfold jT gT dR;exact (aF (tY (t := (.tp [5, 6])) (passes_of rfl) rfl (B7 (by rfl) T.n_enumerate (fv 0)) (pg_tup rfl (pgs_cons (pg_name (i := 5) nd rfl (.inl rfl)) (pgs_cons (pg_name (i := 6) nd rfl (.inl rfl)) pgs_nil))) (iP [5, 6, 7, 8, 9, 10] (aF (aX (i := 7) nd rfl (.inl rfl) (cA bM dB (fv 3) (bZ (aA (fv 5) aG))))
  (aF (bF (PW.pt (eT (aS (bB hr.units) s_eq (fv 5) (xQ T.i_MOST_IN_LIST)) (eT (aS (bB hr.units) s_eq (fv 4) (xQ T.i_MOST_IN_PROCEDURE)) (pw_or1 (eI (dJ (aO (wR T) hr tk (aA (fv 6) (aA (fv 1) (aA (fv 2) aG))) (by omega)))))))) (aI (aN (bZ (aA (fv 7) (aA (fv 4) aG))))) aP)
  (aF (F8 (k := 4) nd rfl (.inl rfl) fI)
  (aI (tY (t := (.tp [8, 9])) (passes_of rfl) rfl (B7 (by rfl) T.n_enumerate (aO (nS T) hr tk (aA (fv 6) aG) (by omega))) (pg_tup rfl (pgs_cons (pg_name (i := 8) nd rfl (.inl rfl)) (pgs_cons (pg_name (i := 9) nd rfl (.inl rfl)) pgs_nil))) (iP [8, 9, 10] (aF (B6 (t := (.tp [10, 4])) (aO ih_first_fault hr tk (aA (fv 9) (aA (cA bM dB (fv 1) fI) (aA (fv 2) (aA (cA bM dB (fv 7) (bZ (aA (fv 8) aG))) (aA (fv 4) aG))))) (by omega)) (pg_tup rfl (pgs_cons (pg_name (i := 10) nd rfl (.inl rfl)) (pgs_cons (pg_name (i := 4) nd rfl (.inl rfl)) pgs_nil))))
  (aI (bF (aS wO Co (fv 10) fN) (aI (aN (bZ (aA (fv 10) (aA (fv 4) aG))))) aP)))))))))))
  (aI (aN (bZ (aA fN (aA (fv 4) aG))))))
theorem nW (T : Txt w K mg) : OkMX P w K mg base 23 "Book" "__init__" ["self", "bodies"] (spF K fQ) :=
 zQ (k := 22) T.f_Book_init T.M_Book_init Ag (Runs.plain (n := 6) (np := 2)) (fun _ _ _ _ _ _ us hl => match us, hl with | [_, _], _ => rfl) fun _ _ _ _ _ _ hr tk nd => by
  unfold mI cQ;exact (aF (bF (PW.pt (eT (eI (dJ (eJ (T := "list") T.n_isinstance T.n_list (fv 1)))) (pw_or1 (eI (xK nR Ak nR Ak fI (jC T.n_len (fv 1)) (xQ T.i_MOST_PROCEDURES)))))) (aI (lE (xa_NoBook T) hr tk (aA (xN fI) (aA (bZ aG) aG)))) aP)
  (aF (tY (t := (.tp [2, 3])) (passes_of rfl) rfl (B7 (by rfl) T.n_enumerate (fv 1)) (pg_tup rfl (pgs_cons (pg_name (i := 2) nd rfl (.inl rfl)) (pgs_cons (pg_name (i := 3) nd rfl (.inl rfl)) pgs_nil))) (iP [2, 3, 4, 5] (aF (bF (eI (dJ (eJ (T := "list") T.n_isinstance T.n_list (fv 3)))) (aI (lE (xa_NoBook T) hr tk (aA (fv 2) (aA (bZ aG) aG)))) aP)
  (aF (B6 (t := (.tp [4, 5])) (aO (lG T 10) hr tk (aA (fv 3) (aA fI (aA (jC T.n_len (fv 1)) (aA (bZ aG) (aA fI aG)))))) (pg_tup rfl (pgs_cons (pg_name (i := 4) nd rfl (.inl rfl)) (pgs_cons (pg_name (i := 5) nd rfl (.inl rfl)) pgs_nil))))
  (aI (bF (aS wO Co (fv 4) fN) (aI (lE (xa_NoBook T) hr tk (aA (fv 2) (aA (fv 4) aG)))) aP))))))
  (aI (ED T.c_Book T.a_Book_own (fv 0) (xO (own := [("body", 3)]) (t := (.nm 3)) rfl nd (gL (fv 1)) (blkOk_by (own := [("body", 3)]) (N := ["self", "bodies", "procedure", "body", "fault", "met"]) (sc := defScope hX) (by decide +kernel)) (fun _ _ _ _ _ => (pg_name (i := 3) nd rfl (.inl rfl))) (fun _ _ _ _ _ => dE) (fun _ _ _ _ _ => (aO (oP T 20) hr takes0 (aA (fv 3) aG))))))))
theorem Bq (T : Txt w K mg) : OkMX P w K mg base 1 "Book" "__len__" ["self"] (spF K lI) :=
 zQ (k := 0) T.f_Book_len T.M_Book_len Bj (Runs.plain (n := 1) (np := 1)) (fun _ _ _ _ _ _ us hl => match us, hl with | [_], _ => rfl) fun _ _ _ _ _ _ hr tk nd => by
  unfold oL;exact (aI (aN (jC T.n_len (CK T.c_Book T.a_Book_own (fv 0)))))
theorem nX (T : Txt w K mg) : OkMX P w K mg base 1 "Book" "__eq__" ["self", "other"] (spF K iA) :=
 zQ (k := 0) T.f_Book_eq T.M_Book_eq Cn (Runs.plain (n := 2) (np := 2)) (fun _ _ _ _ _ _ us hl => match us, hl with | [_, _], _ => rfl) fun _ _ _ _ _ _ hr tk nd => by
  unfold qO;exact (aI (aN (jI (f_isC T.I_Book T.n_isinstance T.g_Book (fv 1)) (pe_one (kO (bB hr.units) s_eq (CK T.c_Book T.a_Book_own (fv 0)) (CK T.c_Book T.a_Book_own (fv 1)))))))
theorem pM (T : Txt w K mg) : OkMX P w K mg base 23 "Book" "bodies" ["self"] (spF K gO) :=
 zQ (k := 22) T.f_Book_bodies T.M_Book_bodies wB (Runs.plain (n := 2) (np := 1)) (fun _ _ _ _ _ _ us hl => match us, hl with | [_], _ => rfl) fun _ _ _ _ _ _ hr tk nd => by
  unfold jW;exact (aI (aN (xO (own := [("body", 1)]) (t := (.nm 1)) rfl nd (gL (CK T.c_Book T.a_Book_own (fv 0))) (blkOk_by (own := [("body", 1)]) (N := ["self", "body"]) (sc := defScope eZ) (by decide +kernel)) (fun _ _ _ _ _ => (pg_name (i := 1) nd rfl (.inl rfl))) (fun _ _ _ _ _ => dE) (fun _ _ _ _ _ => (aO (oP T 20) hr takes0 (aA (fv 1) aG))))))
theorem Ek (T : Txt w K mg) : lN P w K mg base 1 "_law_pool" ["_law_script"] (spF K sF) :=
 fH (k := 0) T.f_L_pool T.G_L_pool Ea (Runs.plain (n := 2) (np := 1)) (fun _ _ _ _ _ _ us hl => match us, hl with | [_], _ => rfl) fun _ _ _ _ _ _ hr tk nd => by
  unfold sW;exact (aI (aN (cA bM dB (bX (aA fI aG)) (Lz (xO (own := [("_law_cell", 1)]) (t := (.nm 1)) rfl nd (gL (DJ (fv 0) lY (lX fI))) (blkOk_by (own := [("_law_cell", 1)]) (N := ["_law_script", "_law_cell"]) (sc := defScope rY) (by decide +kernel)) (fun _ _ _ _ _ => (pg_name (i := 1) nd rfl (.inl rfl))) (fun _ _ _ _ _ => dE) (fun _ _ _ _ _ => (tZ T.n_int (fv 1)))) (pe_one (bX (aA fI aG)))))))
theorem bL (T : Txt w K mg) : lN P w K mg base 1 "_law_draw" ["_law_pool_here", "_law_many"] (spF K bK) :=
 fH (k := 0) T.f_L_draw T.G_L_draw Ec (Runs.plain (n := 5) (np := 2)) (fun _ _ _ _ _ _ us hl => match us, hl with | [_, _], _ => rfl) fun _ _ _ _ _ _ hr tk nd => by
  unfold sY;exact (aF (DI (fv 0) fI fI)
  (aF (aX (i := 2) nd rfl (.inl rfl) (cA bM dB fI (cA fY mW (tZ T.n_int (cE (fv 0) fI)) (cA gV oO (jC T.n_len (fv 0)) fI))))
  (aF (aX (i := 3) nd rfl (.inl rfl) (tZ T.n_int (cE (fv 0) (fv 2))))
  (aF (bF (aS G1 s_ge (fv 3) (cA IJ s_pow fI fI)) (aF (JP (cA pK wD (fv 3) (fv 1)) (fv 0) (fv 2))
  (aI (aN (cA fY mW (fv 3) (fv 1))))) aP)
  (aF (aX (i := 4) nd rfl (.inl rfl) (cA fY mW (cA vG Di (tZ T.n_int (cA bM dB (cA bM dB (fv 3) (cA vG Di fI (cE (fv 0) fI))) fI)) fI) fI))
  (aF (aX (i := 4) nd rfl (.inl rfl) (cA fY mW (cA vG Di (fv 4) (cA bM dB (cA pK wD (fv 4) fI) fI)) fI))
  (aF (aX (i := 4) nd rfl (.inl rfl) (cA fY mW (cA vG Di (fv 4) (cA bM dB (cA pK wD (fv 4) fI) fI)) fI))
  (aI (aN (cA fY mW (cA pK wD (fv 4) fI) (fv 1)))))))))))
theorem nV (T : Txt w K mg) : lN P w K mg base 2 "_law_command" ["_law_pool_here", "_law_mood"] (spF K fP) :=
 fH (k := 1) T.f_L_command T.G_L_command Af (Runs.plain (n := 6) (np := 2)) (fun _ _ _ _ _ _ us hl => match us, hl with | [_, _], _ => rfl) fun _ _ _ _ _ _ hr tk nd => by
  unfold mH;exact (aF (aX (i := 2) nd rfl (.inl rfl) (bX (aA (bX (aA fI (aA fI (aA fI (aA fI (aA fI aG)))))) (aA (bX (aA fI (aA fI (aA fI (aA fI (aA fI aG)))))) (aA (bX (aA fI (aA fI (aA fI (aA fI (aA fI aG)))))) (aA (bX (aA fI (aA fI (aA fI (aA fI (aA fI aG)))))) (aA (bX (aA fI (aA fI (aA fI (aA fI (aA fI aG)))))) aG)))))))
  (aF (aX (i := 2) nd rfl (.inl rfl) (cA bM dB (fv 2) (bX (aA (bX (aA fI (aA fI (aA fI (aA fI (aA fI (aA fI (aA fI (aA fI (aA fI aG)))))))))) (aA (bX (aA fI (aA fI (aA fI (aA fI (aA fI aG)))))) (aA (bX (aA fI (aA fI (aA fI (aA fI (aA fI aG)))))) aG))))))
  (aF (aX (i := 3) nd rfl (.inl rfl) (cE (fv 2) (fv 1)))
  (aF (aX (i := 4) nd rfl (.inl rfl) (cE (fv 3) (aO (bL T) hr tk (aA (fv 0) (aA (jC T.n_len (fv 3)) aG)))))
  (aF (bF (aS (bB hr.units) s_eq (fv 4) fI) (aF (aX (i := 5) nd rfl (.inl rfl) (cA gV oO (aO (bL T) hr tk (aA (fv 0) (aA fI aG))) fI))
  (aI (aN (bZ (aA fS (aA (cE (bX (aA (fv 5) (aA fI (aA (cA gV oO (cA fY mW (tZ T.n_int (fv 5)) fI) fI) (aA fI aG))))) (aO (bL T) hr tk (aA (fv 0) (aA fI aG)))) aG)))))) aP)
  (aF (bF (aS (bB hr.units) s_eq (fv 4) fI) (aI (aN (bZ (aA fS (aA (cA bM dB fI (aO (bL T) hr tk (aA (fv 0) (aA fI aG)))) aG))))) aP)
  (aF (bF (aS (bB hr.units) s_eq (fv 4) fI) (aI (aN (bZ (aA fS aG)))) aP)
  (aF (bF (aS (bB hr.units) s_eq (fv 4) fI) (aI (aN (bZ (aA fS (aA (cE (bZ (aA (xN fI) (aA (xN fI) (aA (xN fI) (aA fI (aA fI (aA fI (aA fI (aA (xN fI) aG))))))))) (aO (bL T) hr tk (aA (fv 0) (aA fI aG)))) aG))))) aP)
  (aF (bF (aS nQ Aj (fv 4) fI) (aI (aN (bZ (aA (cE (bZ (aA fS (aA fS aG))) (cA gV oO (fv 4) fI)) (aA (cA gV oO (aO (bL T) hr tk (aA (fv 0) (aA fI aG))) fI) (aA (cA gV oO (aO (bL T) hr tk (aA (fv 0) (aA fI aG))) fI) aG)))))) aP)
  (aI (aN (bZ (aA (cE (bZ (aA fS (aA fS (aA fS aG)))) (cA gV oO (fv 4) fI)) aG)))))))))))))
theorem zN (T : Txt w K mg) : lN P w K mg base 2 "_law_pair" ["_law_pool_here", "_law_mood"] (spF K mY) :=
 fH (k := 1) T.f_L_pair T.G_L_pair Eb (Runs.plain (n := 5) (np := 2)) (fun _ _ _ _ _ _ us hl => match us, hl with | [_, _], _ => rfl) fun _ _ _ _ _ _ hr tk nd => by
  unfold sX;exact (aF (aX (i := 2) nd rfl (.inl rfl) (cA bM dB fI (aO (bL T) hr tk (aA (fv 0) (aA fI aG)))))
  (aF (aX (i := 3) nd rfl (.inl rfl) (aO (bL T) hr tk (aA (fv 0) (aA fI aG))))
  (aF (bF (aS (bB hr.units) s_eq (fv 1) fI) (aI (aX (i := 3) nd rfl (.inl rfl) (cA bM dB fI (cA fY mW (fv 3) fI)))) aP)
  (aF (bF (aS (bB hr.units) s_eq (fv 1) fI) (aI (aX (i := 3) nd rfl (.inl rfl) fI)) aP)
  (aF (aX (i := 4) nd rfl (.inl rfl) (bX (aA (bX (aA (bZ (aA fS (aA (fv 2) aG))) (aA (bZ (aA fS (aA (xN (fv 2)) aG))) aG))) (aA (bX (aA (bZ (aA fS (aA (fv 2) aG))) (aA (bZ (aA fS (aA (cA gV oO fI (fv 2)) aG))) aG))) (aA (bX (aA (bZ (aA fS aG)) (aA (bZ (aA fS aG)) aG))) aG)))))
  (aI (aN (cE (cA bM dB (fv 4) (bX (aA (bX (aA (bZ (aA fS aG)) (aA (bZ (aA fS aG)) aG))) aG))) (fv 3)))))))))
theorem uL (T : Txt w K mg) : ∀ n, (lN P w K mg base (2 + n + 1) "_law_block" ["_law_pool_here", "_law_mood", "_law_level", "_law_room", "_law_calls", "_law_low"] (spF K (qI n))) /\ (lN P w K mg base (2 + n + 1) "_law_piece" ["_law_pool_here", "_law_mood", "_law_level", "_law_room", "_law_calls", "_law_low"] (spF K (hZ n)))
 | 0 => ⟨fZ T.f_L_block T.G_L_block vZ (fun _ _ _ _ _ _ us hl => match us, hl with | [_, _, _, _, _, _], _ => rfl), fZ T.f_L_piece T.G_L_piece vY (fun _ _ _ _ _ _ us hl => match us, hl with | [_, _, _, _, _, _], _ => rfl)⟩
 | n + 1 => by
  have ih := uL T n;have ih_L_block := ih.1;have ih_L_piece := ih.2;refine ⟨?_, ?_⟩
  ·exact fH (k := 2 + n + 1) T.f_L_block T.G_L_block vZ (Runs.plain (n := 8) (np := 6)) (fun _ _ _ _ _ _ us hl => match us, hl with | [_, _, _, _, _, _], _ => rfl) fun _ _ _ _ _ _ hr tk nd => by
    unfold qN hW;exact (aF (aX (i := 6) nd rfl (.inl rfl) (bX aG))
  (aF (tY (t := (.nm 7)) (passes_of rfl) rfl (vO (by rfl) T.n_range (aO (bL T) hr tk (aA (fv 0) (aA fI aG)) (by omega))) (pg_name (i := 7) nd rfl (.inl rfl)) (iP [7] (aI (bF (aS mO yP (cE (fv 3) fI) fI) (aI (aX (i := 6) nd rfl (.inl rfl) (cA bM dB (fv 6) (aO ih_L_piece hr tk (aA (fv 0) (aA (fv 1) (aA (fv 2) (aA (fv 3) (aA (fv 4) (aA (fv 5) aG)))))) (by omega))))) aP))))
  (aI (aN (fv 6)))))
  ·exact fH (k := 2 + n + 1) T.f_L_piece T.G_L_piece vY (Runs.plain (n := 12) (np := 6)) (fun _ _ _ _ _ _ us hl => match us, hl with | [_, _, _, _, _, _], _ => rfl) fun _ _ _ _ _ _ hr tk nd => by
    unfold qM;exact (aF (aX (i := 6) nd rfl (.inl rfl) (aO (bL T) hr tk (aA (fv 0) (aA fI aG)) (by omega)))
  (aF (bF (PW.pt (rK (aS mO yP (fv 6) fI) (rK (aS nQ Aj (fv 6) fI) (pw_and1 (aS mO yP (fv 2) fI))))) (aI (aX (i := 6) nd rfl (.inl rfl) (cA fY mW (fv 6) fI))) aP)
  (aF (bF (PW.pt (rK (aS (bB hr.units) s_eq (fv 6) fI) (pw_and1 (aS nQ Aj (cE (fv 3) fI) fI)))) (aI (aX (i := 6) nd rfl (.inl rfl) fI)) aP)
  (aF (bF (PW.pt (rK (aS mO yP (fv 6) fI) (rK (aS nQ Aj (fv 6) fI) (pw_and1 (PW.pt (eT (aS nQ Aj (cE (fv 4) fI) fI) (pw_or1 (aS G1 s_ge (fv 5) (cE (fv 4) fI))))))))) (aI (aX (i := 6) nd rfl (.inl rfl) fI)) aP)
  (aF (lL (fv 3) fI fI)
  (aF (bF (aS nQ Aj (fv 6) fI) (aI (aN (bX (aA (aO (nV T) hr tk (aA (fv 0) (aA (fv 1) aG)) (by omega)) aG)))) aP)
  (aF (bF (aS (bB hr.units) s_eq (fv 6) fI) (aF (lL (fv 3) fI fI)
  (aF (aX (i := 7) nd rfl (.inl rfl) (aO (zN T) hr tk (aA (fv 0) (aA (fv 1) aG)) (by omega)))
  (aF (aX (i := 8) nd rfl (.inl rfl) (bX aG))
  (aF (bF (aS mO yP (cE (fv 3) fI) fI) (aI (aX (i := 8) nd rfl (.inl rfl) (aO ih_L_piece hr tk (aA (fv 0) (aA (fv 1) (aA (fv 2) (aA (fv 3) (aA (fv 4) (aA (fv 5) aG)))))) (by omega)))) aP)
  (aI (aN (cA bM dB (cA bM dB (DJ (fv 7) lY (lX fI)) (fv 8)) (DJ (fv 7) (lX fI) lY)))))))) aP)
  (aF (bF (aS nQ Aj (fv 6) fI) (aF (aX (i := 9) nd rfl (.inl rfl) (aO ih_L_block hr tk (aA (fv 0) (aA (fv 1) (aA (cA bM dB (fv 2) fI) (aA (fv 3) (aA (fv 4) (aA fI aG)))))) (by omega)))
  (aI (aN (bX (aA (bZ (aA fS (aA (fv 9) (aA (aO ih_L_block hr tk (aA (fv 0) (aA (fv 1) (aA (cA bM dB (fv 2) fI) (aA (fv 3) (aA (fv 4) (aA (fv 5) aG)))))) (by omega)) aG)))) aG))))) aP)
  (aF (bF (aS (bB hr.units) s_eq (fv 6) fI) (aI (aN (bX (aA (bZ (aA fS (aA (aO ih_L_block hr tk (aA (fv 0) (aA (fv 1) (aA (cA bM dB (fv 2) fI) (aA (fv 3) (aA (fv 4) (aA fI aG)))))) (by omega)) aG))) aG)))) aP)
  (aF (bF (aS (bB hr.units) s_eq (fv 6) fI) (aI (aN (bX (aA (bZ (aA fS (aA (aO ih_L_block hr tk (aA (fv 0) (aA (fv 1) (aA (cA bM dB (fv 2) fI) (aA (fv 3) (aA (fv 4) (aA (fv 5) aG)))))) (by omega)) aG))) aG)))) aP)
  (aF (bF (aS mO yP (fv 6) fI) (aI (aN (bX (aA (bZ (aA fS (aA (aO (bL T) hr tk (aA (fv 0) (aA fI aG)) (by omega)) aG))) aG)))) aP)
  (aF (lL (fv 4) fI fI)
  (aF (aX (i := 10) nd rfl (.inl rfl) (cA bM dB (fv 5) (aO (bL T) hr tk (aA (fv 0) (aA (cA gV oO (cE (fv 4) fI) (fv 5)) aG)) (by omega))))
  (aF (aX (i := 11) nd rfl (.inl rfl) (kO (bB hr.units) s_eq (aO (bL T) hr tk (aA (fv 0) (aA fI aG)) (by omega)) fI))
  (aF (aX (i := 9) nd rfl (.inl rfl) (aO ih_L_block hr tk (aA (fv 0) (aA (fv 1) (aA (cA bM dB (fv 2) fI) (aA (fv 3) (aA (fv 4) (aA (fv 5) aG)))))) (by omega)))
  (aI (aN (bX (aA (bZ (aA fS (aA (fv 10) (aA (fv 11) (aA (bX (aA (fv 9) (aA (aO ih_L_block hr tk (aA (fv 0) (aA (fv 1) (aA (cA bM dB (fv 2) fI) (aA (fv 3) (aA (fv 4) (aA (fv 5) aG)))))) (by omega)) aG))) aG))))) aG)))))))))))))))))))
theorem Cq (T : Txt w K mg) (n : Nat) : lN P w K mg base (2 + n + 1) "_law_piece" ["_law_pool_here", "_law_mood", "_law_level", "_law_room", "_law_calls", "_law_low"] (spF K (hZ n)) := (uL T n).2
theorem Bp (T : Txt w K mg) : lN P w K mg base 3 "_law_around" ["_law_pool_here", "_law_mood", "_law_room", "_law_calls"] (spF K nZ) :=
 fH (k := 2) T.f_L_around T.G_L_around Bi (Runs.plain (n := 9) (np := 4)) (fun _ _ _ _ _ _ us hl => match us, hl with | [_, _, _, _], _ => rfl) fun _ _ _ _ _ _ hr tk nd => by
  unfold oK;exact (aF (lL (fv 2) fI fI)
  (aF (lL (fv 3) fI fI)
  (aF (aX (i := 4) nd rfl (.inl rfl) (aO (bL T) hr tk (aA (fv 0) (aA (cE (fv 3) fI) aG))))
  (aF (aX (i := 5) nd rfl (.inl rfl) (kO (bB hr.units) s_eq (aO (bL T) hr tk (aA (fv 0) (aA fI aG))) fI))
  (aF (aX (i := 6) nd rfl (.inl rfl) (aO (bL T) hr tk (aA (fv 0) (aA fI aG))))
  (aF (aX (i := 7) nd rfl (.inl rfl) (bX (aA (aO (nV T) hr tk (aA (fv 0) (aA (fv 1) aG))) (aA (aO (nV T) hr tk (aA (fv 0) (aA (fv 1) aG))) aG))))
  (aF (bF (aS (bB hr.units) s_eq (aO (bL T) hr tk (aA (fv 0) (aA fI aG))) fI) (aI (aX (i := 7) nd rfl (.inl rfl) (aO (zN T) hr tk (aA (fv 0) (aA (fv 1) aG))))) aP)
  (aF (aX (i := 8) nd rfl (.inl rfl) (bX (aA (bX aG) (aA (bX (aA (cE (fv 7) fI) (aA (bZ (aA fS (aA (fv 4) (aA (fv 5) (aA (bX (aA (bX aG) (aA (bX aG) aG))) aG))))) (aA (cE (fv 7) fI) aG)))) aG))))
  (aI (aN (bX (aA (bZ (aA fS (aA (cE (fv 8) (fv 6)) (aA (cE (fv 8) (cA gV oO fI (fv 6))) aG)))) aG))))))))))))
theorem El (T : Txt w K mg) : lN P w K mg base 34 "_law_body" ["_law_pool_here", "_law_mood", "_law_room", "_law_calls", "_law_low"] (spF K pO) :=
 fH (k := 33) T.f_L_body T.G_L_body Ee (Runs.plain (n := 9) (np := 5)) (fun _ _ _ _ _ _ us hl => match us, hl with | [_, _, _, _, _], _ => rfl) fun _ _ _ _ _ _ hr tk nd => by
  unfold tD hG;exact (aF (aX (i := 5) nd rfl (.inl rfl) (aO (bL T) hr tk (aA (fv 0) (aA fI aG))))
  (aF (aX (i := 6) nd rfl (.inl rfl) (bX aG))
  (aF (bF (PW.pt (rK (aS (bB hr.units) s_eq (aO (bL T) hr tk (aA (fv 0) (aA fI aG))) fI) (rK (aS mO yP (cE (fv 2) fI) fI) (pw_and1 (aS mO yP (cE (fv 3) fI) fI))))) (aI (aX (i := 6) nd rfl (.inl rfl) (aO (Bp T) hr tk (aA (fv 0) (aA (fv 1) (aA (fv 2) (aA (fv 3) aG))))))) aP)
  (aF (tY (t := (.nm 7)) (passes_of rfl) rfl (vO (by rfl) T.n_range (cA bM dB fI (aO (bL T) hr tk (aA (fv 0) (aA fI aG))))) (pg_name (i := 7) nd rfl (.inl rfl)) (iP [7] (aI (bF (aS mO yP (cE (fv 2) fI) fI) (aI (aX (i := 6) nd rfl (.inl rfl) (cA bM dB (fv 6) (aO (Cq T 30) hr tk (aA (fv 0) (aA (fv 1) (aA fI (aA (fv 2) (aA (fv 3) (aA (fv 4) aG)))))))))) aP))))
  (aF (aX (i := 8) nd rfl (.inl rfl) (bX (aA (bX (aA (bZ (aA fS (aA (bX (aA (bZ (aA fS (aA fI aG))) aG)) (aA (bX aG) aG)))) aG)) (aA (bX (aA (bZ (aA fS (aA fI aG))) aG)) aG))))
  (aF (bF (PW.pt (eT (aS (bB hr.units) s_eq (fv 5) fI) (pw_or1 (aS (bB hr.units) s_eq (fv 5) fI)))) (aI (aN (cA bM dB (fv 6) (cE (fv 8) (cA pK wD (fv 5) fI))))) aP)
  (aF (bF (aS (bB hr.units) s_eq (fv 5) fI) (aI (aN (cA bM dB (cE (fv 8) fI) (fv 6)))) aP)
  (aI (aN (fv 6))))))))))
theorem zP (T : Txt w K mg) : lN P w K mg base 35 "_law_book" ["_law_pool_here", "_law_most", "_law_size"] (spF K pN) :=
 fH (k := 34) T.f_L_book T.G_L_book Ed (Runs.cut (n := 11) (np := 3)) (fun _ _ _ _ _ _ us hl => match us, hl with | [_, _, _], _ => rfl) fun _ _ _ _ _ _ hr tk nd => by
  unfold tA jF;exact (aF (aX (i := 3) nd rfl (.inl rfl) (aO (bL T) hr tk (aA (fv 0) (aA fI aG))))
  (aF (aX (i := 4) nd rfl (.inl rfl) (kO (bB hr.units) s_eq (aO (bL T) hr tk (aA (fv 0) (aA fI aG))) fI))
  (aF (aX (i := 5) nd rfl (.inl rfl) (cA bM dB fI (aO (bL T) hr tk (aA (fv 0) (aA (fv 1) aG)))))
  (aF (aX (i := 6) nd rfl (.inl rfl) (bX (aA fI (aA (fv 5) aG))))
  (aF (aX (i := 7) nd rfl (.inl rfl) (bX aG))
  (aF (tY (t := (.nm 8)) (passes_of rfl) rfl (vO (by rfl) T.n_range (fv 5)) (pg_name (i := 8) nd rfl (.inl rfl)) (iP [8, 9, 10] (aF (aX (i := 9) nd rfl (.inl rfl) (bX (aA (cA gV oO (cA gV oO (fv 2) fI) (tZ T.n_int (kO mO yP (fv 5) fI))) aG)))
  (aF (aX (i := 10) nd rfl (.inl rfl) (cA bM dB (fv 8) fI))
  (aF (bF (dJ (fv 4)) (aI (aX (i := 10) nd rfl (.inl rfl) fI)) aP)
  (aI (sL (f_app (fv 7) (aO (El T) hr tk (aA (fv 0) (aA (fv 3) (aA (fv 9) (aA (fv 6) (aA (fv 10) aG))))))))))))))
  (aI (aN (f_frz (fv 7))))))))))
theorem uN (T : Txt w K mg) : lN P w K mg base 1 "_law_blocks" ["_law_statement"] (spF K lH) :=
 fH (k := 0) T.f_L_blocks T.G_L_blocks Bh (Runs.plain (n := 2) (np := 1)) (fun _ _ _ _ _ _ us hl => match us, hl with | [_], _ => rfl) fun _ _ _ _ _ _ hr tk nd => by
  unfold oJ;exact (aF (bF (aS (bB hr.units) s_eq (cE (fv 0) fI) fS) (aI (aN (M4 T.n_list (cE (fv 0) fI)))) aP)
  (aI (aN (xO (own := [("_law_item", 1)]) (t := (.nm 1)) rfl nd (gL (DJ (fv 0) (lX fI) lY)) (blkOk_by (own := [("_law_item", 1)]) (N := ["_law_statement", "_law_item"]) (sc := defScope nO) (by decide +kernel)) (fun _ _ _ _ _ => (pg_name (i := 1) nd rfl (.inl rfl))) (fun _ _ _ _ _ => (EC (dJ (eJ (T := "list") T.n_isinstance T.n_list (fv 1))))) (fun _ _ _ _ _ => (fv 1))))))
theorem Ej (T : Txt w K mg) : lN P w K mg base 1 "_law_with" ["_law_statement", "_law_blocks_here"] (spF K sE) :=
 fH (k := 0) T.f_L_with T.G_L_with EZ (Runs.plain (n := 2) (np := 2)) (fun _ _ _ _ _ _ us hl => match us, hl with | [_, _], _ => rfl) fun _ _ _ _ _ _ hr tk nd => by
  unfold sV;exact (aF (bF (aS (bB hr.units) s_eq (cE (fv 0) fI) fS) (aI (aN (cA bM dB (DJ (fv 0) lY (lX fI)) (bZ (aA (fv 1) aG))))) aP)
  (aF (bF (aS (bB hr.units) s_eq (jC T.n_len (fv 1)) fI) (aI (aN (fv 0))) aP)
  (aI (aN (cA bM dB (bZ (aA (cE (fv 0) fI) aG)) (JS T.n_tuple (fv 1)))))))
theorem zO (T : Txt w K mg) : ∀ n, lN P w K mg base (1 + n + 1) "_law_copy" ["_law_block_here"] (spF K (mZ n))
 | 0 => fZ T.f_L_copy T.G_L_copy zH (fun _ _ _ _ _ _ us hl => match us, hl with | [_], _ => rfl)
 | n + 1 => by
  have ih_L_copy := zO T n;exact fH (k := 1 + n + 1) T.f_L_copy T.G_L_copy zH (Runs.plain (n := 3) (np := 1)) (fun _ _ _ _ _ _ us hl => match us, hl with | [_], _ => rfl) fun _ _ _ _ _ _ hr tk nd => by
   unfold sZ rN;exact (aI (aN (xO (own := [("_law_row", 1)]) (t := (.nm 1)) rfl nd (gL (fv 0)) (blkOk_by (own := [("_law_row", 1)]) (N := ["_law_block_here", "_law_row", "_law_inner"]) (sc := defScope rZ) (by decide +kernel)) (fun _ _ _ _ _ => (pg_name (i := 1) nd rfl (.inl rfl))) (fun _ _ _ _ _ => dE) (fun _ _ _ _ _ => (aO (Ej T) hr takes0 (aA (fv 1) (aA (xO (own := [("_law_inner", 2)]) (t := (.nm 2)) rfl nd (gL (aO (uN T) hr takes0 (aA (fv 1) aG) (by omega))) (blkOk_by (own := [("_law_inner", 2)]) (N := ["_law_block_here", "_law_row", "_law_inner"]) (by kernel_rfl)) (fun _ _ _ _ _ => (pg_name (i := 2) nd rfl (.inl rfl))) (fun _ _ _ _ _ => dE) (fun _ _ _ _ _ => (aO ih_L_copy hr takes0 (aA (fv 2) aG) (by omega)))) aG)) (by omega))))))
theorem pL (T : Txt w K mg) : lN P w K mg base 13 "_law_copies" ["_law_bodies"] (spF K jG) :=
 fH (k := 12) T.f_L_copies T.G_L_copies Bg (Runs.plain (n := 2) (np := 1)) (fun _ _ _ _ _ _ us hl => match us, hl with | [_], _ => rfl) fun _ _ _ _ _ _ hr tk nd => by
  unfold oI;exact (aI (aN (xO (own := [("_law_body_here", 1)]) (t := (.nm 1)) rfl nd (gL (fv 0)) (blkOk_by (own := [("_law_body_here", 1)]) (N := ["_law_bodies", "_law_body_here"]) (sc := defScope nN) (by decide +kernel)) (fun _ _ _ _ _ => (pg_name (i := 1) nd rfl (.inl rfl))) (fun _ _ _ _ _ => dE) (fun _ _ _ _ _ => (aO (zO T 10) hr takes0 (aA (fv 1) aG))))))
theorem tS (T : Txt w K mg) : ∀ n, lN P w K mg base (0 + n + 1) "_law_same" ["_law_one", "_law_other"] (spF K (fM n))
 | 0 => fZ T.f_L_same T.G_L_same zG (fun _ _ _ _ _ _ us hl => match us, hl with | [_, _], _ => rfl)
 | n + 1 => by
  have ih_L_same := tS T n;exact fH (k := 0 + n + 1) T.f_L_same T.G_L_same zG (Runs.plain (n := 3) (np := 2)) (fun _ _ _ _ _ _ us hl => match us, hl with | [_, _], _ => rfl) fun _ _ _ _ _ _ hr tk nd => by
   unfold nI hJ;exact (aF (bF (dJ (HH (T := "list") (U := "tuple") T.n_isinstance T.n_list T.n_tuple (fv 0))) (aF (bF (PW.pt (eT (aS (nP hr.units) Ai (eJ (T := "list") T.n_isinstance T.n_list (fv 0)) (eJ (T := "list") T.n_isinstance T.n_list (fv 1))) (pw_or1 (aS (nP hr.units) Ai (eJ (T := "tuple") T.n_isinstance T.n_tuple (fv 0)) (eJ (T := "tuple") T.n_isinstance T.n_tuple (fv 1)))))) (aI (aN fB)) aP)
  (aI (aN (jI (kO (bB hr.units) s_eq (jC T.n_len (fv 0)) (jC T.n_len (fv 1))) (pe_one (K2 T.n_all (xO (own := [("_law_k", 2)]) (t := (.nm 2)) rfl nd (vO (by rfl) T.n_range (jC T.n_len (fv 0))) (blkOk_by (own := [("_law_k", 2)]) (N := ["_law_one", "_law_other", "_law_k"]) (sc := defScope rX) (by decide +kernel)) (fun _ _ _ _ _ => (pg_name (i := 2) nd rfl (.inl rfl))) (fun _ _ _ _ _ => dE) (fun _ _ _ _ _ => (aO ih_L_same hr takes0 (aA (cE (fv 0) (fv 2)) (aA (cE (fv 1) (fv 2)) aG)) (by omega)))))))))) aP)
  (aF (bF (PW.pt (eT (dJ (HH (T := "list") (U := "tuple") T.n_isinstance T.n_list T.n_tuple (fv 1))) (pw_or1 (aS (nP hr.units) Ai (eJ (T := "bool") T.n_isinstance T.n_bool (fv 0)) (eJ (T := "bool") T.n_isinstance T.n_bool (fv 1)))))) (aI (aN fB)) aP)
  (aI (aN (jI (kO (bB hr.units) s_eq (eJ (T := "int") T.n_isinstance T.n_int (fv 0)) (eJ (T := "int") T.n_isinstance T.n_int (fv 1))) (pe_one (kO (bB hr.units) s_eq (fv 0) (fv 1))))))))
theorem jY (T : Txt w K mg) : lN P w K mg base 24 "_law_good" ["_law_book_here", "_law_bodies"] (spF K fO) :=
 fH (k := 23) T.f_L_good_2 T.G_L_good_2 Bf (Runs.plain (n := 3) (np := 2)) (fun _ _ _ _ _ _ us hl => match us, hl with | [_, _], _ => rfl) fun _ _ _ _ _ _ hr tk nd => by
  unfold oG;exact (aF (aX (i := 2) nd rfl (.inl rfl) (B9 (pM T) hr tk T.c_Book (fv 0)))
  (aI (aN (jI (aO (tS T 20) hr tk (aA (fv 2) (aA (fv 1) aG))) (pe_one (kO (bB hr.units) s_eq (M5 T.n_len (Bq T) hr (fv 0)) (jC T.n_len (fv 1))))))))
theorem Bo (T : Txt w K mg) : lN P w K mg base 1 "_law_with" ["_law_statement", "_law_blocks_here"] (spF K nY) :=
 fH (k := 0) T.f_L_with_v T.G_L_with_v Be (Runs.plain (n := 2) (np := 2)) (fun _ _ _ _ _ _ us hl => match us, hl with | [_, _], _ => rfl) fun _ _ _ _ _ _ hr tk nd => by
  unfold oF;exact (aF (bF (aS (bB hr.units) s_eq (cE (fv 0) fI) fS) (aI (aN (cA bM Dk (DJ (fv 0) lY (lX fI)) (xM (aA (fv 1) aG))))) aP)
  (aF (bF (aS (bB hr.units) s_eq (rL T.n_len (fv 1)) fI) (aI (aN (fv 0))) aP)
  (aI (aN (cA bM Dk (xM (aA (cE (fv 0) fI) aG)) (M3 T.n_tuple (fv 1)))))))
theorem uM (T : Txt w K mg) : ∀ n, lN P w K mg base (1 + n + 1) "_law_copy" ["_law_block_here"] (spF K (eB n))
 | 0 => fZ T.f_L_copy_w T.G_L_copy_w uJ (fun _ _ _ _ _ _ us hl => match us, hl with | [_], _ => rfl)
 | n + 1 => by
  have ih_L_copy_w := uM T n;exact fH (k := 1 + n + 1) T.f_L_copy_w T.G_L_copy_w uJ (Runs.plain (n := 3) (np := 1)) (fun _ _ _ _ _ _ us hl => match us, hl with | [_], _ => rfl) fun _ _ _ _ _ _ hr tk nd => by
   unfold oH kY;exact (aI (aN (A6 (own := [("_law_row", 1)]) (t := (.nm 1)) rfl nd (gL (fv 0)) (blkOk_by (own := [("_law_row", 1)]) (N := ["_law_block_here", "_law_row", "_law_inner"]) (sc := defScope nM) (by decide +kernel)) (fun _ _ _ _ _ => (pg_name (i := 1) nd rfl (.inl rfl))) (fun _ _ _ _ _ => dE) (fun _ _ _ _ _ => (aO (Bo T) hr takes0 (aA (fv 1) (aA (A6 (own := [("_law_inner", 2)]) (t := (.nm 2)) rfl nd (gL (aO (uN T) hr takes0 (aA (fv 1) aG) (by omega))) (blkOk_by (own := [("_law_inner", 2)]) (N := ["_law_block_here", "_law_row", "_law_inner"]) (by kernel_rfl)) (fun _ _ _ _ _ => (pg_name (i := 2) nd rfl (.inl rfl))) (fun _ _ _ _ _ => dE) (fun _ _ _ _ _ => (aO ih_L_copy_w hr takes0 (aA (fv 2) aG) (by omega)))) aG)) (by omega))))))
theorem yR (T : Txt w K mg) : lN P w K mg base 13 "_law_copies" ["_law_bodies"] (spF K kT) :=
 fH (k := 12) T.f_L_copies_w T.G_L_copies_w yN (Runs.plain (n := 2) (np := 1)) (fun _ _ _ _ _ _ us hl => match us, hl with | [_], _ => rfl) fun _ _ _ _ _ _ hr tk nd => by
  unfold lA;exact (aI (aN (A6 (own := [("_law_body_here", 1)]) (t := (.nm 1)) rfl nd (gL (fv 0)) (blkOk_by (own := [("_law_body_here", 1)]) (N := ["_law_bodies", "_law_body_here"]) (sc := defScope kR) (by decide +kernel)) (fun _ _ _ _ _ => (pg_name (i := 1) nd rfl (.inl rfl))) (fun _ _ _ _ _ => dE) (fun _ _ _ _ _ => (aO (uM T 10) hr takes0 (aA (fv 1) aG))))))
theorem tR (T : Txt w K mg) : lN P w K mg base 1 "with_blocks" ["statement", "blocks"] (spF K gX) :=
 fH (k := 0) T.f_with_blocks_u T.G_with_blocks_u tM (Runs.plain (n := 3) (np := 2)) (fun _ _ _ _ _ _ us hl => match us, hl with | [_, _], _ => rfl) fun _ _ _ _ _ _ hr tk nd => by
  unfold hC;exact (aF (aX (i := 2) nd rfl (.inl rfl) (qX (fv 0) fI))
  (aF (bF (PW.pt (eT (aS (bB hr.units) s_eq (fv 2) fS) (pw_or1 (aS (bB hr.units) s_eq (fv 2) fS)))) (aI (aN (bZ (aA (fv 2) (aA (cE (fv 1) fI) aG))))) aP)
  (aF (bF (aS (bB hr.units) s_eq (fv 2) fS) (aI (aN (bZ (aA (fv 2) (aA (cE (fv 1) fI) (aA (cE (fv 1) fI) aG)))))) aP)
  (aF (bF (aS (bB hr.units) s_eq (fv 2) fS) (aI (aN (bZ (aA (fv 2) (aA (qX (fv 0) fI) (aA (qX (fv 0) fI) (aA (fv 1) aG))))))) aP)
  (aI (aN (M6 (fv 0))))))))
theorem wU (T : Txt w K mg) : lN P w K mg base 1 "blocks_of" ["statement"] (spF K jP) :=
 fH (k := 0) T.f_blocks_of_v T.G_blocks_of_v vX (Runs.plain (n := 2) (np := 1)) (fun _ _ _ _ _ _ us hl => match us, hl with | [_], _ => rfl) fun _ _ _ _ _ _ hr tk nd => by
  unfold jU;exact (aF (aX (i := 1) nd rfl (.inl rfl) (qX (fv 0) fI))
  (aF (bF (PW.pt (eT (aS (bB hr.units) s_eq (fv 1) fS) (pw_or1 (aS (bB hr.units) s_eq (fv 1) fS)))) (aI (aN (BB (aA (qX (fv 0) fI) aG)))) aP)
  (aF (bF (aS (bB hr.units) s_eq (fv 1) fS) (aI (aN (BB (aA (qX (fv 0) fI) (aA (qX (fv 0) fI) aG))))) aP)
  (aF (bF (aS (bB hr.units) s_eq (fv 1) fS) (aI (aN (qX (fv 0) fI))) aP)
  (aI (aN (BB aG)))))))
theorem iJ (T : Txt w K mg) : ∀ n, (lN P w K mg base (1 + n + 1) "copied_statement" ["statement"] (spF K (cX n))) /\ (lN P w K mg base (1 + n + 1) "copied_block" ["block"] (spF K (cD n)))
 | 0 => ⟨fZ T.f_copied_statement_v T.G_copied_statement_v iZ (fun _ _ _ _ _ _ us hl => match us, hl with | [_], _ => rfl), fZ T.f_copied_block_v T.G_copied_block_v lS (fun _ _ _ _ _ _ us hl => match us, hl with | [_], _ => rfl)⟩
 | n + 1 => by
  have ih := iJ T n;have ih_copied_statement_v := ih.1;have ih_copied_block_v := ih.2;refine ⟨?_, ?_⟩
  ·exact fH (k := 1 + n + 1) T.f_copied_statement_v T.G_copied_statement_v iZ (Runs.cut (n := 2) (np := 1)) (fun _ _ _ _ _ _ us hl => match us, hl with | [_], _ => rfl) fun _ _ _ _ _ _ hr tk nd => by
    unfold eA;exact (aI (aN (aO (tR T) hr tk (aA (fv 0) (aA (HG false (own := [("block", 1)]) (t := (.nm 1)) rfl nd (aO (wU T) hr tk (aA (fv 0) aG) (by omega)) (blkOk_by (own := [("block", 1)]) (N := ["statement", "block"]) (sc := defScope dX) (by decide +kernel)) (fun _ _ _ _ _ => (pg_name (i := 1) nd rfl (.inl rfl))) (fun _ _ _ _ _ => dE) (fun _ _ _ _ _ => (aO ih_copied_block_v hr takes0 (aA (fv 1) aG) (by omega)))) aG)) (by omega))))
  ·exact fH (k := 1 + n + 1) T.f_copied_block_v T.G_copied_block_v lS (Runs.cut (n := 2) (np := 1)) (fun _ _ _ _ _ _ us hl => match us, hl with | [_], _ => rfl) fun _ _ _ _ _ _ hr tk nd => by
    unfold gI;exact (aI (aN (HG false (own := [("statement", 1)]) (t := (.nm 1)) rfl nd (fv 0) (blkOk_by (own := [("statement", 1)]) (N := ["block", "statement"]) (sc := defScope fX) (by decide +kernel)) (fun _ _ _ _ _ => (pg_name (i := 1) nd rfl (.inl rfl))) (fun _ _ _ _ _ => dE) (fun _ _ _ _ _ => (aO ih_copied_statement_v hr takes0 (aA (fv 1) aG) (by omega))))))
theorem sC (T : Txt w K mg) (n : Nat) : lN P w K mg base (1 + n + 1) "copied_block" ["block"] (spF K (cD n)) := (iJ T n).2
theorem wV (T : Txt w K mg) : OkMX P w K mg base 23 "Book" "__init__" ["self", "bodies"] (spF K gN) :=
 zQ (k := 22) T.f_Book_init_v T.M_Book_init_v wA (Runs.cut (n := 6) (np := 2)) (fun _ _ _ _ _ _ us hl => match us, hl with | [_, _], _ => rfl) fun _ _ _ _ _ _ hr tk nd => by
  unfold jV gU;exact (aF (bF (PW.pt (eT (eI (dJ (eJ (T := "list") T.n_isinstance T.n_list (fv 1)))) (pw_or1 (eI (xK nR Ak nR Ak fI (rL T.n_len (fv 1)) (xQ T.i_MOST_PROCEDURES)))))) (aI (lE (xa_NoBook T) hr tk (aA (xN fI) (aA (bZ aG) aG)))) aP)
  (aF (JQ (j1 := 2) (j2 := 3) (passes_of rfl) rfl (by rfl) T.n_enumerate (fv 1) (pg_tup rfl (pgs_cons (pg_name (i := 2) nd rfl (.inl rfl)) (pgs_cons (pg_name (i := 3) nd rfl (.inl rfl)) pgs_nil))) (iP [2, 3, 4, 5] (aF (bF (eI (dJ (eJ (T := "list") T.n_isinstance T.n_list (fv 3)))) (aI (lE (xa_NoBook T) hr tk (aA (fv 2) (aA (bZ aG) aG)))) aP)
  (aF (B6 (t := (.tp [4, 5])) (FB 8 (lG T 10) hr tk (aA (fv 3) (aA fI (aA (rL T.n_len (fv 1)) (aA (bZ aG) (aA fI aG)))))) (pg_tup rfl (pgs_cons (pg_name (i := 4) nd rfl (.inl rfl)) (pgs_cons (pg_name (i := 5) nd rfl (.inl rfl)) pgs_nil))))
  (aI (bF (aS wO Co (fv 4) fN) (aI (lE (xa_NoBook T) hr tk (aA (fv 2) (aA (fv 4) aG)))) aP))))))
  (aI (ED T.c_Book T.a_Book_own (fv 0) (HG false (own := [("body", 3)]) (t := (.nm 3)) rfl nd (fv 1) (blkOk_by (own := [("body", 3)]) (N := ["self", "bodies", "procedure", "body", "fault", "met"]) (sc := defScope eW) (by decide +kernel)) (fun _ _ _ _ _ => (pg_name (i := 3) nd rfl (.inl rfl))) (fun _ _ _ _ _ => dE) (fun _ _ _ _ _ => (aO (sC T 20) hr takes0 (aA (fv 3) aG))))))))
theorem yS (T : Txt w K mg) : lN P w K mg base 1 "_law_blocks" ["_law_statement"] (spF K kU) :=
 fH (k := 0) T.f_L_blocks_v T.G_L_blocks_v yO (Runs.plain (n := 2) (np := 1)) (fun _ _ _ _ _ _ us hl => match us, hl with | [_], _ => rfl) fun _ _ _ _ _ _ hr tk nd => by
  unfold lB;exact (aF (bF (aS (bB hr.units) s_eq (qX (fv 0) fI) fS) (aI (aN (JT T.n_list (qX (fv 0) fI)))) aP)
  (aI (aN (f_lcJ true (own := [("_law_item", 1)]) (t := (.nm 1)) rfl nd (f_slB (fv 0) (lX fI) lY) (blkOk_by (own := [("_law_item", 1)]) (N := ["_law_statement", "_law_item"]) (sc := defScope kS) (by decide +kernel)) (fun _ _ _ _ _ => (pg_name (i := 1) nd rfl (.inl rfl))) (fun _ _ _ _ _ => (EC (dJ (eJ (T := "list") T.n_isinstance T.n_list (fv 1))))) (fun _ _ _ _ _ => (fv 1))))))
theorem nU (T : Txt w K mg) : ∀ n, lN P w K mg base (1 + n + 1) "_law_lists" ["_law_block_here"] (spF K (dF n))
 | 0 => fZ T.f_L_lists_v T.G_L_lists_v rW (fun _ _ _ _ _ _ us hl => match us, hl with | [_], _ => rfl)
 | n + 1 => by
  have ih_L_lists_v := nU T n;exact fH (k := 1 + n + 1) T.f_L_lists_v T.G_L_lists_v rW (Runs.plain (n := 4) (np := 1)) (fun _ _ _ _ _ _ us hl => match us, hl with | [_], _ => rfl) fun _ _ _ _ _ _ hr tk nd => by
   unfold mG jL jM;exact (aF (aX (i := 1) nd rfl (.inl rfl) (BB (aA (fv 0) aG)))
  (aF (EE (t := (.nm 2)) (passes_of rfl) rfl (fv 0) (pg_name (i := 2) nd rfl (.inl rfl)) (iP [2, 3] (aI (EE (t := (.nm 3)) (passes_of rfl) rfl (aO (yS T) hr tk (aA (fv 2) aG) (by omega)) (pg_name (i := 3) nd rfl (.inl rfl)) (iP [3] (aI (aX (i := 1) nd rfl (.inl rfl) (cA bM KU (fv 1) (aO ih_L_lists_v hr tk (aA (fv 3) aG) (by omega))))))))))
  (aI (aN (fv 1)))))
theorem tQ (T : Txt w K mg) : lN P w K mg base 1 "with_blocks" ["statement", "blocks"] (spF K gW) :=
 fH (k := 0) T.f_with_blocks_v T.G_with_blocks_v tL (Runs.plain (n := 3) (np := 2)) (fun _ _ _ _ _ _ us hl => match us, hl with | [_, _], _ => rfl) fun _ _ _ _ _ _ hr tk nd => by
  unfold gZ;exact (aF (aX (i := 2) nd rfl (.inl rfl) (cE (fv 0) fI))
  (aF (bF (PW.pt (eT (aS (bB hr.units) s_eq (fv 2) fS) (pw_or1 (aS (bB hr.units) s_eq (fv 2) fS)))) (aI (aN (xM (aA (fv 2) (aA (xP (fv 1) fI) aG))))) aP)
  (aF (bF (aS (bB hr.units) s_eq (fv 2) fS) (aI (aN (xM (aA (fv 2) (aA (xP (fv 1) fI) (aA (xP (fv 1) fI) aG)))))) aP)
  (aF (bF (aS (bB hr.units) s_eq (fv 2) fS) (aI (aN (xM (aA (fv 2) (aA (cE (fv 0) fI) (aA (cE (fv 0) fI) (aA (fv 1) aG))))))) aP)
  (aI (aN (fv 0)))))))
theorem iI (T : Txt w K mg) : ∀ n, (lN P w K mg base (1 + n + 1) "copied_statement" ["statement"] (spF K (cW n))) /\ (lN P w K mg base (1 + n + 1) "copied_block" ["block"] (spF K (cC n)))
 | 0 => ⟨fZ T.f_copied_statement_w T.G_copied_statement_w iY (fun _ _ _ _ _ _ us hl => match us, hl with | [_], _ => rfl), fZ T.f_copied_block_w T.G_copied_block_w lR (fun _ _ _ _ _ _ us hl => match us, hl with | [_], _ => rfl)⟩
 | n + 1 => by
  have ih := iI T n;have ih_copied_statement_w := ih.1;have ih_copied_block_w := ih.2;refine ⟨?_, ?_⟩
  ·exact fH (k := 1 + n + 1) T.f_copied_statement_w T.G_copied_statement_w iY (Runs.plain (n := 2) (np := 1)) (fun _ _ _ _ _ _ us hl => match us, hl with | [_], _ => rfl) fun _ _ _ _ _ _ hr tk nd => by
    unfold dZ;exact (aI (aN (aO (tQ T) hr tk (aA (fv 0) (aA (A6 (own := [("block", 1)]) (t := (.nm 1)) rfl nd (gL (aO (nS T) hr tk (aA (fv 0) aG) (by omega))) (blkOk_by (own := [("block", 1)]) (N := ["statement", "block"]) (sc := defScope dW) (by decide +kernel)) (fun _ _ _ _ _ => (pg_name (i := 1) nd rfl (.inl rfl))) (fun _ _ _ _ _ => dE) (fun _ _ _ _ _ => (aO ih_copied_block_w hr takes0 (aA (fv 1) aG) (by omega)))) aG)) (by omega))))
  ·exact fH (k := 1 + n + 1) T.f_copied_block_w T.G_copied_block_w lR (Runs.plain (n := 2) (np := 1)) (fun _ _ _ _ _ _ us hl => match us, hl with | [_], _ => rfl) fun _ _ _ _ _ _ hr tk nd => by
    unfold gH;exact (aI (aN (A6 (own := [("statement", 1)]) (t := (.nm 1)) rfl nd (gL (fv 0)) (blkOk_by (own := [("statement", 1)]) (N := ["block", "statement"]) (sc := defScope fW) (by decide +kernel)) (fun _ _ _ _ _ => (pg_name (i := 1) nd rfl (.inl rfl))) (fun _ _ _ _ _ => dE) (fun _ _ _ _ _ => (aO ih_copied_statement_w hr takes0 (aA (fv 1) aG) (by omega))))))
theorem sA (T : Txt w K mg) (n : Nat) : lN P w K mg base (1 + n + 1) "copied_block" ["block"] (spF K (cC n)) := (iI T n).2
theorem tT (T : Txt w K mg) : OkMX P w K mg base 23 "Book" "bodies" ["self"] (spF K gY) :=
 zQ (k := 22) T.f_Book_bodies_w T.M_Book_bodies_w tN (Runs.plain (n := 2) (np := 1)) (fun _ _ _ _ _ _ us hl => match us, hl with | [_], _ => rfl) fun _ _ _ _ _ _ hr tk nd => by
  unfold hE;exact (aI (aN (A6 (own := [("body", 1)]) (t := (.nm 1)) rfl nd (gL (CK T.c_Book T.a_Book_own (fv 0))) (blkOk_by (own := [("body", 1)]) (N := ["self", "body"]) (sc := defScope dU) (by decide +kernel)) (fun _ _ _ _ _ => (pg_name (i := 1) nd rfl (.inl rfl))) (fun _ _ _ _ _ => dE) (fun _ _ _ _ _ => (aO (sA T 20) hr takes0 (aA (fv 1) aG))))))
theorem law_fn (T : Txt w K mg) : ∃ fd, (∀ (s : Shared) (us : List Value), us.length = (["_law_script"] : List Str).length -> BindsTo s fd ⟨us, []⟩ ((["_law_script"] : List Str).zip us)) /\ ∀ base, FnOk P w K mg base (L2.CX P w) 36 (He.ga K "law") fd ["_law_script"] (spF K m_law_k08) :=
 GA (N := ["_law_script", "_law_pool_here", "_law_at", "_law_first", "_law_second", "_law_passed", "_law_book_here", "_law_other", "_law_lists_here", "_law_chosen", "_law_told", "_law_alike"]) T.f_law_k08 sc_law_k08 (Runs.cut (n := 12) (np := 1) (mb := nH)) (fun _ _ _ _ _ _ us hl => match us, hl with | [_], _ => rfl) fun base cdv A outer s H E hr => by
  have nd : (["_law_script", "_law_pool_here", "_law_at", "_law_first", "_law_second", "_law_passed", "_law_book_here", "_law_other", "_law_lists_here", "_law_chosen", "_law_told", "_law_alike"] : List Str).Nodup := sc_law_k08.nd;have tk := takes_of (X := cxOf (L2.CX P w) P w K mg base ["_law_script", "_law_pool_here", "_law_at", "_law_first", "_law_second", "_law_passed", "_law_book_here", "_law_other", "_law_lists_here", "_law_chosen", "_law_told", "_law_alike"] "law" (defScope qF) (He.ga K "law") cdv A outer s H E) (E := E) rfl rfl rfl rfl;unfold nH lT pH pI pJ;exact (aF (aX (i := 1) nd rfl (.inl rfl) (aO (Ek T) hr tk (aA (fv 0) aG)))
  (aF (aX (i := 2) nd rfl (.inl rfl) (aO (bL T) hr tk (aA (fv 1) (aA fI aG))))
  (aF (aX (i := 3) nd rfl (.inl rfl) (aO (zP T) hr tk (aA (fv 1) (aA fI (aA fI aG)))))
  (aF (aX (i := 4) nd rfl (.inl rfl) (aO (zP T) hr tk (aA (fv 1) (aA fI (aA fI aG)))))
  (aF (bF (aS (bB hr.units) s_eq (aO (bL T) hr tk (aA (fv 1) (aA fI aG))) fI) (aI (aX (i := 4) nd rfl (.inl rfl) (aO (pL T) hr tk (aA (fv 3) aG)))) aP)
  (aF (aX (i := 5) nd rfl (.inl rfl) (aO (yR T) hr tk (aA (fv 3) aG)))
  (aF (aX (i := 6) nd rfl (.inl rfl) (BA T.T_Book (wV T) hr tk (aA (fv 5) aG)))
  (aF (aX (i := 7) nd rfl (.inl rfl) (BA T.T_Book (nW T) hr tk (aA (aO (pL T) hr tk (aA (fv 4) aG)) aG)))
  (aF (bF (PW.pt (eT (eI (dJ (aO (jY T) hr tk (aA (fv 6) (aA (fv 3) aG))))) (pw_or1 (eI (dJ (aO (jY T) hr tk (aA (fv 7) (aA (fv 4) aG)))))))) (aI (aN fB)) aP)
  (aF (aX (i := 8) nd rfl (.inl rfl) (aO (nU T 10) hr tk (aA (xP (fv 5) (cA fY mW (fv 2) (rL T.n_len (fv 5)))) aG)))
  (aF (aX (i := 9) nd rfl (.inl rfl) (xP (fv 8) (cA fY mW (fv 2) (rL T.n_len (fv 8)))))
  (aF (sL (BC (fv 9) (bZ (aA fS aG))))
  (aF (bF (eI (dJ (aO (jY T) hr tk (aA (fv 6) (aA (fv 3) aG))))) (aI (aN fB)) aP)
  (aF (sL (BC (fv 5) (bX aG)))
  (aF (aX (i := 10) nd rfl (.inl rfl) (B9 (tT T) hr tk T.c_Book (fv 6)))
  (aF (aX (i := 8) nd rfl (.inl rfl) (aO (nU T 10) hr tk (aA (xP (fv 10) (cA fY mW (fv 2) (rL T.n_len (fv 10)))) aG)))
  (aF (aX (i := 9) nd rfl (.inl rfl) (xP (fv 8) (cA fY mW (fv 2) (rL T.n_len (fv 8)))))
  (aF (sL (BC (fv 9) (bZ (aA fS aG))))
  (aF (sL (BC (fv 10) (bX aG)))
  (aF (bF (PW.pt (eT (eI (dJ (aO (jY T) hr tk (aA (fv 6) (aA (fv 3) aG))))) (pw_or1 (eI (dJ (aO (jY T) hr tk (aA (fv 7) (aA (fv 4) aG)))))))) (aI (aN fB)) aP)
  (aF (aX (i := 11) nd rfl (.inl rfl) (aO (tS T 20) hr tk (aA (fv 3) (aA (fv 4) aG))))
  (aF (bF (PW.pt (eT (aS (nP hr.units) Ai (kO (Ap (nX T) hr) Dj (fv 6) (fv 7)) (fv 11)) (pw_or1 (aS (nP hr.units) Ai (kO (Ap (nX T) hr) Dj (fv 7) (fv 6)) (fv 11))))) (aI (aN fB)) aP)
  (aI (aN (jI (kO (Ap (nX T) hr) Dj (BA T.T_Book (nW T) hr tk (aA (B9 (pM T) hr tk T.c_Book (fv 6)) aG)) (fv 6)) (pe_one (kO (Ap (nX T) hr) Dj (fv 6) (BA T.T_Book (nW T) hr tk (aA (aO (pL T) hr tk (aA (fv 3) aG)) aG)))))))))))))))))))))))))))))
end
theorem M7 {K : aB} (h : ex K = true) (i : Nat) {b : Bool} (e : (exs K)[i]? = some b := by rfl) : b = true := aW.mp h b (rR e)
theorem ob_eq (s : vQ) : ob s = hk.obs s.abs := IP (HandSHeadRun.getT_eq s)
theorem txt {w : World} {K : aB} {h : Heap} {mg : Str -> Option Value} (X : K.In h) (G : h.Ns mainGlobals mg) (c : He.SaysT fa fn ts w K /\ ex K = true) : Txt w K mg where
  n_isinstance := He.free_ok X G (c.1.d.fact 0 (f := .free "isinstance") rfl)
  n_int := He.free_ok X G (c.1.d.fact 1 (f := .free "int") rfl)
  n_bool := He.free_ok X G (c.1.d.fact 2 (f := .free "bool") rfl)
  n_tuple := He.free_ok X G (c.1.d.fact 3 (f := .free "tuple") rfl)
  n_len := He.free_ok X G (c.1.d.fact 4 (f := .free "len") rfl)
  n_str := He.free_ok X G (c.1.d.fact 5 (f := .free "str") rfl)
  lim := Ko (M7 c.2 0) (FV c.1 0 (t := Cu) rfl)
  k_LIMITS := c.1.tab 0 (t := Cu) rfl
  g_LIMITS := He.glo_ok X G (c.1.d.fact 6 (f := .glo "LIMITS") rfl)
  n_all := He.free_ok X G (c.1.d.fact 7 (f := .free "all") rfl)
  i_DEEPEST := He.int_ok X G (c.1.d.fact 8 (f := .int "DEEPEST" 3) rfl)
  n_list := He.free_ok X G (c.1.d.fact 9 (f := .free "list") rfl)
  n_enumerate := He.free_ok X G (c.1.d.fact 10 (f := .free "enumerate") rfl)
  i_MOST_IN_LIST := He.int_ok X G (c.1.d.fact 11 (f := .int "MOST_IN_LIST" 8) rfl)
  i_MOST_IN_PROCEDURE := He.int_ok X G (c.1.d.fact 12 (f := .int "MOST_IN_PROCEDURE" 12) rfl)
  i_MOST_PROCEDURES := He.int_ok X G (c.1.d.fact 13 (f := .int "MOST_PROCEDURES" 3) rfl)
  xa_NoBook := KD (M7 c.2 1) (He.glo_ok X G (c.1.d.fact 14 (f := .glo "NoBook") rfl))
  fx_NoBook := c.1.d.def_ 0 (d := xU) rfl
  c_Book := He.cls_ok (c.1.d.fact 15 (f := .cls "Book") rfl)
  a_Book_own := He.noat_ok (c.1.d.fact 16 (f := .noat "Book" "own") rfl)
  I_Book := LB (M7 c.2 2) (He.cls_ok (c.1.d.fact 17 (f := .cls "Book") rfl))
  g_Book := He.glo_ok X G (c.1.d.fact 18 (f := .glo "Book") rfl)
  n_range := He.free_ok X G (c.1.d.fact 19 (f := .free "range") rfl)
  T_Book := ⟨He.cls_ok (c.1.d.fact 20 (f := .cls "Book") rfl), He.mkr_ok (c.1.d.fact 21 (f := .mkr "Book") rfl), He.glo_ok X G (c.1.d.fact 22 (f := .glo "Book") rfl)⟩
  G_is_integer := He.glo_ok X G (c.1.d.fact 23 (f := .glo "is_integer") rfl)
  f_is_integer := c.1.d.def_ 1 (d := qY) rfl
  G_is_bit := He.glo_ok X G (c.1.d.fact 24 (f := .glo "is_bit") rfl)
  f_is_bit := c.1.d.def_ 2 (d := AE) rfl
  G_is_command := He.glo_ok X G (c.1.d.fact 25 (f := .glo "is_command") rfl)
  f_is_command := c.1.d.def_ 3 (d := qZ) rfl
  G_blocks_of := He.glo_ok X G (c.1.d.fact 26 (f := .glo "blocks_of") rfl)
  f_blocks_of := c.1.d.def_ 4 (d := sP) rfl
  G_with_blocks := He.glo_ok X G (c.1.d.fact 27 (f := .glo "with_blocks") rfl)
  f_with_blocks := c.1.d.def_ 5 (d := pW) rfl
  G_copied_block := He.glo_ok X G (c.1.d.fact 28 (f := .glo "copied_block") rfl)
  f_copied_block := c.1.d.def_ 6 (d := oT) rfl
  G_copied_statement := He.glo_ok X G (c.1.d.fact 29 (f := .glo "copied_statement") rfl)
  f_copied_statement := c.1.d.def_ 7 (d := kP) rfl
  G_well_formed := He.glo_ok X G (c.1.d.fact 30 (f := .glo "well_formed") rfl)
  f_well_formed := c.1.d.def_ 8 (d := pX) rfl
  G_first_fault := He.glo_ok X G (c.1.d.fact 31 (f := .glo "first_fault") rfl)
  f_first_fault := c.1.d.def_ 9 (d := pY) rfl
  M_Book_init := He.meth_ok (c.1.d.fact 32 (f := .meth "Book" "__init__") rfl)
  f_Book_init := c.1.d.def_ 10 (d := sS) rfl
  M_Book_len := He.meth_ok (c.1.d.fact 33 (f := .meth "Book" "__len__") rfl)
  f_Book_len := c.1.d.def_ 11 (d := uW) rfl
  M_Book_eq := He.meth_ok (c.1.d.fact 34 (f := .meth "Book" "__eq__") rfl)
  f_Book_eq := c.1.d.def_ 12 (d := xY) rfl
  M_Book_bodies := He.meth_ok (c.1.d.fact 35 (f := .meth "Book" "bodies") rfl)
  f_Book_bodies := c.1.d.def_ 13 (d := qB) rfl
  G_L_pool := He.glo_ok X G (c.1.d.fact 36 (f := .glo "_law_pool") rfl)
  f_L_pool := c.1.d.def_ 14 (d := AH) rfl
  G_L_draw := He.glo_ok X G (c.1.d.fact 37 (f := .glo "_law_draw") rfl)
  f_L_draw := c.1.d.def_ 15 (d := AJ) rfl
  G_L_command := He.glo_ok X G (c.1.d.fact 38 (f := .glo "_law_command") rfl)
  f_L_command := c.1.d.def_ 16 (d := sR) rfl
  G_L_pair := He.glo_ok X G (c.1.d.fact 39 (f := .glo "_law_pair") rfl)
  f_L_pair := c.1.d.def_ 17 (d := AI) rfl
  G_L_piece := He.glo_ok X G (c.1.d.fact 40 (f := .glo "_law_piece") rfl)
  f_L_piece := c.1.d.def_ 18 (d := xW) rfl
  G_L_block := He.glo_ok X G (c.1.d.fact 41 (f := .glo "_law_block") rfl)
  f_L_block := c.1.d.def_ 19 (d := xX) rfl
  G_L_around := He.glo_ok X G (c.1.d.fact 42 (f := .glo "_law_around") rfl)
  f_L_around := c.1.d.def_ 20 (d := uV) rfl
  G_L_body := He.glo_ok X G (c.1.d.fact 43 (f := .glo "_law_body") rfl)
  f_L_body := c.1.d.def_ 21 (d := AM) rfl
  G_L_book := He.glo_ok X G (c.1.d.fact 44 (f := .glo "_law_book") rfl)
  f_L_book := c.1.d.def_ 22 (d := AL) rfl
  G_L_blocks := He.glo_ok X G (c.1.d.fact 45 (f := .glo "_law_blocks") rfl)
  f_L_blocks := c.1.d.def_ 23 (d := uU) rfl
  G_L_with := He.glo_ok X G (c.1.d.fact 46 (f := .glo "_law_with") rfl)
  f_L_with := c.1.d.def_ 24 (d := AF) rfl
  G_L_copy := He.glo_ok X G (c.1.d.fact 47 (f := .glo "_law_copy") rfl)
  f_L_copy := c.1.d.def_ 25 (d := AK) rfl
  G_L_copies := He.glo_ok X G (c.1.d.fact 48 (f := .glo "_law_copies") rfl)
  f_L_copies := c.1.d.def_ 26 (d := uT) rfl
  G_L_same := He.glo_ok X G (c.1.d.fact 49 (f := .glo "_law_same") rfl)
  f_L_same := c.1.d.def_ 27 (d := AG) rfl
  G_L_good_2 := He.glo_ok X G (c.1.d.fact 50 (f := .glo "_law_good") rfl)
  f_L_good_2 := c.1.d.def_ 28 (d := uR) rfl
  G_L_with_v := He.glo_ok X G (c.1.d.fact 51 (f := .glo "_law_with") rfl)
  f_L_with_v := c.1.d.def_ 29 (d := uQ) rfl
  G_L_copy_w := He.glo_ok X G (c.1.d.fact 52 (f := .glo "_law_copy") rfl)
  f_L_copy_w := c.1.d.def_ 30 (d := uS) rfl
  G_L_copies_w := He.glo_ok X G (c.1.d.fact 53 (f := .glo "_law_copies") rfl)
  f_L_copies_w := c.1.d.def_ 31 (d := rA) rfl
  G_with_blocks_u := He.glo_ok X G (c.1.d.fact 54 (f := .glo "with_blocks") rfl)
  f_with_blocks_u := c.1.d.def_ 32 (d := nD) rfl
  G_blocks_of_v := He.glo_ok X G (c.1.d.fact 55 (f := .glo "blocks_of") rfl)
  f_blocks_of_v := c.1.d.def_ 33 (d := pZ) rfl
  G_copied_statement_v := He.glo_ok X G (c.1.d.fact 56 (f := .glo "copied_statement") rfl)
  f_copied_statement_v := c.1.d.def_ 34 (d := jE) rfl
  G_copied_block_v := He.glo_ok X G (c.1.d.fact 57 (f := .glo "copied_block") rfl)
  f_copied_block_v := c.1.d.def_ 35 (d := mD) rfl
  M_Book_init_v := He.meth_ok (c.1.d.fact 58 (f := .meth "Book" "__init__") rfl)
  f_Book_init_v := c.1.d.def_ 36 (d := qA) rfl
  G_L_blocks_v := He.glo_ok X G (c.1.d.fact 59 (f := .glo "_law_blocks") rfl)
  f_L_blocks_v := c.1.d.def_ 37 (d := rB) rfl
  G_L_lists_v := He.glo_ok X G (c.1.d.fact 60 (f := .glo "_law_lists") rfl)
  f_L_lists_v := c.1.d.def_ 38 (d := sQ) rfl
  G_with_blocks_v := He.glo_ok X G (c.1.d.fact 61 (f := .glo "with_blocks") rfl)
  f_with_blocks_v := c.1.d.def_ 39 (d := nC) rfl
  G_copied_statement_w := He.glo_ok X G (c.1.d.fact 62 (f := .glo "copied_statement") rfl)
  f_copied_statement_w := c.1.d.def_ 40 (d := jD) rfl
  G_copied_block_w := He.glo_ok X G (c.1.d.fact 63 (f := .glo "copied_block") rfl)
  f_copied_block_w := c.1.d.def_ 41 (d := lZ) rfl
  M_Book_bodies_w := He.meth_ok (c.1.d.fact 64 (f := .meth "Book" "bodies") rfl)
  f_Book_bodies_w := c.1.d.def_ 42 (d := nE) rfl
  G_law_k08 := He.glo_ok X G (c.1.d.fact 65 (f := .glo "law") rfl)
  f_law_k08 := c.1.d.def_ 43 (d := xV) rfl
end PHZ
namespace PH
open PySem PySem.Spec PyProof.Rows L2
theorem FP {α : Type} {x : α} {r : List α} : atI (x :: r) 0 = some x := eU (n := 0) rfl
theorem FN {α : Type} {x y : α} {r : List α} : atI (x :: y :: r) 1 = some y := eU (n := 1) rfl
theorem MH {α : Type} {x y z : α} {r : List α} : atI (x :: y :: z :: r) 2 = some z := eU (n := 2) rfl
theorem MG {α : Type} {x y z w : α} {r : List α} : atI (x :: y :: z :: w :: r) 3 = some w := eU (n := 3) rfl
theorem cH {x : D} {r : List D} {S : aK} : cV (.dat (.tup (x :: r))) (.dat (.int 0)) S = .ok (.dat x) S := A4 FP
theorem pQ {x y : D} {r : List D} {S : aK} : cV (.dat (.tup (x :: y :: r))) (.dat (.int 1)) S = .ok (.dat y) S := A4 FN
theorem Ax {x y z : D} {r : List D} {S : aK} : cV (.dat (.tup (x :: y :: z :: r))) (.dat (.int 2)) S = .ok (.dat z) S := A4 MH
theorem Ia {x y z w : D} {r : List D} {S : aK} : cV (.dat (.tup (x :: y :: z :: w :: r))) (.dat (.int 3)) S = .ok (.dat w) S := A4 MG
theorem Ay {x : D} {r : List D} {S : aK} : cV (.dat (.lst (x :: r))) (.dat (.int 0)) S = .ok (.dat x) S := CB FP
theorem GQ {x y : D} {r : List D} {S : aK} : cV (.dat (.lst (x :: y :: r))) (.dat (.int 1)) S = .ok (.dat y) S := CB FN
def PoolAt (S : aK) (p : Nat) (ks : List Int) : Prop := S[p]? = some (.lst (ks.map D.int)) /\ 2 <= ks.length
theorem GU {S : aK} {p : Nat} {ks : List Int} {k : Int} {n : Nat} {u : Int} (h : S[p]? = some (.lst (ks.map D.int))) (hk : k = (n : Int)) (hu : ks[n]? = some u) : GV (.cel p) k S = some (.int u) := by
 subst hk;simp only [GV, h];rw [if_pos (by omega)]
 simp [hu]
theorem Bc {S : aK} {p : Nat} {ks : List Int} {k : Int} {n : Nat} {u : Int} (h : S[p]? = some (.lst (ks.map D.int))) (hk : k = (n : Int)) (hu : n < ks.length) : setC (.cel p) k (.int u) S = some (S.set p (.lst ((ks.set n u).map D.int))) := by
 subst hk;simp only [setC, h];rw [if_pos ⟨by omega, by simpa using hu⟩]
 simp [List.map_set]
theorem yB {g : Int -> Int -> Int} {o i e : FE} {ρ : Ev} {S : aK} {p n : Nat} {k u w : Int} {ks : List Int} (ho : o ρ S = .ok (.cel p) S) (hi : i ρ S = .ok (.dat (.int k)) S) (he : e ρ S = .ok (.dat (.int w)) S) (h : S[p]? = some (.lst (ks.map D.int))) (hk : k = (n : Int)) (hu : ks[n]? = some u) :
  iK g o i e ρ S = .next ρ (S.set p (.lst ((ks.set n (g u w)).map D.int))) := by
 simp only [iK, ho, hi, he, C9, GU h hk hu, Bc h hk (aH.mp hu).1]
theorem qJ {S : aK} {p : Nat} {ks : List Int} {k : Int} {n : Nat} {u : Int} (h : S[p]? = some (.lst (ks.map D.int))) (hk : k = (n : Int)) (hu : ks[n]? = some u) : cV (.cel p) (.dat (.int k)) S = .ok (.dat (.int u)) S :=
 g_ixC h (by rw [eU hk]; simp [hu])
theorem nK {S : aK} {p : Nat} {c d : Cell} (h : S[p]? = some c) : (S.set p d)[p]? = some d := by
 rw [aV, if_pos rfl, if_pos (aH.mp h).1]
theorem pw18 {S : aK} : JU (.dat (.int 10)) (.dat (.int 18)) S = .ok (.dat (.int 1000000000000000000)) S := rfl
theorem dw1 (a : Int) : IntMulOk 7919 a := mulL (by decide) (by decide)
theorem dw2 (a : Int) : IntMulOk a 48271 := mulR (by decide) (by decide)
theorem dw3 (a : Int) : CDiv a 1009 := ⟨by decide, by decide⟩
theorem dw4 (a : Int) : CDiv a 2003 := ⟨by decide, by decide⟩
theorem dw5 (a : Int) : CDiv a 11 := ⟨by decide, by decide⟩
theorem dw6 (a b : Int) : IntMulOk (a % 2147483647) b := by
 have h1 : 0 <= a % 2147483647 := cU _ (by decide)
 have h2 : a % 2147483647 < 2147483647 := cN _ (by decide)
 generalize a % 2147483647 = x at h1 h2;exact mulL (by omega) (by omega)
theorem dw7 : (0 : Int) < 2147483647 := by decide
theorem dw8 : (0 : Int) < 2147483399 := by decide
theorem dw9 {a k : Int} {ks : List Int} {S S1 : aK} {p : Nat} {u : Int} (h0 : 0 < k) (hS1 : S.set p (.lst ((ks.set 0 (u + 1)).map D.int)) = S1) : ∃ (d : Int) (ks' : List Int), bQ (Out.ret (.dat (.int (a % k))) S1) = .ok (.dat (.int d)) (S.set p (.lst (ks'.map D.int))) /\ 0 <= d /\ d < k /\ ks'.length = ks.length :=
 ⟨a % k, ks.set 0 (u + 1), by rw [hS1]; rfl, cU _ (by omega), cN _ h0, by simp⟩
theorem fE {S : aK} {p : Nat} {ks : List Int} {k : Int} (hP : PoolAt S p ks) (h0 : 0 < k) (h1 : k < 1073741824) :
  ∃ (d : Int) (ks' : List Int), bK [.cel p, .dat (.int k)] S = .ok (.dat (.int d)) (S.set p (.lst (ks'.map D.int))) /\ 0 <= d /\ d < k /\ ks'.length = ks.length := by
 obtain ⟨hp, hl⟩ := hP;obtain ⟨u, hu⟩ : ∃ u, ks[0]? = some u := ⟨ks[0], by simp [show 0 < ks.length by omega]⟩
 have hp1 := nK (d := .lst ((ks.set 0 (u + 1)).map D.int)) hp;have hn : (1 : Int) + (u + 1) % ((ks.length : Int) - 1) = ((1 + ((u + 1) % ((ks.length : Int) - 1)).toNat : Nat) : Int) := by
  have := cU (u + 1) (show ((ks.length : Int) - 1) ≠ 0 by omega)
  omega
 have hlt : 1 + ((u + 1) % ((ks.length : Int) - 1)).toNat < ks.length := by
  have := cN (u + 1) (show 0 < ((ks.length : Int) - 1) by omega)
  have := cU (u + 1) (show ((ks.length : Int) - 1) ≠ 0 by omega)
  omega
 generalize hj : 1 + ((u + 1) % ((ks.length : Int) - 1)).toNat = j at hn hlt;obtain ⟨c, hc⟩ : ∃ c, (ks.set 0 (u + 1))[j]? = some c := ⟨(ks.set 0 (u + 1))[j]'(by simpa using hlt), by simp [hlt]⟩
 have h00 : (ks.set 0 (u + 1))[0]? = some (u + 1) := by
  rw [aV, if_pos rfl, if_pos (by omega)]
 have e1 : (iK (fun x y => x + y) (aE 0) (mC (.int 0)) (mC (.int 1))) [some (.cel p), some (.dat (.int k)), none, none, none] S = .next [some (.cel p), some (.dat (.int k)), none, none, none] (S.set p (.lst ((ks.set 0 (u + 1)).map D.int))) := yB rfl rfl rfl hp rfl hu
 have eE : bK [.cel p, .dat (.int k)] S = bQ (sY [some (.cel p), some (.dat (.int k)), none, none, none] S) := rfl;rw [eE];unfold sY;generalize hS1 : S.set p (.lst ((ks.set 0 (u + 1)).map D.int)) = S1 at e1 hp1;simp! [e1, qJ (k := 0) (n := 0) hp1 rfl h00, Le hp1, aQ, zC, kK (show (0 : Int) < (ks.length : Int) - 1 by omega), hn, qJ hp1 rfl hc, pw18]
 by_cases hbig : (1000000000000000000 : Int) <= c
 ·rw [decide_eq_true hbig]
  simp! [if_true];have e2 : Dt (aZ oS (aE 3) (aE 1)) (aE 0) (aE 2) [some (.cel p), some (.dat (.int k)), some (.dat (.int (j : Int))), some (.dat (.int c)), none] S1 = .next [some (.cel p), some (.dat (.int k)), some (.dat (.int (j : Int))), some (.dat (.int c)), none] (S1.set p (.lst (((ks.set 0 (u + 1)).set j (c / k)).map D.int))) := by
   unfold Dt;simp! [vM (show CDiv c k from ⟨h0, h1⟩), Bc (u := c / k) hp1 (rfl : (j : Int) = (j : Int)) (by simpa using hlt)]
  simp! [e2, kK h0];refine ⟨c % k, (ks.set 0 (u + 1)).set j (c / k), ?_, cU c (by omega), cN c h0, by simp⟩
  rw [<- hS1, lQ];rfl
 ·rw [decide_eq_false hbig]
  simp! [qJ (k := 0) (n := 0) hp1 rfl h00, DD (dw1 _), DD (dw2 _), kK dw7, kK dw8, vM (dw3 _), vM (dw4 _), vM (dw5 _), DD (dw6 _ _), kK h0];exact dw9 h0 hS1
inductive Cmd where
 | go (k : Int) | turn (n : Int) | mirror | scale (k : Int) | aim (a b : Int) | place (a b : Int) | mark | ret | exch
def Cmd.d : Cmd -> D
 | .go k => .tup [.str "go", .int k]
 | .turn k => .tup [.str "turn", .int k]
 | .mirror => .tup [.str "mirror"]
 | .scale k => .tup [.str "scale", .int k]
 | .aim a b => .tup [.str "aim", .int a, .int b]
 | .place a b => .tup [.str "place", .int a, .int b]
 | .mark => .tup [.str "mark"]
 | .ret => .tup [.str "return"]
 | .exch => .tup [.str "exchange"]
def Cmd.Ok : Cmd -> Prop
 | .go k => -9 <= k /\ k <= 9
 | .turn k => 1 <= k /\ k <= 3
 | .scale k => -3 <= k /\ k <= 3
 | .aim a b => (-9 <= a /\ a <= 9) /\ -9 <= b /\ b <= 9
 | .place a b => (-9 <= a /\ a <= 9) /\ -9 <= b /\ b <= 9
 | _ => True
abbrev PL (ks : List Int) : Cell := .lst (ks.map D.int)
theorem PoolAt.next {S : aK} {p : Nat} {ks ks' : List Int} (h : PoolAt S p ks) (l : ks'.length = ks.length) : PoolAt (S.set p (PL ks')) p ks' := ⟨nK h.1, by rw [l]; exact h.2⟩
inductive Stt where
 | cmd (c : Cmd) | fin (w : Int) | keep (b : List Stt) | again (b : List Stt) | either (a b : List Stt) | call (g : Int) (s : Bool) (a b : List Stt) | bad | odd (x : D)
mutual
def Stt.d : Stt -> D
 | .cmd c => c.d
 | .fin w => .tup [.str "end", .int w]
 | .keep b => .tup [.str "keep", .lst (bG b)]
 | .again b => .tup [.str "again", .lst (bG b)]
 | .either a b => .tup [.str "either", .lst (bG a), .lst (bG b)]
 | .call g s a b => .tup [.str "call", .int g, .bl s, .lst [.lst (bG a), .lst (bG b)]]
 | .bad => .tup [.str "bad"]
 | .odd x => x
def bG : List Stt -> List D
 | [] => []
 | s :: r => s.d :: bG r
end
mutual
/-- of a depth of n at most; calls of the first many -/
def Stt.Ok (many : Int) : Stt -> Nat -> Prop
 | .cmd c, _ => c.Ok
 | .fin w, _ => 0 <= w /\ w <= 1
 | .keep b, n => 0 < n /\ OkL many b (n - 1)
 | .again b, n => 0 < n /\ OkL many b (n - 1)
 | .either a b, n => 0 < n /\ OkL many a (n - 1) /\ OkL many b (n - 1)
 | .call g _ a b, n => (0 < n /\ 0 <= g /\ g < many) /\ OkL many a (n - 1) /\ OkL many b (n - 1)
 | .bad, _ => True
 | .odd _, _ => False
def OkL (many : Int) : List Stt -> Nat -> Prop
 | [], _ => True
 | s :: r, n => (s.Ok many n /\ r.length < 10) /\ OkL many r n
end
def WfNo (many : Int) (x : D) : Prop := ∀ (lv : Int) (S : aK), gM [.dat x, .dat (.int lv), .dat (.int many)] S = .ok (.dat (.bl false)) S
mutual
/-- the same; values that are no statements may stand in it -/
def Stt.Okx (many : Int) : Stt -> Nat -> Prop
 | .cmd c, _ => c.Ok
 | .fin w, _ => 0 <= w /\ w <= 1
 | .keep b, n => 0 < n /\ vA many b (n - 1)
 | .again b, n => 0 < n /\ vA many b (n - 1)
 | .either a b, n => 0 < n /\ vA many a (n - 1) /\ vA many b (n - 1)
 | .call g _ a b, n => (0 < n /\ 0 <= g /\ g < many) /\ vA many a (n - 1) /\ vA many b (n - 1)
 | .bad, _ => True
 | .odd x, _ => WfNo many x
def vA (many : Int) : List Stt -> Nat -> Prop
 | [], _ => True
 | s :: r, n => s.Okx many n /\ vA many r n
end
mutual
theorem Stt.Ok.x {many : Int} : ∀ {s : Stt} {n : Nat}, s.Ok many n -> s.Okx many n
 | .cmd c, _, h => h
 | .fin w, _, h => h
 | .keep b, n, h => ⟨h.1, OkL.x h.2⟩
 | .again b, n, h => ⟨h.1, OkL.x h.2⟩
 | .either a b, n, h => ⟨h.1, OkL.x h.2.1, OkL.x h.2.2⟩
 | .call g _ a b, n, h => ⟨h.1, OkL.x h.2.1, OkL.x h.2.2⟩
 | .bad, _, _ => trivial
 | .odd x, _, h => h.elim
theorem OkL.x {many : Int} : ∀ {l : List Stt} {n : Nat}, OkL many l n -> vA many l n
 | [], _, _ => trivial
 | s :: r, n, h => ⟨h.1.1.x, OkL.x h.2⟩
end
def Stt.isOdd : Stt -> Bool
 | .odd _ => true
 | _ => false
theorem Stt.Ok.no {many : Int} {s : Stt} {n : Nat} (h : s.Ok many n) : s.isOdd = false := by
 cases s <;> first | rfl | exact h.elim
theorem cK : ∀ l : List Stt, (bG l).length = l.length
 | [] => rfl
 | s :: r => by simp [bG, cK r]
theorem kF : ∀ l m : List Stt, bG (l ++ m) = bG l ++ bG m
 | [], m => rfl
 | s :: r, m => by simp [bG, kF r m]
theorem OkL.len {many : Int} : ∀ {l : List Stt} {n : Nat}, OkL many l n -> l.length <= 10
 | [], _, _ => by simp
 | s :: r, n, h => by have := h.1.2; simp; omega
def LS (S : aK) : Prop := ∀ c ∈ S, ∀ n, c.below n = true
theorem LS.app {S : aK} {ds : List D} (h : LS S) : LS (S ++ [.lst ds]) := fun c hc n => by
 rcases lM.mp hc with hc | hc
 ·exact h c hc n
 ·rw [dQ.mp hc]; rfl
theorem LS.set {S : aK} {ds : List D} {k : Nat} (h : LS S) : LS (S.set k (.lst ds)) := fun c hc n => by
 rcases BP hc with hc | hc
 ·exact h c hc n
 ·rw [hc]; rfl
theorem eG {i : Int} {S : aK} : gA [.dat (.int i)] S = .ok (.dat (.bl true)) S := by
 rw [show gA [.dat (.int i)] S = bQ (kZ [some (.dat (.int i))] S) from rfl]
 unfold kZ;simp! [if_true];rfl
theorem Es {i : Int} {S : aK} : sD [.dat (.int i)] S = .ok (.dat (.bl (decide (0 <= i) && decide (i <= 1)))) S := by
 rw [show sD [.dat (.int i)] S = bQ (sU [some (.dat (.int i))] S) from rfl]
 unfold sU;simp! [eG]
 by_cases h : 0 <= i
 ·simp! [decide_eq_true h]; rfl
 ·simp! [decide_eq_false h]; rfl
theorem oB {S : aK} : uB (.dat (.str "go")) S = .ok (.dat (.tup [.int 1, .int (-9), .int 9])) S := rfl
theorem oC {S : aK} : eC true (.dat (.str "go")) S = .ok (.dat (.bl false)) S := rfl
theorem iL {S : aK} : uB (.dat (.str "turn")) S = .ok (.dat (.tup [.int 1, .int 1, .int 3])) S := rfl
theorem iN {S : aK} : eC true (.dat (.str "turn")) S = .ok (.dat (.bl false)) S := rfl
theorem eO {S : aK} : uB (.dat (.str "mirror")) S = .ok (.dat (.tup [.int 0, .int 0, .int 0])) S := rfl
theorem eQ {S : aK} : eC true (.dat (.str "mirror")) S = .ok (.dat (.bl false)) S := rfl
theorem gC {S : aK} : uB (.dat (.str "scale")) S = .ok (.dat (.tup [.int 1, .int (-3), .int 3])) S := rfl
theorem gE {S : aK} : eC true (.dat (.str "scale")) S = .ok (.dat (.bl false)) S := rfl
theorem kW {S : aK} : uB (.dat (.str "aim")) S = .ok (.dat (.tup [.int 2, .int (-9), .int 9])) S := rfl
theorem kX {S : aK} : eC true (.dat (.str "aim")) S = .ok (.dat (.bl false)) S := rfl
theorem gD {S : aK} : uB (.dat (.str "place")) S = .ok (.dat (.tup [.int 2, .int (-9), .int 9])) S := rfl
theorem gF {S : aK} : eC true (.dat (.str "place")) S = .ok (.dat (.bl false)) S := rfl
theorem iM {S : aK} : uB (.dat (.str "mark")) S = .ok (.dat (.tup [.int 0, .int 0, .int 0])) S := rfl
theorem iO {S : aK} : eC true (.dat (.str "mark")) S = .ok (.dat (.bl false)) S := rfl
theorem eN {S : aK} : uB (.dat (.str "return")) S = .ok (.dat (.tup [.int 0, .int 0, .int 0])) S := rfl
theorem eP {S : aK} : eC true (.dat (.str "return")) S = .ok (.dat (.bl false)) S := rfl
theorem dC {S : aK} : uB (.dat (.str "exchange")) S = .ok (.dat (.tup [.int 0, .int 0, .int 0])) S := rfl
theorem dD {S : aK} : eC true (.dat (.str "exchange")) S = .ok (.dat (.bl false)) S := rfl
theorem Ig {S : aK} : eC true (.dat (.str "end")) S = .ok (.dat (.bl true)) S := rfl
theorem C5 {S : aK} : eC true (.dat (.str "keep")) S = .ok (.dat (.bl true)) S := rfl
theorem A0 {S : aK} : eC true (.dat (.str "again")) S = .ok (.dat (.bl true)) S := rfl
theorem xG {S : aK} : eC true (.dat (.str "either")) S = .ok (.dat (.bl true)) S := rfl
theorem C6 {S : aK} : eC true (.dat (.str "call")) S = .ok (.dat (.bl true)) S := rfl
theorem Ih {S : aK} : eC true (.dat (.str "bad")) S = .ok (.dat (.bl true)) S := rfl
theorem oW {x : D} {r : List D} : cutD (x :: r) (some 1) none = r := by
 unfold cutD;rw [HT.sIx_none, show ((1 : Int)) = ((1 : Nat) : Int) from rfl, HT.sIx_nat]
 simp
theorem all_nil {S : aK} : uY (.dat (.lst [])) S = .ok (.dat (.bl true)) S := rfl
theorem CU {a : Bool} {S : aK} : uY (.dat (.lst [.bl a])) S = .ok (.dat (.bl a)) S := by cases a <;> rfl
theorem CT {a b : Bool} {S : aK} : uY (.dat (.lst [.bl a, .bl b])) S = .ok (.dat (.bl (a && b))) S := by cases a <;> cases b <;> rfl
theorem sz {n : Nat} (h : n <= 1000) : n <= sizeLine := by show n <= 16777216; omega
theorem LA {c : Cmd} {S : aK} (h : c.Ok) : gB [.dat c.d] S = .ok (.dat (.bl true)) S := by
 rw [show gB [.dat c.d] S = bQ (gG [some (.dat c.d), none, none, none, none] S) from rfl]
 unfold gG iQ;cases c with
 | go k =>
  obtain ⟨h1, h2⟩ := h;simp! [Cmd.d, cH, oB, oC, iL, iN, eO, eQ, gC, gE, kW, kX, gD, gF, iM, iO, eN, eP, dC, dD, oW, zY, jZ, mU, eG, all_nil, CU, CT, decide_eq_true h1, decide_eq_true h2, sz];rfl
 | turn k =>
  obtain ⟨h1, h2⟩ := h;simp! [Cmd.d, cH, oB, oC, iL, iN, eO, eQ, gC, gE, kW, kX, gD, gF, iM, iO, eN, eP, dC, dD, oW, zY, jZ, mU, eG, all_nil, CU, CT, decide_eq_true h1, decide_eq_true h2, sz];rfl
 | mirror => simp! [Cmd.d, cH, oB, oC, iL, iN, eO, eQ, gC, gE, kW, kX, gD, gF, iM, iO, eN, eP, dC, dD, oW, zY, jZ, mU, eG, all_nil, sz]; rfl
 | scale k =>
  obtain ⟨h1, h2⟩ := h;simp! [Cmd.d, cH, oB, oC, iL, iN, eO, eQ, gC, gE, kW, kX, gD, gF, iM, iO, eN, eP, dC, dD, oW, zY, jZ, mU, eG, all_nil, CU, CT, decide_eq_true h1, decide_eq_true h2, sz];rfl
 | aim a b =>
  obtain ⟨⟨h1, h2⟩, h3, h4⟩ := h;simp! [Cmd.d, cH, oB, oC, iL, iN, eO, eQ, gC, gE, kW, kX, gD, gF, iM, iO, eN, eP, dC, dD, oW, zY, jZ, mU, eG, all_nil, CU, CT, decide_eq_true h1, decide_eq_true h2, decide_eq_true h3, decide_eq_true h4, sz];rfl
 | place a b =>
  obtain ⟨⟨h1, h2⟩, h3, h4⟩ := h;simp! [Cmd.d, cH, oB, oC, iL, iN, eO, eQ, gC, gE, kW, kX, gD, gF, iM, iO, eN, eP, dC, dD, oW, zY, jZ, mU, eG, all_nil, CU, CT, decide_eq_true h1, decide_eq_true h2, decide_eq_true h3, decide_eq_true h4, sz];rfl
 | mark => simp! [Cmd.d, cH, oB, oC, iL, iN, eO, eQ, gC, gE, kW, kX, gD, gF, iM, iO, eN, eP, dC, dD, oW, zY, jZ, mU, eG, all_nil, sz]; rfl
 | ret => simp! [Cmd.d, cH, oB, oC, iL, iN, eO, eQ, gC, gE, kW, kX, gD, gF, iM, iO, eN, eP, dC, dD, oW, zY, jZ, mU, eG, all_nil, sz]; rfl
 | exch => simp! [Cmd.d, cH, oB, oC, iL, iN, eO, eQ, gC, gE, kW, kX, gD, gF, iM, iO, eN, eP, dC, dD, oW, zY, jZ, mU, eG, all_nil, sz]; rfl
theorem mQ {z : Str} {r : List D} {S : aK} (h : eC true (.dat (.str z)) S = .ok (.dat (.bl true)) S) : gB [.dat (.tup (.str z :: r))] S = .ok (.dat (.bl false)) S := by
 rw [show gB [.dat (.tup (.str z :: r))] S = bQ (gG [some (.dat (.tup (.str z :: r))), none, none, none, none] S) from rfl]
 unfold gG iQ;simp! [cH, h];rw [decide_eq_false (by simp; omega)]
 simp! [cH, h];rfl
def Stt.blocks : Stt -> List (List Stt)
 | .keep b => [b]
 | .again b => [b]
 | .either a b => [a, b]
 | .call _ _ a b => [a, b]
 | _ => []
def bls (bs : List (List Stt)) : List D := bs.map fun b => .lst (bG b)
theorem uH {s : Stt} {S : aK} (ho : s.isOdd = false) : hY [.dat s.d] S = .ok (.dat (.lst (bls s.blocks))) S := by
 rw [show hY [.dat s.d] S = bQ (mF [some (.dat s.d), none] S) from rfl]
 unfold mF;cases s with
 | cmd c => cases c <;> (simp! [Stt.d, Cmd.d, cH]; rfl)
 | fin w => simp! [Stt.d, cH]; rfl
 | keep b => simp! [Stt.d, cH, pQ]; rfl
 | again b => simp! [Stt.d, cH, pQ]; rfl
 | either a b => simp! [Stt.d, cH, pQ, Ax]; rfl
 | call g s a b => simp! [Stt.d, cH, pQ, Ax, Ia]; rfl
 | bad => simp! [Stt.d, cH]; rfl
 | odd x => cases ho
theorem BS {s : Stt} {S : aK} (ho : s.isOdd = false) : jO [.dat s.d, .dat (.lst (bls s.blocks))] S = .ok (.dat s.d) S := by
 rw [show jO [.dat s.d, .dat (.lst (bls s.blocks))] S = bQ (jR [some (.dat s.d), some (.dat (.lst (bls s.blocks))), none] S) from rfl]
 unfold jR;cases s with
 | cmd c => cases c <;> (simp! [Stt.d, Cmd.d, cH]; rfl)
 | fin w => simp! [Stt.d, cH]; rfl
 | keep b => simp! [Stt.d, Stt.blocks, bls, aM, bC, cH, Ay]; rfl
 | again b => simp! [Stt.d, Stt.blocks, bls, aM, bC, cH, Ay]; rfl
 | either a b => simp! [Stt.d, Stt.blocks, bls, aM, bC, cH, Ay, GQ]; rfl
 | call g s a b => simp! [Stt.d, Stt.blocks, bls, aM, bC, cH, pQ, Ax]; rfl
 | bad => simp! [Stt.d, cH]; rfl
 | odd x => cases ho
def Stt.wf (lv : Int) : Stt -> Bool
 | .cmd _ => true
 | .fin _ => true
 | .bad => false
 | .odd _ => false
 | _ => !decide (lv = 3)
theorem isb {i : Int} (h : 0 <= i /\ i <= 1) : (decide (0 <= i) && decide (i <= 1)) = true := by simp [h.1, h.2]
theorem BU {s : Stt} {lv many : Int} {n : Nat} {S : aK} (h : s.Okx many n) : gM [.dat s.d, .dat (.int lv), .dat (.int many)] S = .ok (.dat (.bl (s.wf lv))) S := by
 by_cases ho : s.isOdd = true
 ·cases s <;> first | (cases ho; done) | exact h lv S
 rw [show gM [.dat s.d, .dat (.int lv), .dat (.int many)] S = bQ (jS [some (.dat s.d), some (.dat (.int lv)), some (.dat (.int many)), none] S) from rfl]
 unfold jS;cases s with
 | cmd c => simp! [Stt.d, LA h]; rfl
 | fin w => simp! [Stt.d, mQ Ig, cH, pQ, Es, isb h]; rfl
 | bad => simp! [Stt.d, mQ Ih]; rfl
 | odd x => exact absurd rfl ho
 | keep b =>
  by_cases hl : lv = 3
  ·simp! [Stt.d, mQ C5, cH, pQ, decide_eq_true hl]; simp [Stt.wf, hl]; rfl
  ·simp! [Stt.d, mQ C5, cH, pQ, decide_eq_false hl]; simp [Stt.wf, hl]; rfl
 | again b =>
  by_cases hl : lv = 3
  ·simp! [Stt.d, mQ A0, cH, pQ, decide_eq_true hl]; simp [Stt.wf, hl]; rfl
  ·simp! [Stt.d, mQ A0, cH, pQ, decide_eq_false hl]; simp [Stt.wf, hl]; rfl
 | either a b =>
  by_cases hl : lv = 3
  ·simp! [Stt.d, mQ xG, cH, pQ, Ax, decide_eq_true hl]; simp [Stt.wf, hl]; rfl
  ·simp! [Stt.d, mQ xG, cH, pQ, Ax, decide_eq_false hl]; simp [Stt.wf, hl]; rfl
 | call g b a c =>
  obtain ⟨⟨_, h1, h2⟩, _⟩ := h
  by_cases hl : lv = 3
  ·simp! [Stt.d, mQ C6, cH, pQ, Ax, Ia, decide_eq_true hl]; simp [Stt.wf, hl]; rfl
  ·simp! [Stt.d, mQ C6, cH, pQ, Ax, Ia, decide_eq_false hl, eG, decide_eq_true h1, decide_eq_true h2, Ay, GQ]; simp [Stt.wf, hl]; rfl
inductive FR where
 | fault (p : List Int) (m : Int) | okk (m : Int)
abbrev tupI (p : List Int) : D := .tup (p.map D.int)
def FR.d : FR -> D
 | .fault p m => .tup [tupI p, .int m]
 | .okk m => .tup [.non, .int m]
def FR.then (r : FR) (k : Int -> FR) : FR := match r with
 | .fault p m => .fault p m
 | .okk m => k m
mutual
/-- what stands in the blocks of s, at the path here -/
def A5 (lv : Int) (here : List Int) : Stt -> Int -> FR
 | .keep b, met => qW (lv + 1) (here ++ [0]) 0 b met
 | .again b, met => qW (lv + 1) (here ++ [0]) 0 b met
 | .either a b, met => (qW (lv + 1) (here ++ [0]) 0 a met).then (qW (lv + 1) (here ++ [1]) 0 b)
 | .call _ _ a b, met => (qW (lv + 1) (here ++ [0]) 0 a met).then (qW (lv + 1) (here ++ [1]) 0 b)
 | _, met => .okk met
def qW (lv : Int) (path : List Int) (at_ : Int) : List Stt -> Int -> FR
 | [], met => .okk met
 | s :: r, met => if at_ = 8 \/ met = 12 \/ s.wf lv = false then .fault (path ++ [at_]) met else
  (A5 lv (path ++ [at_]) s (met + 1)).then (qW lv path (at_ + 1) r)
end
def BJ (n : Nat) : Prop := ∀ {S : aK} {l : List Stt} {lv many met : Int} {path : List Int} {k : Nat}, vA many l k -> 0 <= lv -> lv <= 3 -> path.length <= 2 * lv.toNat -> 4 - lv.toNat <= n ->
 bR n [.dat (.lst (bG l)), .dat (.int lv), .dat (.int many), .dat (tupI path), .dat (.int met)] S = .ok (.dat (qW lv path 0 l met).d) S
theorem Ca {cl : Bool} {p : List Int} {i : Int} {S : aK} (h : p.length <= 100) : dY cl (.dat (tupI p)) (.dat (.tup [.int i])) S = .ok (.dat (tupI (p ++ [i]))) S := by
 rw [Lx (sz (by simp; omega))]
 simp [tupI]
theorem FR.then_okk {m : Int} {k : Int -> FR} : (FR.okk m).then k = k m := rfl
theorem FR.then_fault {p : List Int} {m : Int} {k : Int -> FR} : (FR.fault p m).then k = .fault p m := rfl
theorem ff_in {n : Nat} (ih : BJ n) {S : aK} {s : Stt} {lv many met : Int} {path : List Int} {k : Nat} {a b c : Option Vl} (h : s.Okx many k) (h0 : 0 <= lv) (h3 : lv < 3) (hp : path.length <= 2 * lv.toNat + 1) (hn : 4 - (lv + 1).toNat <= n) :
  loop (.tp [8, 9]) (dR (bR n)) (dG 0 (bls s.blocks)) [a, some (.dat (.int lv)), some (.dat (.int many)), b, some (.dat (.int met)), c, some (.dat s.d), some (.dat (tupI path)), none, none, none] S =
   match A5 lv path s met with
   | .fault p m => .ret (.dat (.tup [tupI p, .int m])) S
   | .okk m => .next [a, some (.dat (.int lv)), some (.dat (.int many)), b, some (.dat (.int m)), c, some (.dat s.d), some (.dat (tupI path)), none, none, none] S := by
 have turn : ∀ {l : List Stt} {met : Int} {i : Int}, vA many l (k - 1) -> bR n [.dat (.lst (bG l)), .dat (.int (lv + 1)), .dat (.int many), .dat (tupI (path ++ [i])), .dat (.int met)] S = .ok (.dat (qW (lv + 1) (path ++ [i]) 0 l met).d) S := fun hl => ih hl (by omega) (by omega) (by simp; omega) hn
 have one : ∀ {l : List Stt} {r : List D} {met : Int} {i : Int}, vA many l (k - 1) -> loop (.tp [8, 9]) (dR (bR n)) (.tup [.int i, .lst (bG l)] :: r) [a, some (.dat (.int lv)), some (.dat (.int many)), b, some (.dat (.int met)), c, some (.dat s.d), some (.dat (tupI path)), none, none, none] S =
   match qW (lv + 1) (path ++ [i]) 0 l met with
   | .fault p m => .ret (.dat (.tup [tupI p, .int m])) S
   | .okk m => loop (.tp [8, 9]) (dR (bR n)) r [a, some (.dat (.int lv)), some (.dat (.int many)), b, some (.dat (.int m)), c, some (.dat s.d), some (.dat (tupI path)), none, none, none] S := fun {l r met i} hl => by
  have e := turn (met := met) (i := i) hl;rw [loop];simp only [mU, uK, bE, bS, if_true, dA, cM];rw [dR];simp! [Ca (show path.length <= 100 by omega), e]
  cases q : qW (lv + 1) (path ++ [i]) 0 l met with
  | fault p m => simp! [FR.d, CF]
  | okk m => simp! [FR.d, CF]
 cases s with
 | cmd c => simp only [Stt.blocks, bls, bC, dG, loop, A5]
 | fin w => simp only [Stt.blocks, bls, bC, dG, loop, A5]
 | bad => simp only [Stt.blocks, bls, bC, dG, loop, A5]
 | odd w => simp only [Stt.blocks, bls, bC, dG, loop, A5]
 | keep x =>
  simp only [Stt.blocks, bls, bC, aM, dG, A5, qR, oE, sJ];rw [one h.2];cases qW (lv + 1) (path ++ [0]) 0 x met <;> rfl
 | again x =>
  simp only [Stt.blocks, bls, bC, aM, dG, A5, qR, oE, sJ];rw [one h.2];cases qW (lv + 1) (path ++ [0]) 0 x met <;> rfl
 | either x y =>
  simp only [Stt.blocks, bls, bC, aM, dG, A5, qR, oE, sJ];rw [one h.2.1];cases qW (lv + 1) (path ++ [0]) 0 x met with
  | fault p m => rfl
  | okk m =>
   simp only [FR.then_okk];rw [one h.2.2];cases qW (lv + 1) (path ++ [1]) 0 y m <;> rfl
 | call g f x y =>
  simp only [Stt.blocks, bls, bC, aM, dG, A5, qR, oE, sJ];rw [one h.2.1];cases qW (lv + 1) (path ++ [0]) 0 x met with
  | fault p m => rfl
  | okk m =>
   simp only [FR.then_okk];rw [one h.2.2];cases qW (lv + 1) (path ++ [1]) 0 y m <;> rfl
theorem HC {n : Nat} (ih : BJ n) {S : aK} {lv many : Int} {path : List Int} {k : Nat} {a : Option Vl} (h0 : 0 <= lv) (h3 : lv <= 3) (hp : path.length <= 2 * lv.toNat) (hn : 4 - (lv + 1).toNat <= n) :
  ∀ (l : List Stt) (at_ : Nat) (met : Int), vA many l k -> loop (.tp [5, 6]) (gT (bR n)) (dG at_ (bG l)) [a, some (.dat (.int lv)), some (.dat (.int many)), some (.dat (tupI path)), some (.dat (.int met)), none, none, none, none, none, none] S =
   match qW lv path (at_ : Nat) l met with
   | .fault p m => .ret (.dat (.tup [tupI p, .int m])) S
   | .okk m => .next [a, some (.dat (.int lv)), some (.dat (.int many)), some (.dat (tupI path)), some (.dat (.int m)), none, none, none, none, none, none] S
 | [], at_, met, _ => rfl
 | s :: r, at_, met, h => by
  have rest := HC ih (S := S) (many := many) (k := k) (a := a) h0 h3 hp hn r (at_ + 1);simp only [bG, dG];rw [loop];simp only [mU, uK, bE, bS, if_true, dA, cM];rw [gT];simp! [Ca (show path.length <= 100 by omega)]
  by_cases h8 : ((at_ : Nat) : Int) = 8
  ·simp! [decide_eq_true h8]
   unfold qW;rw [if_pos (.inl h8)]
  ·simp! [decide_eq_false h8]
   by_cases hm : met = 12
   ·simp! [decide_eq_true hm]
    unfold qW;rw [if_pos (.inr (.inl hm))]
   ·simp! [decide_eq_false hm, BU h.1]
    cases hw : s.wf lv with
    | false =>
     simp! [if_true];unfold qW;rw [if_pos (.inr (.inr hw))]
    | true =>
     have hlv : A5 lv (path ++ [((at_ : Nat) : Int)]) s (met + 1) = .okk (met + 1) /\ s.blocks = [] \/ lv < 3 := by
      cases s with
      | cmd c => exact .inl ⟨rfl, rfl⟩
      | fin w => exact .inl ⟨rfl, rfl⟩
      | bad => cases hw
      | odd x => cases hw
      | keep b => refine .inr ?_; simp [Stt.wf] at hw; omega
      | again b => refine .inr ?_; simp [Stt.wf] at hw; omega
      | either a b => refine .inr ?_; simp [Stt.wf] at hw; omega
      | call g f a b => refine .inr ?_; simp [Stt.wf] at hw; omega
     have ea : ∀ x y z : Option Vl, G8 (fun x y => x + y) 4 (mC (.int 1)) [a, some (.dat (.int lv)), some (.dat (.int many)), some (.dat (tupI path)), some (.dat (.int met)), x, y, z, none, none, none] S = .next [a, some (.dat (.int lv)), some (.dat (.int many)), some (.dat (tupI path)), some (.dat (.int (met + 1))), x, y, z, none, none, none] S := fun _ _ _ => rfl
     have e2 : qW lv path ((at_ : Nat) : Int) (s :: r) met = (A5 lv (path ++ [((at_ : Nat) : Int)]) s (met + 1)).then (qW lv path (((at_ + 1 : Nat) : Int)) r) := by
      rw [qW, if_neg (by rintro (h | h | h) <;> first | exact h8 h | exact hm h | (rw [hw] at h; cases h))]
      rfl
     rw [e2];have ho : s.isOdd = false := by cases s <;> first | rfl | (cases hw; done)
     simp! [ea, uH ho];rcases hlv with ⟨q1, q2⟩ | hlv
     ·rw [q1, q2]
      simp! [bls, bC, dG, loop, FR.then_okk];exact rest (met + 1) h.2
     ·rw [ff_in ih h.1 h0 hlv (by simp; omega) hn]
      cases q : A5 lv (path ++ [((at_ : Nat) : Int)]) s (met + 1) with
      | fault p m => simp! [FR.then_fault]
      | okk m =>
       simp! [FR.then_okk];exact rest m h.2
theorem CJ (n : Nat) : BJ n := by
 induction n with
 | zero =>
  intro S l lv many met path k hl h0 h3 hp hn;omega
 | succ n ih =>
  intro S l lv many met path k hl h0 h3 hp hn;rw [show bR (n + 1) [.dat (.lst (bG l)), .dat (.int lv), .dat (.int many), .dat (tupI path), .dat (.int met)] S = bQ (jT (bR n) [some (.dat (.lst (bG l))), some (.dat (.int lv)), some (.dat (.int many)), some (.dat (tupI path)), some (.dat (.int met)), none, none, none, none, none, none] S) from rfl]
  unfold jT;have e := HC ih (S := S) (a := some (.dat (.lst (bG l)))) h0 h3 hp (by omega) l 0 met hl
  rw [oE] at e;simp! [e];cases q : qW lv path 0 l met with
  | fault p m => simp! [if_true]; rfl
  | okk m => simp! [if_true]; rfl
theorem Bw {α : Type} {t : Tg} {e : FE} {ρ : Ev} {S : aK} {f g : α -> D} : ∀ {xs : List α}, (∀ x ∈ xs, ∃ ρ1, mU t (.dat (f x)) ρ = some ρ1 /\ e ρ1 S = .ok (.dat (g x)) S) -> jZ t fJ e ρ (xs.map f) S = .ok (xs.map g) S
 | [], _ => rfl
 | x :: xs, h => by
  obtain ⟨ρ1, h1, h2⟩ := h x (aY ..);have ih := Bw (xs := xs) fun y hy => h y (aU _ hy)
  rw [aM, jZ];simp only [h1, K1, h2, if_true, ih, aM]
theorem jQ {α : Type} {cl : Bool} {t : Tg} {e : FE} {ρ : Ev} {S : aK} {f g : α -> D} {xs : List α} {vs : List Nat} (hl : xs.length <= sizeLine) (h : ∀ x ∈ xs, ∃ ρ1, mU t (.dat (f x)) (wipeE ρ vs) = some ρ1 /\ e ρ1 S = .ok (.dat (g x)) S) : zY cl t fJ e ρ vs (xs.map f) S = newL cl (xs.map g) S := by
 unfold zY;rw [aQ, if_pos hl, Bw h]
theorem nA : ∀ l : List Stt, bG l = l.map Stt.d
 | [] => rfl
 | s :: r => by rw [bG, nA r]; rfl
theorem nG {many : Int} {s : Stt} {k : Nat} (h : s.Ok many k) : ∀ b ∈ s.blocks, 0 < k /\ OkL many b (k - 1) := by
 intro b hb;cases s with
 | cmd c => cases hb
 | fin w => cases hb
 | bad => cases hb
 | odd x => cases hb
 | keep x => simp [Stt.blocks] at hb; subst hb; exact h
 | again x => simp [Stt.blocks] at hb; subst hb; exact h
 | either x y => simp [Stt.blocks] at hb; rcases hb with rfl | rfl; exact ⟨h.1, h.2.1⟩; exact ⟨h.1, h.2.2⟩
 | call g f x y => simp [Stt.blocks] at hb; rcases hb with rfl | rfl; exact ⟨h.1.1, h.2.1⟩; exact ⟨h.1.1, h.2.2⟩
theorem OkL.mem {many : Int} : ∀ {l : List Stt} {k : Nat}, OkL many l k -> ∀ s ∈ l, s.Ok many k
 | [], _, _, s, hs => by cases hs
 | x :: r, k, h, s, hs => by
  rcases fK.mp hs with rfl | hs
  ·exact h.1.1
  ·exact OkL.mem h.2 s hs
theorem jJ {s : Stt} : s.blocks.length <= 2 := by cases s <;> simp [Stt.blocks]
def MM (n : Nat) : Prop := (∀ {S : aK} {many : Int} {s : Stt} {k : Nat}, s.Ok many k -> 2 * k + 1 <= n -> eM n [.dat s.d] S = .ok (.dat s.d) S) /\ ∀ {S : aK} {many : Int} {l : List Stt} {k : Nat}, OkL many l k -> 2 * k + 2 <= n -> cY n [.dat (.lst (bG l))] S = .ok (.dat (.lst (bG l))) S
theorem JY (n : Nat) : MM n := by
 induction n with
 | zero => exact ⟨fun _ h => by omega, fun _ h => by omega⟩
 | succ n ih =>
  constructor
  ·intro S many s k h hn
   rw [show eM (n + 1) [.dat s.d] S = bQ (eR (cY n) [some (.dat s.d), none] S) from rfl]
   unfold eR;simp! [uH h.no];rw [show bls s.blocks = s.blocks.map (fun b => .lst (bG b)) from rfl, jQ (g := fun b => .lst (bG b)) (sz (by have := jJ (s := s); omega)) fun b hb => ⟨_, rfl, ?_⟩]
   ·simp! [show s.blocks.map (fun b => D.lst (bG b)) = bls s.blocks from rfl, BS h.no]
    rfl
   ·obtain ⟨h1, h2⟩ := nG h b hb
    simp! [ih.2 h2 (by omega)]
  ·intro S many l k h hn
   rw [show cY (n + 1) [.dat (.lst (bG l))] S = bQ (iS (eM n) [some (.dat (.lst (bG l))), none] S) from rfl]
   unfold iS;simp! [nA];rw [jQ (g := Stt.d) (sz (by have := h.len; omega)) fun s hs => ⟨_, rfl, ?_⟩]
   ·rfl
   ·simp! [ih.1 (h.mem s hs) (by omega)]
theorem Cb {s : Stt} {S : aK} (ho : s.isOdd = false) : lH [.dat s.d] S = .ok (.dat (.lst (bls s.blocks))) S := by
 rw [show lH [.dat s.d] S = bQ (oJ [some (.dat s.d), none] S) from rfl]
 unfold oJ;cases s with
 | cmd c => cases c <;> (simp! [Stt.d, Cmd.d, cH, oW, zY, jZ, mU, sz]; rfl)
 | fin w => simp! [Stt.d, cH, oW, zY, jZ, mU, sz]; rfl
 | keep b => simp! [Stt.d, cH, oW, zY, jZ, mU, sz]; rfl
 | again b => simp! [Stt.d, cH, oW, zY, jZ, mU, sz]; rfl
 | either a b => simp! [Stt.d, cH, oW, zY, jZ, mU, sz]; rfl
 | call g s a b => simp! [Stt.d, cH, Ia]; rfl
 | bad => simp! [Stt.d, cH, oW, zY, jZ, mU, sz]; rfl
 | odd x => cases ho
theorem K5 {a b c d : D} : cutD [a, b, c, d] none (some 3) = [a, b, c] := rfl
theorem MK {s : Stt} {S : aK} (ho : s.isOdd = false) : sE [.dat s.d, .dat (.lst (bls s.blocks))] S = .ok (.dat s.d) S := by
 rw [show sE [.dat s.d, .dat (.lst (bls s.blocks))] S = bQ (sV [some (.dat s.d), some (.dat (.lst (bls s.blocks)))] S) from rfl]
 unfold sV;cases s with
 | cmd c => cases c <;> (simp! [Stt.d, Cmd.d, Stt.blocks, bls, bC, cH]; rfl)
 | fin w => simp! [Stt.d, Stt.blocks, bls, bC, cH]; rfl
 | keep b => simp! [Stt.d, Stt.blocks, bls, aM, bC, cH]; rfl
 | again b => simp! [Stt.d, Stt.blocks, bls, aM, bC, cH]; rfl
 | either a b => simp! [Stt.d, Stt.blocks, bls, aM, bC, cH]; rfl
 | call g s a b => simp! [Stt.d, Stt.blocks, bls, aM, bC, cH, K5]; rfl
 | bad => simp! [Stt.d, Stt.blocks, bls, bC, cH]; rfl
 | odd x => cases ho
theorem ML {many : Int} (n : Nat) : ∀ {S : aK} {l : List Stt} {k : Nat}, OkL many l k -> k + 1 <= n -> mZ n [.dat (.lst (bG l))] S = .ok (.dat (.lst (bG l))) S := by
 induction n with
 | zero => intro S l k h hn; omega
 | succ n ih =>
  intro S l k h hn;rw [show mZ (n + 1) [.dat (.lst (bG l))] S = bQ (sZ (mZ n) [some (.dat (.lst (bG l))), none, none] S) from rfl]
  unfold sZ;simp! [nA];rw [jQ (g := Stt.d) (sz (by have := h.len; omega)) fun s hs => ⟨_, rfl, ?_⟩]
  ·rfl
  ·unfold rN
   simp! [Cb (h.mem s hs).no];rw [show bls s.blocks = s.blocks.map (fun b => .lst (bG b)) from rfl, jQ (g := fun b => .lst (bG b)) (sz (by have := jJ (s := s); omega)) fun b hb => ⟨_, rfl, ?_⟩]
   ·simp! [show s.blocks.map (fun b => D.lst (bG b)) = bls s.blocks from rfl, MK (h.mem s hs).no]
   ·obtain ⟨h1, h2⟩ := nG (h.mem s hs) b hb
    simp! [ih h2 (by omega)]
theorem yH {many : Int} {bs : List (List Stt)} {S : aK} {k : Nat} (hb : ∀ b ∈ bs, OkL many b k) (hk : k <= 9) (hl : bs.length <= 10) : jG [.dat (.lst (bls bs))] S = .ok (.dat (.lst (bls bs))) S := by
 rw [show jG [.dat (.lst (bls bs))] S = bQ (oI [some (.dat (.lst (bls bs))), none] S) from rfl]
 unfold oI;simp! [if_true];rw [show bls bs = bs.map (fun b => .lst (bG b)) from rfl, jQ (g := fun b => .lst (bG b)) (sz (by omega)) fun b hb' => ⟨_, rfl, ?_⟩]
 ·rfl
 ·simp! [ML 10 (hb b hb') (by omega)]
def rD (p : Int) : List (List Stt) -> Option (Int × List Int)
 | [] => none
 | b :: r => match qW 0 [] 0 b 0 with
  | .fault q _ => some (p, q)
  | .okk _ => rD (p + 1) r
def G4 (i : Int) (q : List Int) : Er := ⟨"NoBook", ["path", "procedure"], [tupI q, .int i]⟩
theorem A1 {S : aK} {many : Int} {k : Nat} {a : Option Vl} {bs0 : List D} (hm : many = (bs0.length : Int)) : ∀ (bs : List (List Stt)) (p : Nat), (∀ b ∈ bs, OkL many b k) ->
  match rD (p : Nat) bs with
  | none => loop (.tp [2, 3]) cQ (dG p (bls bs)) [a, some (.dat (.lst bs0)), none, none, none, none] S = .next [a, some (.dat (.lst bs0)), none, none, none, none] S
  | some (i, q) => ∃ ρ', loop (.tp [2, 3]) cQ (dG p (bls bs)) [a, some (.dat (.lst bs0)), none, none, none, none] S = .err (G4 i q) ρ' S
 | [], p, _ => rfl
 | b :: r, p, h => by
  have ih := A1 (S := S) (k := k) (a := a) hm r (p + 1) fun b hb => h b (aU _ hb)
  have hb := h b (aY ..);have e1 : bR 10 [.dat (.lst (bG b)), .dat (.int 0), .dat (.int (bs0.length : Int)), .dat (.tup []), .dat (.int 0)] S = .ok (.dat (qW 0 [] 0 b 0).d) S := by
   rw [<- hm];exact CJ 10 (path := []) hb.x (by omega) (by omega) (by simp) (by simp)
  have el : loop (.tp [2, 3]) cQ (dG p (bls (b :: r))) [a, some (.dat (.lst bs0)), none, none, none, none] S = (match cQ [a, some (.dat (.lst bs0)), some (.dat (.int (p : Nat))), some (.dat (.lst (bG b))), none, none] S with
   | .next ρ2 S2 => loop (.tp [2, 3]) cQ (dG (p + 1) (bls r)) ρ2 S2
   | .cnt ρ2 S2 => loop (.tp [2, 3]) cQ (dG (p + 1) (bls r)) ρ2 S2
   | .brk ρ2 S2 => .next ρ2 S2
   | .ret d S2 => .ret d S2
   | .err e ρ2 S2 => .err e ρ2 S2
   | .stuck => .stuck) := rfl
  rw [el, cQ];simp! [e1];rw [rD];cases q : qW 0 [] 0 b 0 with
  | fault pp mm =>
   simp! [FR.d, CF];exact ⟨_, rfl⟩
  | okk mm =>
   simp! [FR.d, CF];rw [<- cQ];exact ih
def eD (bs : List (List Stt)) : D := .ins "Book" ["own"] [.lst (bls bs)]
theorem Ct {d : Vl} : ∀ {ρ : Ev} {i : Nat}, i < ρ.length -> lk (ρ.set i (some d)) i = some d
 | [], i, h => by simp at h
 | x :: r, 0, h => rfl
 | x :: r, i + 1, h => Ct (ρ := r) (by simpa using h)
theorem zD {ρ : Ev} {i : Nat} : (wipeE ρ [i]).length = ρ.length := by simp [wipeE]
theorem rC {cl : Bool} {S : aK} {many : Int} {k i : Nat} {bs : List (List Stt)} {ρ : Ev} (hb : ∀ b ∈ bs, OkL many b k) (hk : k <= 9) (hl : bs.length <= 10) (h : i < ρ.length) : zY cl (.nm i) fJ (aR (cY 20) (aC (aE i) aL)) ρ [i] (bls bs) S = newL cl (bls bs) S := by
 rw [show bls bs = bs.map (fun b => .lst (bG b)) from rfl, jQ (g := fun b => .lst (bG b)) (sz (by omega)) fun b hb' => ?_]
 have e2 := Ct (d := .dat (.lst (bG b))) (ρ := wipeE ρ [i]) (i := i) (by rw [zD]; exact h)
 refine ⟨(wipeE ρ [i]).set i (some (.dat (.lst (bG b)))), rfl, ?_⟩
 simp (config := { implicitDefEqProofs := false }) only [DF, DE, GW, e2, tW, B4, Gc, B3];exact (JY 20).2 (hb b hb') (by omega)
theorem Ii {S : aK} {many : Int} {k n : Nat} {bs : List (List Stt)} (hb : ∀ b ∈ bs, OkL many b k) (hk : k <= 9) (hm : many = (bs.length : Int)) (h1 : 1 <= bs.length) (h3 : bs.length <= 3) (hn : S[n]? = some (.ins "Book" [])) :
  fQ [.cel n, .dat (.lst (bls bs))] S = match rD 0 bs with
   | none => .ok (.dat .non) (S.set n (.ins "Book" [("own", .dat (.lst (bls bs)))]))
   | some (i, q) => .err (G4 i q) S := by
 rw [show fQ [.cel n, .dat (.lst (bls bs))] S = bQ (mI [some (.cel n), some (.dat (.lst (bls bs))), none, none, none, none] S) from rfl]
 unfold mI;have hl : (bls bs).length = bs.length := by simp [bls]
 have e := A1 (S := S) (a := some (.cel n)) (bs0 := bls bs) (by rw [hl]; exact hm) bs 0 hb
 rw [oE] at e;simp! [hl, decide_eq_true (show (1 : Int) <= (bs.length : Int) by omega), decide_eq_true (show (bs.length : Int) <= 3 by omega)]
 cases q : rD 0 bs with
 | none =>
  rw [q] at e;simp! [e, rC hb hk (show bs.length <= 10 by omega), CA hn (by simp)]
  rfl
 | some x =>
  obtain ⟨i, p⟩ := x;rw [q] at e;obtain ⟨ρ', e⟩ := e;simp! [e];rfl
theorem Kq {S : aK} {bs : List (List Stt)} (hl : bs.length <= 10) : A9 "Book" lI (.dat (eD bs)) S = .ok (.dat (.int (bs.length : Int))) S := by
 have e : lI [.dat (eD bs)] S = .ok (.dat (.int (bs.length : Int))) S := by
  rw [show lI [.dat (eD bs)] S = bQ (oL [some (.dat (eD bs))] S) from rfl]
  unfold oL eD;simp! [fD, cO];simp [bls];rfl
 rw [A9, if_pos (by simp [jB, eD, Ab]), e, Kr, if_pos (by omega)]
theorem AR {S : aK} {many : Int} {k : Nat} {bs : List (List Stt)} (hb : ∀ b ∈ bs, OkL many b k) (hk : k <= 9) (hl : bs.length <= 10) : gO [.dat (eD bs)] S = .ok (.dat (.lst (bls bs))) S := by
 rw [show gO [.dat (eD bs)] S = bQ (jW [some (.dat (eD bs)), none] S) from rfl]
 unfold jW eD;simp! [fD, cO, rC hb hk hl];rfl
end PH
namespace PH
open PySem PySem.Spec PyProof PyProof.Rows L2
mutual
/-- the height -/
def D.ht : D -> Nat
 | .lst xs => D.hts xs + 1
 | .tup xs => D.hts xs + 1
 | _ => 0
def D.hts : List D -> Nat
 | [] => 0
 | x :: r => max (D.ht x) (D.hts r)
end
mutual
/-- no instances, no dicts; texts that may be compared -/
def D.Pl : D -> Prop
 | .lst xs => xs.length <= 1000 /\ D.Pls xs
 | .tup xs => xs.length <= 1000 /\ D.Pls xs
 | .str x => PyData.strOk x = true
 | .ins _ _ _ => False
 | .dct => False
 | .opq _ => False
 | _ => True
def D.Pls : List D -> Prop
 | [] => True
 | x :: r => D.Pl x /\ D.Pls r
end
mutual
theorem Dq : ∀ d : D, d.Pl -> ∃ p, d.py = some p /\ p.canLay0 = true /\ p.depth = d.ht
 | .non, _ => ⟨_, rfl, rfl, rfl⟩
 | .bl b, _ => ⟨_, rfl, rfl, rfl⟩
 | .int i, _ => ⟨_, rfl, rfl, rfl⟩
 | .str x, h => ⟨_, rfl, h, rfl⟩
 | .lst xs, h => by
  obtain ⟨ps, e1, e2, e3⟩ := Cp xs h.2;refine ⟨.list ps, ?_, e2, ?_⟩
  ·simp only [D.py, e1]
  ·simp only [PyData.depth, D.ht, e3]
 | .tup xs, h => by
  obtain ⟨ps, e1, e2, e3⟩ := Cp xs h.2;refine ⟨.tuple ps, ?_, e2, ?_⟩
  ·simp only [D.py, e1]
  ·simp only [PyData.depth, D.ht, e3]
 | .ins _ _ _, h => h.elim
 | .dct, h => h.elim
 | .opq _, h => h.elim
theorem Cp : ∀ ds : List D, D.Pls ds -> ∃ ps, D.pys ds = some ps /\ PyData.canLayAll0 ps = true /\ PyData.depthAll ps = D.hts ds
 | [], _ => ⟨_, rfl, rfl, rfl⟩
 | d :: r, h => by
  obtain ⟨p, e1, e2, e3⟩ := Dq d h.1;obtain ⟨ps, f1, f2, f3⟩ := Cp r h.2;refine ⟨p :: ps, ?_, ?_, ?_⟩
  ·simp only [D.pys, e1, f1]
  ·simp only [PyData.canLayAll0, e2, f2, Bool.and_self]
  ·simp only [PyData.depthAll, D.hts, e3, f3]
end
theorem qG {d : D} {p : PyData} (h : d.Pl) (hd : d.ht <= 64) (e : d.py = some p) : SeqAt.shaped p = true := by
 obtain ⟨p', e1, e2, e3⟩ := Dq d h;rw [e] at e1;cases e1;unfold SeqAt.shaped;rw [e2, e3, decide_eq_true hd];rfl
mutual
theorem Stt.plain {many : Int} : ∀ (s : Stt) (k : Nat), s.Ok many k -> s.d.Pl /\ s.d.ht <= 3 * k + 1
 | .cmd c, k, h => by cases c <;> exact ⟨⟨by simp, by simp only [D.Pl, D.Pls, and_true]; decide +kernel⟩, by simp [Stt.d, Cmd.d, D.ht, D.hts]⟩
 | .fin w, k, h => ⟨⟨by simp, by simp only [D.Pl, D.Pls, and_true]; decide +kernel⟩, by simp [Stt.d, D.ht, D.hts]⟩
 | .bad, k, h => ⟨⟨by simp, by simp only [D.Pl, D.Pls, and_true]; decide +kernel⟩, by simp [Stt.d, D.ht, D.hts]⟩
 | .odd x, k, h => h.elim
 | .keep b, k, h => by
  obtain ⟨h1, h2⟩ := fU b (k - 1) h.2;have l1 := h.2.len;have := h.1;exact ⟨⟨by simp, by show PyData.strOk _ = true; decide +kernel, ⟨by rw [cK]; omega, h1⟩, trivial⟩, by simp [Stt.d, D.ht, D.hts]; omega⟩
 | .again b, k, h => by
  obtain ⟨h1, h2⟩ := fU b (k - 1) h.2;have l1 := h.2.len;have := h.1;exact ⟨⟨by simp, by show PyData.strOk _ = true; decide +kernel, ⟨by rw [cK]; omega, h1⟩, trivial⟩, by simp [Stt.d, D.ht, D.hts]; omega⟩
 | .either a b, k, h => by
  obtain ⟨h1, h2⟩ := fU a (k - 1) h.2.1;obtain ⟨h3, h4⟩ := fU b (k - 1) h.2.2;have l1 := h.2.1.len;have l2 := h.2.2.len;have := h.1;exact ⟨⟨by simp, by show PyData.strOk _ = true; decide +kernel, ⟨by rw [cK]; omega, h1⟩, ⟨by rw [cK]; omega, h3⟩, trivial⟩, by simp [Stt.d, D.ht, D.hts]; omega⟩
 | .call g f a b, k, h => by
  obtain ⟨h1, h2⟩ := fU a (k - 1) h.2.1;obtain ⟨h3, h4⟩ := fU b (k - 1) h.2.2;have l1 := h.2.1.len;have l2 := h.2.2.len;have := h.1.1;exact ⟨⟨by simp, by show PyData.strOk _ = true; decide +kernel, trivial, trivial, ⟨by simp, ⟨by rw [cK]; omega, h1⟩, ⟨by rw [cK]; omega, h3⟩, trivial⟩, trivial⟩, by simp [Stt.d, D.ht, D.hts]; omega⟩
theorem fU {many : Int} : ∀ (l : List Stt) (k : Nat), OkL many l k -> D.Pls (bG l) /\ D.hts (bG l) <= 3 * k + 1
 | [], k, _ => ⟨trivial, by simp [bG, D.hts]⟩
 | s :: r, k, h => by
  obtain ⟨h1, h2⟩ := Stt.plain s k h.1.1;obtain ⟨h3, h4⟩ := fU r k h.2;exact ⟨⟨h1, h3⟩, by simp [bG, D.hts]; omega⟩
end
theorem pR : ∀ {xs : List D} {x : D}, x ∈ xs -> x.ht <= D.hts xs
 | y :: r, x, h => by
  rcases fK.mp h with rfl | h
  ·simp [D.hts]; omega
  ·have := pR h; simp [D.hts]; omega
theorem wM : ∀ {xs : List D} {x : D}, D.Pls xs -> x ∈ xs -> x.Pl
 | y :: r, x, hp, h => by
  rcases fK.mp h with rfl | h
  ·exact hp.1
  ·exact wM hp.2 h
theorem all_true {α : Type} {S : aK} (xs : List α) : uY (.dat (.lst (xs.map fun _ => D.bl true))) S = .ok (.dat (.bl true)) S := by
 have : ∀ xs : List α, tF (xs.map fun _ => D.bl true) = some (xs.map fun _ => true) := fun xs => by
  induction xs with
  | nil => rfl
  | cons x r ih => simp only [aM, tF, ih]
 simp only [uY, lO, this]
 congr 3
 simp
theorem EG {S : aK} : eK (.dat .non) (.dat .non) S = .ok (.dat (.bl true)) S := by
 show (if KM .none .none = true then Res.ok (Vl.dat (D.bl (PyData.eqv .none .none))) S else .stuck) = _
 rw [if_pos (by decide +kernel)]
 rfl
theorem Dh {n : Nat} {xs : List D} {S : aK} {f : FD} {i : Nat} {x y : D} (hx : xs[i]? = some x) (ex : cV (.dat y) (.dat (.int (0 + (i : Int)))) S = .ok (.dat x) S) (h : f [.dat x, .dat x] S = .ok (.dat (.bl true)) S) : hJ f [some (.dat y), some (.dat y), some (.dat (.int (0 + (i : Int))))] S = .ok (.dat (.bl true)) S := by
 unfold hJ;simp! [ex, h]
theorem Hz (n : Nat) : ∀ {S : aK} {d : D}, d.Pl -> d.ht < n -> fM n [.dat d, .dat d] S = .ok (.dat (.bl true)) S := by
 induction n with
 | zero => intro S d _ h; omega
 | succ n ih =>
  intro S d hp hd;rw [show fM (n + 1) [.dat d, .dat d] S = bQ (nI (fM n) [some (.dat d), some (.dat d), none] S) from rfl]
  unfold nI;cases d with
  | non => simp! [EG]; rfl
  | bl b => simp! [if_true]; rfl
  | int i => simp! [if_true]; rfl
  | str x => simp! [if_true]; rfl
  | ins _ _ _ => exact hp.elim
  | dct => exact hp.elim
  | opq _ => exact hp.elim
  | lst xs =>
   have hl := hp.1;simp! [oD (show -(2 ^ 62) <= (xs.length : Int) by omega) (show (xs.length : Int) < 2 ^ 62 by omega), oU, oM]
   rw [jQ (g := fun _ => D.bl true) (sz (by simp; omega)) fun i hi => ⟨_, rfl, ?_⟩]
   ·simp! [if_true]
    rw [all_true];rfl
   ·have hi' : i < xs.length := BO.mp hi
    have hx : xs[i]? = some xs[i] := bA hi';have hm : xs[i] ∈ xs := dN hi';have := pR hm;have hd' : D.hts xs + 1 < n + 1 := hd;exact Dh (n := n) hx (CB (by rw [eU (n := i) (by omega), hx])) (ih (wM hp.2 hm) (by omega))
  | tup xs =>
   have hl := hp.1;simp! [oD (show -(2 ^ 62) <= (xs.length : Int) by omega) (show (xs.length : Int) < 2 ^ 62 by omega), oU, oM]
   rw [jQ (g := fun _ => D.bl true) (sz (by simp; omega)) fun i hi => ⟨_, rfl, ?_⟩]
   ·simp! [if_true]
    rw [all_true];rfl
   ·have hi' : i < xs.length := BO.mp hi
    have hx : xs[i]? = some xs[i] := bA hi';have hm : xs[i] ∈ xs := dN hi';have := pR hm;have hd' : D.hts xs + 1 < n + 1 := hd;exact Dh (n := n) hx (A4 (by rw [eU (n := i) (by omega), hx])) (ih (wM hp.2 hm) (by omega))
theorem Fs {lo : Int} {n : Nat} : oU lo (n + 1) = .int lo :: oU (lo + 1) n := by
 unfold oU;rw [Da, aM, gR]
 congr 1
 ·simp
 ·apply tH
  intro k _;simp only [Function.comp]
  congr 1
  omega
abbrev rm (S : aK) (q : Nat) (m : Int) : aK := S.set q (.lst [.int m])
theorem ER {bs : List (List Stt)} : (bls bs).length = bs.length := by simp [bls]
theorem HM {ns : List Int} {lo hi : Option Int} : ∃ ms : List Int, cutD (ns.map D.int) lo hi = ms.map D.int /\ ms.length <= ns.length := by
 refine ⟨(ns.drop (HT.sIx (ns.map D.int).length 0 lo)).take (HT.sIx (ns.map D.int).length (ns.map D.int).length hi - HT.sIx (ns.map D.int).length 0 lo), ?_, ?_⟩
 ·simp only [cutD, List.map_take, List.map_drop]
 ·simp; omega
theorem IF {ns : List Int} {S : aK} (hn : ns.length <= 63) : ∃ ks : List Int, sF [.scr ns] S = .ok (.cel S.length) (S ++ [PL ks]) /\ 2 <= ks.length := by
 obtain ⟨ms, e, hl⟩ := HM (ns := ns) (lo := none) (hi := some 63);rw [show sF [.scr ns] S = bQ (sW [some (.scr ns), none] S) from rfl]
 unfold sW;simp! [e];rw [jQ (g := D.int) (sz (by omega)) fun i hi => ⟨_, rfl, ?_⟩]
 ·cases ms with
  | nil =>
   refine ⟨[0, 0], ?_, by simp⟩
   simp! [bC, List.isEmpty_nil, jH (show [D.int 0].length + [D.int 0].length <= sizeLine from sz (by simp))]
   rfl
  | cons i r =>
   refine ⟨0 :: i :: r, ?_, by simp⟩
   simp! [aM, List.isEmpty_cons, jH (show [D.int 0].length + (D.int i :: r.map D.int).length <= sizeLine from sz (by simp at *; omega))]
   rfl
 ·simp! [if_true]
theorem Fh {T : aK} {d : D} : trunc 0 (.ok (.dat d) T) = .ok (.dat d) [] := by simp [trunc, Vl.below]
theorem AS {many : Int} : ∀ {bs : List (List Stt)} {k : Nat}, (∀ b ∈ bs, OkL many b k) -> D.Pls (bls bs) /\ D.hts (bls bs) <= 3 * k + 2
 | [], k, _ => ⟨trivial, by simp [bls, D.hts]⟩
 | b :: r, k, h => by
  obtain ⟨h1, h2⟩ := AS (bs := r) (k := k) fun b hb => h b (aU _ hb)
  have hb := h b (aY ..);obtain ⟨h3, h4⟩ := fU b k hb;have := hb.len;refine ⟨⟨⟨by rw [cK]; omega, h3⟩, h1⟩, ?_⟩
  simp only [bls] at h2;simp only [bls, aM, D.hts, D.ht];omega
structure Dr (p q c N : Nat) (many : Int) (S : aK) (r l : Int) : Prop where
 ls : LS S
 n2 : 2 <= N
 pool : ∃ ks, S[p]? = some (PL ks) /\ ks.length = N
 room : S[q]? = some (PL [r])
 call : S[c]? = some (PL [l, many])
 pq : p ≠ q
 pc : p ≠ c
 qc : q ≠ c
def Sam (Z : List Nat) (S S' : aK) : Prop := S'.length = S.length /\ ∀ i : Nat, i ∉ Z -> S'[i]? = S[i]?
theorem Sam.refl {Z : List Nat} {S : aK} : Sam Z S S := ⟨rfl, fun _ _ => rfl⟩
theorem Sam.trans {Z : List Nat} {S S1 S2 : aK} (a : Sam Z S S1) (b : Sam Z S1 S2) : Sam Z S S2 := ⟨by rw [b.1, a.1], fun i h => by rw [b.2 i h, a.2 i h]⟩
theorem Sam.set {Z : List Nat} {S : aK} {k : Nat} {x : Cell} (h : k ∈ Z) : Sam Z S (S.set k x) := ⟨by simp, fun i hi => by
 rw [aV, if_neg (show ¬ k = i from fun e => hi (by rw [<- e]; exact h))]⟩
section
variable {p q c N : Nat} {many r l : Int} {S : aK}
theorem kG {S : aK} {i j : Nat} {x : Cell} (h : i ≠ j) : (S.set i x)[j]? = S[j]? := by rw [aV, if_neg h]
theorem Dr.setp {ks : List Int} (D : Dr p q c N many S r l) (h : ks.length = N) : Dr p q c N many (S.set p (PL ks)) r l := by
 obtain ⟨k0, h0, _⟩ := D.pool;exact ⟨D.ls.set, D.n2, ⟨ks, nK h0, h⟩, by rw [kG D.pq]; exact D.room, by rw [kG D.pc]; exact D.call, D.pq, D.pc, D.qc⟩
theorem Dr.setq {r' : Int} (D : Dr p q c N many S r l) : Dr p q c N many (S.set q (PL [r'])) r' l := by
 obtain ⟨k0, h0, h1⟩ := D.pool;exact ⟨D.ls.set, D.n2, ⟨k0, by rw [kG (Ne.symm D.pq)]; exact h0, h1⟩, nK D.room, by rw [kG D.qc]; exact D.call, D.pq, D.pc, D.qc⟩
theorem Dr.setc {l' : Int} (D : Dr p q c N many S r l) : Dr p q c N many (S.set c (PL [l', many])) r l' := by
 obtain ⟨k0, h0, h1⟩ := D.pool;exact ⟨D.ls.set, D.n2, ⟨k0, by rw [kG (Ne.symm D.pc)]; exact h0, h1⟩, by rw [kG (Ne.symm D.qc)]; exact D.room, nK D.call, D.pq, D.pc, D.qc⟩
theorem Dr.draw {k : Int} (D : Dr p q c N many S r l) (h0 : 0 < k) (h1 : k < 1073741824) : ∃ (d : Int) (S' : aK), bK [.cel p, .dat (.int k)] S = .ok (.dat (.int d)) S' /\ 0 <= d /\ d < k /\ Dr p q c N many S' r l /\ Sam [p, q, c] S S' := by
 obtain ⟨ks, hk, hl⟩ := D.pool;obtain ⟨d, ks', e, h2, h3, l⟩ := fE (S := S) (p := p) (ks := ks) ⟨hk, by rw [hl]; exact D.n2⟩ h0 h1
 exact ⟨d, _, e, h2, h3, D.setp (by omega), Sam.set (by simp)⟩
theorem Dr.ixq (D : Dr p q c N many S r l) : cV (.cel q) (.dat (.int 0)) S = .ok (.dat (.int r)) S := qJ (k := 0) (n := 0) D.room rfl rfl
theorem Dr.ixc0 (D : Dr p q c N many S r l) : cV (.cel c) (.dat (.int 0)) S = .ok (.dat (.int l)) S := qJ (k := 0) (n := 0) D.call rfl rfl
theorem Dr.ixc1 (D : Dr p q c N many S r l) : cV (.cel c) (.dat (.int 1)) S = .ok (.dat (.int many)) S := qJ (k := 1) (n := 1) D.call rfl rfl
theorem Dr.augq {w : Int} {g : Int -> Int -> Int} {o i e : FE} {ρ : Ev} (D : Dr p q c N many S r l) (ho : o ρ S = .ok (.cel q) S) (hi : i ρ S = .ok (.dat (.int 0)) S) (he : e ρ S = .ok (.dat (.int w)) S) : iK g o i e ρ S = .next ρ (S.set q (PL [g r w])) := yB (k := 0) (n := 0) ho hi he D.room rfl rfl
theorem Dr.augc {w : Int} {g : Int -> Int -> Int} {o i e : FE} {ρ : Ev} (D : Dr p q c N many S r l) (ho : o ρ S = .ok (.cel c) S) (hi : i ρ S = .ok (.dat (.int 0)) S) (he : e ρ S = .ok (.dat (.int w)) S) : iK g o i e ρ S = .next ρ (S.set c (PL [g l w, many])) := yB (k := 0) (n := 0) ho hi he D.call rfl rfl
end
section
variable {S : aK} {cl : Bool} {a b c d e f g h i j : D}
theorem kLst4 : Au cl [.dat a, .dat b, .dat c, .dat d] S = newL cl [a, b, c, d] S := rfl
theorem kLst5 : Au cl [.dat a, .dat b, .dat c, .dat d, .dat e] S = newL cl [a, b, c, d, e] S := rfl
theorem kLst9 : Au cl [.dat a, .dat b, .dat c, .dat d, .dat e, .dat f, .dat g, .dat h, .dat i] S = newL cl [a, b, c, d, e, f, g, h, i] S := rfl
theorem kTup8 : kTup [.dat a, .dat b, .dat c, .dat d, .dat e, .dat f, .dat g, .dat h] S = .ok (.dat (.tup [a, b, c, d, e, f, g, h])) S := rfl
end
def menus : List (List Int) := [[0, 0, 0, 1, 1], [0, 0, 2, 3, 1], [0, 6, 7, 8, 8], [0, 4, 5, 6, 7], [0, 1, 3, 6, 8], [0, 1, 2, 3, 4, 5, 6, 7, 8], [1, 1, 2, 3, 4], [5, 6, 7, 8, 8]]
def G5 : List D := menus.map fun ks => .lst (ks.map D.int)
theorem IQ {mood : Int} {S : aK} (h0 : 0 <= mood) (h1 : mood <= 7) : ∃ ks : List Int, cV (.dat (.lst G5)) (.dat (.int mood)) S = .ok (.dat (.lst (ks.map D.int))) S /\ 0 < ks.length /\ ks.length <= 9 /\ ∀ k ∈ ks, 0 <= k /\ k <= 8 := by
 rcases (by omega : mood = 0 \/ mood = 1 \/ mood = 2 \/ mood = 3 \/ mood = 4 \/ mood = 5 \/ mood = 6 \/ mood = 7) with rfl | rfl | rfl | rfl | rfl | rfl | rfl | rfl
 ·exact ⟨[0, 0, 0, 1, 1], rfl, by decide, by decide, by decide⟩
 ·exact ⟨[0, 0, 2, 3, 1], rfl, by decide, by decide, by decide⟩
 ·exact ⟨[0, 6, 7, 8, 8], rfl, by decide, by decide, by decide⟩
 ·exact ⟨[0, 4, 5, 6, 7], rfl, by decide, by decide, by decide⟩
 ·exact ⟨[0, 1, 3, 6, 8], rfl, by decide, by decide, by decide⟩
 ·exact ⟨[0, 1, 2, 3, 4, 5, 6, 7, 8], rfl, by decide, by decide, by decide⟩
 ·exact ⟨[1, 1, 2, 3, 4], rfl, by decide, by decide, by decide⟩
 ·exact ⟨[5, 6, 7, 8, 8], rfl, by decide, by decide, by decide⟩
theorem IZ {ks : List Int} {d : Int} {S : aK} (h0 : 0 <= d) (h1 : d < (ks.length : Int)) : ∃ k ∈ ks, cV (.dat (.lst (ks.map D.int))) (.dat (.int d)) S = .ok (.dat (.int k)) S := by
 have hd : d.toNat < ks.length := by omega
 refine ⟨ks[d.toNat], dN hd, CB ?_⟩
 rw [eU (n := d.toNat) (by omega)]
 simp [hd]
theorem GP {d : Int} {S : aK} (h0 : 0 <= d) (h1 : d < 8) : ∃ k : Int, cV (.dat (.tup [.int (-1), .int (-1), .int (-1), .int 1, .int 1, .int 0, .int 2, .int (-3)])) (.dat (.int d)) S = .ok (.dat (.int k)) S /\ -3 <= k /\ k <= 3 := by
 rcases (by omega : d = 0 \/ d = 1 \/ d = 2 \/ d = 3 \/ d = 4 \/ d = 5 \/ d = 6 \/ d = 7) with rfl | rfl | rfl | rfl | rfl | rfl | rfl | rfl
 ·exact ⟨-1, rfl, by decide, by decide⟩
 ·exact ⟨-1, rfl, by decide, by decide⟩
 ·exact ⟨-1, rfl, by decide, by decide⟩
 ·exact ⟨1, rfl, by decide, by decide⟩
 ·exact ⟨1, rfl, by decide, by decide⟩
 ·exact ⟨0, rfl, by decide, by decide⟩
 ·exact ⟨2, rfl, by decide, by decide⟩
 ·exact ⟨-3, rfl, by decide, by decide⟩
theorem L7 {d a : Int} {S : aK} (h0 : 0 <= d) (h1 : d < 4) (ha : -9 <= a) (hb : a <= 9) : ∃ k : Int, cV (.dat (.lst [.int a, .int 2, .int (a % 3 - 1), .int 1])) (.dat (.int d)) S = .ok (.dat (.int k)) S /\ -9 <= k /\ k <= 9 := by
 have := cU a (show (3 : Int) ≠ 0 by decide)
 have := cN a (show (0 : Int) < 3 by decide)
 rcases (by omega : d = 0 \/ d = 1 \/ d = 2 \/ d = 3) with rfl | rfl | rfl | rfl
 ·exact ⟨a, rfl, ha, hb⟩
 ·exact ⟨2, rfl, by decide, by decide⟩
 ·exact ⟨a % 3 - 1, rfl, by omega, by omega⟩
 ·exact ⟨1, rfl, by decide, by decide⟩
theorem DN {S : aK} {p : Nat} {ks : List Int} {mood : Int} (hP : PoolAt S p ks) (h0 : 0 <= mood) (h7 : mood <= 7) : ∃ (c : Cmd) (ks' : List Int), fP [.cel p, .dat (.int mood)] S = .ok (.dat c.d) (S.set p (PL ks')) /\ c.Ok /\ ks'.length = ks.length := by
 obtain ⟨ms, e0, m1, m2, m3⟩ := IQ (mood := mood) (S := S) h0 h7;obtain ⟨d, k1, e1, d0, d1, l1⟩ := fE hP (k := (ms.length : Int)) (by omega) (by omega)
 have P1 := hP.next l1;obtain ⟨kd, hk, ei⟩ := IZ (ks := ms) (d := d) (S := S.set p (PL k1)) d0 d1;obtain ⟨hk0, hk8⟩ := m3 kd hk;have eE : fP [.cel p, .dat (.int mood)] S = bQ (mH [some (.cel p), some (.dat (.int mood)), none, none, none, none] S) := rfl;rw [eE];unfold mH;have em : ∀ S, dY false (.dat (.lst [.lst [.int 0, .int 0, .int 0, .int 1, .int 1], .lst [.int 0, .int 0, .int 2, .int 3, .int 1], .lst [.int 0, .int 6, .int 7, .int 8, .int 8], .lst [.int 0, .int 4, .int 5, .int 6, .int 7], .lst [.int 0, .int 1, .int 3, .int 6, .int 8]])) (.dat (.lst [.lst [.int 0, .int 1, .int 2, .int 3, .int 4, .int 5, .int 6, .int 7, .int 8], .lst [.int 1, .int 1, .int 2, .int 3, .int 4], .lst [.int 5, .int 6, .int 7, .int 8, .int 8]])) S = .ok (.dat (.lst G5)) S := fun S => rfl
 simp! [kLst5, kLst9, em, e0, aQ, e1, ei];obtain ⟨d2, k2, e2, h2, h3, l2⟩ := fE P1 (k := 19) (by decide) (by decide)
 obtain ⟨d3, k3, e3, h4, h5, l3⟩ := fE P1 (k := 3) (by decide) (by decide)
 obtain ⟨d4, k4, e4, h6, h7, l4⟩ := fE P1 (k := 8) (by decide) (by decide)
 obtain ⟨d5, k5, e5, h8, h9, l5⟩ := fE (P1.next l2) (k := 19) (by decide) (by decide)
 obtain ⟨d6, k6, e6, h10, h11, l6⟩ := fE (P1.next l2) (k := 4) (by decide) (by decide)
 simp only [lQ] at e2 e3 e4 e5 e6;rcases (by omega : kd = 0 \/ kd = 1 \/ kd = 2 \/ kd = 3 \/ kd = 4 \/ kd = 5 \/ kd = 6 \/ kd = 7 \/ kd = 8) with rfl | rfl | rfl | rfl | rfl | rfl | rfl | rfl | rfl
 ·obtain ⟨v, ev, v1, v2⟩ := L7 (a := d2 - 9) (S := S.set p (PL k6)) h10 h11 (by omega) (by omega)
  simp! [e2, kLst4, e6, kK (show (0 : Int) < 3 by decide), ev]
  exact ⟨.go v, k6, rfl, ⟨v1, v2⟩, by omega⟩
 ·simp! [e3]
  exact ⟨.turn (1 + d3), k3, rfl, ⟨by omega, by omega⟩, by omega⟩
 ·simp! [if_true]
  exact ⟨.mirror, k1, rfl, trivial, l1⟩
 ·obtain ⟨v, ev, v1, v2⟩ := GP (S := S.set p (PL k4)) h6 h7
  simp! [kTup8, e4, ev];exact ⟨.scale v, k4, rfl, ⟨v1, v2⟩, by omega⟩
 ·simp! [cH, e2, e5]
  exact ⟨.aim (d2 - 9) (d5 - 9), k5, rfl, ⟨⟨by omega, by omega⟩, by omega, by omega⟩, by omega⟩
 ·simp! [pQ, e2, e5]
  exact ⟨.place (d2 - 9) (d5 - 9), k5, rfl, ⟨⟨by omega, by omega⟩, by omega, by omega⟩, by omega⟩
 ·simp! [cH]
  exact ⟨.mark, k1, rfl, trivial, l1⟩
 ·simp! [pQ]
  exact ⟨.ret, k1, rfl, trivial, l1⟩
 ·simp! [Ax]
  exact ⟨.exch, k1, rfl, trivial, l1⟩
theorem IH {S : aK} {p : Nat} {ks : List Int} {mood : Int} (hP : PoolAt S p ks) : ∃ (c c' : Cmd) (ks' : List Int), mY [.cel p, .dat (.int mood)] S = .ok (.dat (.lst [c.d, c'.d])) (S.set p (PL ks')) /\ c.Ok /\ c'.Ok /\ ks'.length = ks.length := by
 obtain ⟨d, k1, e1, d0, d1, l1⟩ := fE hP (k := 3) (by decide) (by decide)
 have P1 := hP.next l1;obtain ⟨d2, k2, e2, h2, h3, l2⟩ := fE P1 (k := 4) (by decide) (by decide)
 simp only [lQ] at e2;have eE : mY [.cel p, .dat (.int mood)] S = bQ (sX [some (.cel p), some (.dat (.int mood)), none, none, none] S) := rfl;rw [eE];unfold sX;have fin : ∀ (x : Int) (S : aK), 0 <= x -> x < 4 -> ∃ c c' : Cmd, cV (.dat (.lst ([.lst [.tup [.str "go", .int (1 + d)], .tup [.str "go", .int (-(1 + d))]], .lst [.tup [.str "turn", .int (1 + d)], .tup [.str "turn", .int (4 - (1 + d))]], .lst [.tup [.str "mirror"], .tup [.str "mirror"]]] ++ [.lst [.tup [.str "exchange"], .tup [.str "exchange"]]]))) (.dat (.int x)) S = .ok (.dat (.lst [c.d, c'.d])) S /\ c.Ok /\ c'.Ok := fun x S h0 h1 => by
  rcases (by omega : x = 0 \/ x = 1 \/ x = 2 \/ x = 3) with rfl | rfl | rfl | rfl
  ·exact ⟨.go (1 + d), .go (-(1 + d)), rfl, ⟨by omega, by omega⟩, ⟨by omega, by omega⟩⟩
  ·exact ⟨.turn (1 + d), .turn (4 - (1 + d)), rfl, ⟨by omega, by omega⟩, ⟨by omega, by omega⟩⟩
  ·exact ⟨.mirror, .mirror, rfl, trivial, trivial⟩
  ·exact ⟨.exch, .exch, rfl, trivial, trivial⟩
 simp! [e1, e2]
 by_cases hm : mood = 6
 ·subst hm
  have := cU d2 (show (2 : Int) ≠ 0 by decide)
  have := cN d2 (show (0 : Int) < 2 by decide)
  obtain ⟨c, c', e, o1, o2⟩ := fin (1 + d2 % 2) (S.set p (PL k2)) (by omega) (by omega)
  simp! [kK (show (0 : Int) < 2 by decide), jH, sz, e]
  exact ⟨c, c', k2, rfl, o1, o2, by omega⟩
 ·by_cases h7 : mood = 7
  ·subst h7
   obtain ⟨c, c', e, o1, o2⟩ := fin 3 (S.set p (PL k2)) (by omega) (by omega)
   simp! [jH, sz, e];exact ⟨c, c', k2, rfl, o1, o2, by omega⟩
  ·obtain ⟨c, c', e, o1, o2⟩ := fin d2 (S.set p (PL k2)) (by omega) (by omega)
   simp! [decide_eq_false hm, decide_eq_false h7, jH, sz, e];exact ⟨c, c', k2, rfl, o1, o2, by omega⟩
mutual
def Stt.Gd (many : Int) : Stt -> Nat -> Prop
 | .cmd c, _ => c.Ok
 | .fin w, _ => 0 <= w /\ w <= 1
 | .keep b, n => 0 < n /\ GdL many b (n - 1)
 | .again b, n => 0 < n /\ GdL many b (n - 1)
 | .either a b, n => 0 < n /\ GdL many a (n - 1) /\ GdL many b (n - 1)
 | .call g _ a b, n => (0 < n /\ 0 <= g /\ g < many) /\ GdL many a (n - 1) /\ GdL many b (n - 1)
 | .bad, _ => False
 | .odd _, _ => False
def GdL (many : Int) : List Stt -> Nat -> Prop
 | [], _ => True
 | s :: r, n => s.Gd many n /\ GdL many r n
end
mutual
def Stt.size : Stt -> Nat
 | .keep b => bO b + 1
 | .again b => bO b + 1
 | .either a b => bO a + bO b + 1
 | .call _ _ a b => bO a + bO b + 1
 | _ => 1
def bO : List Stt -> Nat
 | [] => 0
 | s :: r => s.size + bO r
end
theorem size_pos (s : Stt) : 1 <= s.size := by cases s <;> simp [Stt.size]
theorem fV : ∀ l : List Stt, l.length <= bO l
 | [] => bN _
 | s :: r => by have := fV r; have := size_pos s; simp [bO]; omega
theorem eV : ∀ l m : List Stt, bO (l ++ m) = bO l + bO m
 | [], m => by simp [bO]
 | s :: r, m => by simp [bO, eV r m]; omega
theorem GdL.app {many : Int} : ∀ {l m : List Stt} {n : Nat}, GdL many l n -> GdL many m n -> GdL many (l ++ m) n
 | [], m, n, _, h => h
 | s :: r, m, n, h, h' => ⟨h.1, GdL.app h.2 h'⟩
mutual
theorem Stt.Gd.ok {many : Int} : ∀ {s : Stt} {n : Nat}, s.Gd many n -> s.size <= 11 -> s.Ok many n
 | .cmd c, n, h, _ => h
 | .fin w, n, h, _ => h
 | .keep b, n, h, hs => ⟨h.1, GdL.ok h.2 (by simp [Stt.size] at hs; omega)⟩
 | .again b, n, h, hs => ⟨h.1, GdL.ok h.2 (by simp [Stt.size] at hs; omega)⟩
 | .either a b, n, h, hs => ⟨h.1, GdL.ok h.2.1 (by simp [Stt.size] at hs; omega), GdL.ok h.2.2 (by simp [Stt.size] at hs; omega)⟩
 | .call g _ a b, n, h, hs => ⟨h.1, GdL.ok h.2.1 (by simp [Stt.size] at hs; omega), GdL.ok h.2.2 (by simp [Stt.size] at hs; omega)⟩
 | .bad, n, h, _ => h.elim
 | .odd _, n, h, _ => h.elim
theorem GdL.ok {many : Int} : ∀ {l : List Stt} {n : Nat}, GdL many l n -> bO l <= 10 -> OkL many l n
 | [], n, _, _ => trivial
 | s :: r, n, h, hs => by
  have := fV r;have := size_pos s;simp only [bO] at hs;exact ⟨⟨Stt.Gd.ok h.1 (by omega), by omega⟩, GdL.ok h.2 (by omega)⟩
end
mutual
theorem HD {many : Int} : ∀ {s : Stt} {n : Nat} {lv met : Int} {here : List Int}, s.Gd many n -> 0 <= lv -> lv + n <= 3 -> s.size <= 9 -> met + s.size <= 13 -> 0 <= met -> A5 lv here s met = .okk (met + s.size - 1)
 | .cmd c, n, lv, met, here, h, h0, h3, h9, h12, hm => by simp [A5, Stt.size]
 | .fin c, n, lv, met, here, h, h0, h3, h9, h12, hm => by simp [A5, Stt.size]
 | .bad, n, lv, met, here, h, h0, h3, h9, h12, hm => h.elim
 | .odd _, n, lv, met, here, h, h0, h3, h9, h12, hm => h.elim
 | .keep b, n, lv, met, here, h, h0, h3, h9, h12, hm => by
  have := h.1;simp only [Stt.size] at h9 h12;rw [A5, kA (n := n - 1) h.2 (by omega) (by omega) (by omega) (by omega) hm (by omega), Stt.size]
  congr 1
  omega
 | .again b, n, lv, met, here, h, h0, h3, h9, h12, hm => by
  have := h.1;simp only [Stt.size] at h9 h12;rw [A5, kA (n := n - 1) h.2 (by omega) (by omega) (by omega) (by omega) hm (by omega), Stt.size]
  congr 1
  omega
 | .either a b, n, lv, met, here, h, h0, h3, h9, h12, hm => by
  have := h.1;simp only [Stt.size] at h9 h12;rw [A5, kA (n := n - 1) h.2.1 (by omega) (by omega) (by omega) (by omega) hm (by omega), FR.then_okk, kA (n := n - 1) h.2.2 (by omega) (by omega) (by omega) (by omega) (by omega) (by omega), Stt.size]
  congr 1
  omega
 | .call g f a b, n, lv, met, here, h, h0, h3, h9, h12, hm => by
  have := h.1.1;simp only [Stt.size] at h9 h12;rw [A5, kA (n := n - 1) h.2.1 (by omega) (by omega) (by omega) (by omega) hm (by omega), FR.then_okk, kA (n := n - 1) h.2.2 (by omega) (by omega) (by omega) (by omega) (by omega) (by omega), Stt.size]
  congr 1
  omega
theorem kA {many : Int} : ∀ {l : List Stt} {n : Nat} {lv at_ met : Int} {path : List Int}, GdL many l n -> 0 <= lv -> lv + n <= 3 -> at_ + bO l <= 8 -> met + bO l <= 12 -> 0 <= met -> 0 <= at_ -> qW lv path at_ l met = .okk (met + bO l)
 | [], n, lv, at_, met, path, h, h0, h3, h8, h12, hm, ha => by simp [qW, bO]
 | s :: r, n, lv, at_, met, path, h, h0, h3, h8, h12, hm, ha => by
  have hp := size_pos s;simp only [bO] at h8 h12;have hw : s.wf lv = true := by
   cases s with
   | cmd c => rfl
   | fin c => rfl
   | bad => exact h.1.elim
   | odd x => exact h.1.elim
   | keep b => have := h.1.1; simp [Stt.wf]; omega
   | again b => have := h.1.1; simp [Stt.wf]; omega
   | either a b => have := h.1.1; simp [Stt.wf]; omega
   | call g f a b => have := h.1.1.1; simp [Stt.wf]; omega
  rw [qW, if_neg (by rintro (e | e | e) <;> first | omega | (rw [hw] at e; cases e)), HD (n := n) h.1 h0 h3 (by omega) (by omega) (by omega), FR.then_okk, kA (n := n) h.2 h0 h3 (by omega) (by omega) (by omega) (by omega), bO]
  congr 1
  omega
end
section
variable {p q c N : Nat} {many : Int}
theorem Dr.command {S : aK} {r l mood : Int} (D : Dr p q c N many S r l) (h0 : 0 <= mood) (h7 : mood <= 7) : ∃ (cm : Cmd) (S' : aK), fP [.cel p, .dat (.int mood)] S = .ok (.dat cm.d) S' /\ cm.Ok /\ Dr p q c N many S' r l /\ Sam [p, q, c] S S' := by
 obtain ⟨ks, hk, hl⟩ := D.pool;obtain ⟨cm, ks', e, ho, l⟩ := DN (S := S) (p := p) (ks := ks) ⟨hk, by rw [hl]; exact D.n2⟩ h0 h7
 exact ⟨cm, _, e, ho, D.setp (by omega), Sam.set (by simp)⟩
theorem Dr.pair {S : aK} {r l mood : Int} (D : Dr p q c N many S r l) : ∃ (cm cm' : Cmd) (S' : aK), mY [.cel p, .dat (.int mood)] S = .ok (.dat (.lst [cm.d, cm'.d])) S' /\ cm.Ok /\ cm'.Ok /\ Dr p q c N many S' r l /\ Sam [p, q, c] S S' := by
 obtain ⟨ks, hk, hl⟩ := D.pool;obtain ⟨cm, cm', ks', e, ho, ho', l⟩ := IH (S := S) (p := p) (ks := ks) (mood := mood) ⟨hk, by rw [hl]; exact D.n2⟩
 exact ⟨cm, cm', _, e, ho, ho', D.setp (by omega), Sam.set (by simp)⟩
structure Left (p q c N : Nat) (many : Int) (S : aK) (r : Int) (n : Nat) (ls : List Stt) (S' : aK) (r' l' : Int) : Prop where
 dr : Dr p q c N many S' r' l'
 sam : Sam [p, q, c] S S'
 r0 : 0 <= r'
 sz : (bO ls : Int) + r' <= r
 gd : GdL many ls n
end
def BM (n : Nat) : Prop := ∀ {p q c N : Nat} {many : Int} {S : aK} {r l mood lv low : Int}, Dr p q c N many S r l -> 0 <= mood -> mood <= 7 -> 0 <= lv -> lv <= 3 -> 0 <= low -> 0 <= r -> r <= 8 -> many <= 3 -> 2 * (3 - lv.toNat) + r.toNat + 2 <= n ->
 ∃ (ls : List Stt) (S' : aK) (r' l' : Int), qI n [.cel p, .dat (.int mood), .dat (.int lv), .cel q, .cel c, .dat (.int low)] S = .ok (.dat (.lst (bG ls))) S' /\ Left p q c N many S r (3 - lv.toNat) ls S' r' l'
def tG (n : Nat) : Prop := ∀ {p q c N : Nat} {many : Int} {S : aK} {r l mood lv low : Int}, Dr p q c N many S r l -> 0 <= mood -> mood <= 7 -> 0 <= lv -> lv <= 3 -> 0 <= low -> 0 < r -> r <= 8 -> many <= 3 -> 2 * (3 - lv.toNat) + r.toNat + 1 <= n ->
 ∃ (ls : List Stt) (S' : aK) (r' l' : Int), hZ n [.cel p, .dat (.int mood), .dat (.int lv), .cel q, .cel c, .dat (.int low)] S = .ok (.dat (.lst (bG ls))) S' /\ Left p q c N many S r (3 - lv.toNat) ls S' r' l'
theorem rQ {n : Nat} (ih : tG n) {p q c N : Nat} {many mood lv low : Int} (h0 : 0 <= mood) (h7 : mood <= 7) (l0 : 0 <= lv) (l3 : lv <= 3) (lo : 0 <= low) (hm : many <= 3) :
  ∀ (is : List D) (ls : List Stt) (S : aK) (r l : Int), Dr p q c N many S r l -> 0 <= r -> (bO ls : Int) + r <= 8 -> 2 * (3 - lv.toNat) + r.toNat + 1 <= n -> GdL many ls (3 - lv.toNat) -> ∃ (ls' : List Stt) (S' : aK) (r' l' : Int),
   loop (.nm 7) (hW (hZ n)) is [some (.cel p), some (.dat (.int mood)), some (.dat (.int lv)), some (.cel q), some (.cel c), some (.dat (.int low)), some (.dat (.lst (bG ls))), none] S =
    .next [some (.cel p), some (.dat (.int mood)), some (.dat (.int lv)), some (.cel q), some (.cel c), some (.dat (.int low)), some (.dat (.lst (bG ls'))), none] S' /\ Left p q c N many S (bO ls + r) (3 - lv.toNat) ls' S' r' l'
 | [], ls, S, r, l, D, r0, r8, hn, g => ⟨ls, S, r, l, rfl, D, Sam.refl, r0, Int.le_refl _, g⟩
 | i :: is, ls, S, r, l, D, r0, r8, hn, g => by
  rw [loop];simp only [mU, dA, cM];rw [hW];simp! [D.ixq]
  by_cases hr : 0 < r
  ·obtain ⟨l1, S1, r1, c1, e1, L1⟩ := ih D h0 h7 l0 l3 lo hr (by omega) hm hn
   have hl := fV ls;have hl1 := fV l1;have hsz := L1.sz;have hr1 := L1.r0;simp! [decide_eq_true hr, e1, jH (show (bG ls).length + (bG l1).length <= sizeLine by rw [cK, cK]; exact PH.sz (by omega))]
   rw [<- hW, <- kF];obtain ⟨l2, S2, r2, c2, e2, L2⟩ := rQ ih (p := p) (q := q) (c := c) (N := N) h0 h7 l0 l3 lo hm is (ls ++ l1) S1 r1 c1 L1.dr hr1 (by rw [eV]; omega) (by omega) (g.app L1.gd)
   have := L2.sz;rw [eV] at this;exact ⟨l2, S2, r2, c2, e2, L2.dr, L1.sam.trans L2.sam, L2.r0, by omega, L2.gd⟩
  ·simp! [decide_eq_false hr]
   rw [<- hW];exact rQ ih h0 h7 l0 l3 lo hm is ls S r l D r0 r8 hn g
theorem HW {n : Nat} (ih : tG n) : BM (n + 1) := by
 intro p q c N many S r l mood lv low D h0 h7 l0 l3 lo r0 r8 hm hn;rw [show qI (n + 1) [.cel p, .dat (.int mood), .dat (.int lv), .cel q, .cel c, .dat (.int low)] S = bQ (qN (hZ n) [some (.cel p), some (.dat (.int mood)), some (.dat (.int lv)), some (.cel q), some (.cel c), some (.dat (.int low)), none, none] S) from rfl]
 unfold qN;obtain ⟨d, S1, e1, d0, d1, D1, s1⟩ := D.draw (k := 3) (by decide) (by decide)
 obtain ⟨l2, S2, r2, c2, e2, L2⟩ := rQ ih h0 h7 l0 l3 lo hm (oU 0 d.toNat) [] S1 r l D1 r0 (by simp [bO]; omega) (by omega) trivial
 simp! [e1, oD (show -(2 ^ 62) <= d by omega) (show d < 2 ^ 62 by omega)]
 rw [show ([] : List PH.D) = bG [] from rfl, e2]
 simp! [if_true];have := L2.sz;simp only [bO] at this;exact ⟨l2, S2, r2, c2, rfl, L2.dr, s1.trans L2.sam, L2.r0, by omega, L2.gd⟩
theorem K6 {a b : PH.D} : cutD [a, b] none (some 1) = [a] := rfl
theorem Fz {n : Nat} (ihB : BM n) (ihP : tG n) : tG (n + 1) := by
 intro p q c N many S r l mood lv low D h0 h7 l0 l3 lo r0 r8 hm hn;rw [show hZ (n + 1) [.cel p, .dat (.int mood), .dat (.int lv), .cel q, .cel c, .dat (.int low)] S = bQ (qM (qI n) (hZ n) [some (.cel p), some (.dat (.int mood)), some (.dat (.int lv)), some (.cel q), some (.cel c), some (.dat (.int low)), none, none, none, none, none, none] S) from rfl]
 unfold qM;obtain ⟨d, S1, e1, d0, d1, D1, s1⟩ := D.draw (k := 17) (by decide) (by decide)
 have ea : ∀ z : Option Vl, iK (fun x y => x - y) (aE 3) (mC (.int 0)) (mC (.int 1)) [some (.cel p), some (.dat (.int mood)), some (.dat (.int lv)), some (.cel q), some (.cel c), some (.dat (.int low)), z, none, none, none, none, none] S1 = .next [some (.cel p), some (.dat (.int mood)), some (.dat (.int lv)), some (.cel q), some (.cel c), some (.dat (.int low)), z, none, none, none, none, none] (S1.set q (PL [r - 1])) := fun z => D1.augq rfl rfl rfl
 have D2 := D1.setq (r' := r - 1);have s2 : Sam [p, q, c] S (S1.set q (PL [r - 1])) := s1.trans (Sam.set (by simp))
 generalize S1.set q (PL [r - 1]) = S2 at ea D2 s2;obtain ⟨cm, S3, e2, c2, D3, s3⟩ := D2.command h0 h7;have LC : Left p q c N many S r (3 - lv.toNat) [.cmd cm] S3 (r - 1) l := ⟨D3, s2.trans s3, by omega, by simp [bO, Stt.size]; omega, c2, trivial⟩
 have oc : ∃ (ls : List Stt) (S' : aK) (r' l' : Int), bQ (Out.ret (.dat (.lst [cm.d])) S3) = .ok (.dat (.lst (bG ls))) S' /\ Left p q c N many S r (3 - lv.toNat) ls S' r' l' := ⟨_, _, _, _, rfl, LC⟩;rcases (by omega : d < 6 \/ d = 6 \/ (7 <= d /\ d < 15 /\ 2 < lv) \/ (7 <= d /\ d < 9 /\ lv <= 2) \/ (d = 9 /\ lv <= 2) \/ (d = 10 /\ lv <= 2) \/ (11 <= d /\ d < 15 /\ lv <= 2) \/ (15 <= d)) with hd | hd | ⟨ha, hb, hl⟩ | ⟨ha, hb, hl⟩ | ⟨hd, hl⟩ | ⟨hd, hl⟩ | ⟨ha, hb, hl⟩ | hd
 ·simp! [e1, decide_eq_false (show ¬ (6 : Int) < d by omega), decide_eq_false (show ¬ d = 6 by omega), decide_eq_false (show ¬ (10 : Int) < d by omega), ea, decide_eq_true hd, e2]
  exact oc
 ·subst hd
  by_cases hr : r < 2
  ·simp! [e1, D1.ixq, decide_eq_true hr, ea, e2]
   exact oc
  ·have eb : ∀ z : Option Vl, iK (fun x y => x - y) (aE 3) (mC (.int 0)) (mC (.int 1)) [some (.cel p), some (.dat (.int mood)), some (.dat (.int lv)), some (.cel q), some (.cel c), some (.dat (.int low)), z, none, none, none, none, none] S2 = .next [some (.cel p), some (.dat (.int mood)), some (.dat (.int lv)), some (.cel q), some (.cel c), some (.dat (.int low)), z, none, none, none, none, none] (S2.set q (PL [r - 1 - 1])) := fun z => D2.augq rfl rfl rfl
   have D4 := D2.setq (r' := r - 1 - 1);have s4 : Sam [p, q, c] S (S2.set q (PL [r - 1 - 1])) := s2.trans (Sam.set (by simp))
   generalize S2.set q (PL [r - 1 - 1]) = S4 at eb D4 s4;obtain ⟨ca, cb, S5, e5, oa, ob, D5, s5⟩ := D4.pair (mood := mood)
   by_cases hr2 : 0 < r - 1 - 1
   ·obtain ⟨l6, S6, r6, c6, e6, L6⟩ := ihP D5 h0 h7 l0 l3 lo hr2 (by omega) hm (by omega)
    have hs := L6.sz;have := L6.r0;have hl6 := fV l6;simp! [e1, D1.ixq, decide_eq_false hr, ea, eb, e5, D5.ixq, decide_eq_true hr2, e6, K6, oW, jH (show [ca.d].length + (bG l6).length <= sizeLine from sz (by rw [cK]; simp; omega)), jH (show ([ca.d] ++ bG l6).length + [cb.d].length <= sizeLine from sz (by simp [cK]; omega))]
    refine ⟨[.cmd ca] ++ l6 ++ [.cmd cb], S6, r6, c6, ?_, L6.dr, s4.trans (s5.trans L6.sam), L6.r0, ?_, ?_⟩
    ·rw [kF, kF]; rfl
    ·rw [eV, eV]; simp only [bO, Stt.size]; omega
    ·exact GdL.app (GdL.app (l := [.cmd ca]) ⟨oa, trivial⟩ L6.gd) ⟨ob, trivial⟩
   ·simp! [e1, D1.ixq, decide_eq_false hr, ea, eb, e5, D5.ixq, decide_eq_false hr2, K6, oW, jH, sz, cL, List.cons_append, zA]
    refine ⟨[.cmd ca, .cmd cb], S5, r - 1 - 1, l, rfl, D5, s4.trans s5, by omega, ?_, oa, ob, trivial⟩
    simp only [bO, Stt.size]; omega
 ·have h1 := cU d (show (6 : Int) ≠ 0 by decide)
  have h2 := cN d (show (0 : Int) < 6 by decide)
  simp! [e1, decide_eq_true (show (6 : Int) < d by omega), decide_eq_true hb, decide_eq_true hl, kK (show (0 : Int) < 6 by decide), decide_eq_false (show ¬ d % 6 = 6 by omega), decide_eq_false (show ¬ (10 : Int) < d % 6 by omega), ea, decide_eq_true (show d % 6 < 6 by omega), e2]
  exact oc
 ·have e54 : 3 - (lv + 1).toNat = 3 - lv.toNat - 1 := by omega
  obtain ⟨la, Sa, ra, ca, ea1, La⟩ := ihB (lv := lv + 1) (low := 0) D2 h0 h7 (by omega) (by omega) (by omega) (by omega) (by omega) hm (by omega)
  obtain ⟨lb, Sb, rb, cb, eb1, Lb⟩ := ihB (lv := lv + 1) (low := low) La.dr h0 h7 (by omega) (by omega) lo La.r0 (by have := La.sz; omega) hm (by have := La.sz; have := La.r0; omega)
  have := La.sz;have := Lb.sz;have ga := La.gd;have gb := Lb.gd;rw [e54] at ga gb;simp! [e1, decide_eq_true (show (6 : Int) < d by omega), decide_eq_true (show d < 15 by omega), decide_eq_false (show ¬ (2 : Int) < lv by omega), decide_eq_false (show ¬ d = 6 by omega), decide_eq_false (show ¬ (10 : Int) < d by omega), ea, decide_eq_false (show ¬ d < 6 by omega), decide_eq_true hb, ea1, eb1]
  refine ⟨[.either la lb], Sb, rb, cb, rfl, Lb.dr, s2.trans (La.sam.trans Lb.sam), Lb.r0, ?_, ⟨by omega, ga, gb⟩, trivial⟩
  simp only [bO, Stt.size]; omega
 ·subst hd
  have e54 : 3 - (lv + 1).toNat = 3 - lv.toNat - 1 := by omega
  obtain ⟨la, Sa, ra, ca, ea1, La⟩ := ihB (lv := lv + 1) (low := 0) D2 h0 h7 (by omega) (by omega) (by omega) (by omega) (by omega) hm (by omega)
  have := La.sz;have ga := La.gd;rw [e54] at ga;simp! [e1, decide_eq_false (show ¬ (2 : Int) < lv by omega), ea, ea1]
  refine ⟨[.again la], Sa, ra, ca, rfl, La.dr, s2.trans La.sam, La.r0, ?_, ⟨by omega, ga⟩, trivial⟩
  simp only [bO, Stt.size]; omega
 ·subst hd
  have e54 : 3 - (lv + 1).toNat = 3 - lv.toNat - 1 := by omega
  obtain ⟨la, Sa, ra, ca, ea1, La⟩ := ihB (lv := lv + 1) (low := low) D2 h0 h7 (by omega) (by omega) (by omega) (by omega) (by omega) hm (by omega)
  have := La.sz;have ga := La.gd;rw [e54] at ga;simp! [e1, decide_eq_false (show ¬ (2 : Int) < lv by omega), ea, ea1]
  refine ⟨[.keep la], Sa, ra, ca, rfl, La.dr, s2.trans La.sam, La.r0, ?_, ⟨by omega, ga⟩, trivial⟩
  simp only [bO, Stt.size]; omega
 ·by_cases hc : l < 1
  ·simp! [e1, decide_eq_true (show (6 : Int) < d by omega), decide_eq_true hb, decide_eq_false (show ¬ (2 : Int) < lv by omega), decide_eq_false (show ¬ d = 6 by omega), decide_eq_true (show (10 : Int) < d by omega), D1.ixc0, decide_eq_true hc, ea, e2]
   exact oc
  ·by_cases hlo : many <= low
   ·simp! [e1, decide_eq_true (show (6 : Int) < d by omega), decide_eq_true hb, decide_eq_false (show ¬ (2 : Int) < lv by omega), decide_eq_false (show ¬ d = 6 by omega), decide_eq_true (show (10 : Int) < d by omega), D1.ixc0, decide_eq_false hc, D1.ixc1, decide_eq_true hlo, ea, e2]
    exact oc
   ·have e54 : 3 - (lv + 1).toNat = 3 - lv.toNat - 1 := by omega
    have ec : ∀ z : Option Vl, iK (fun x y => x - y) (aE 4) (mC (.int 0)) (mC (.int 1)) [some (.cel p), some (.dat (.int mood)), some (.dat (.int lv)), some (.cel q), some (.cel c), some (.dat (.int low)), z, none, none, none, none, none] S2 = .next [some (.cel p), some (.dat (.int mood)), some (.dat (.int lv)), some (.cel q), some (.cel c), some (.dat (.int low)), z, none, none, none, none, none] (S2.set c (PL [l - 1, many])) := fun z => D2.augc rfl rfl rfl
    have D4 := D2.setc (l' := l - 1);have s4 : Sam [p, q, c] S (S2.set c (PL [l - 1, many])) := s2.trans (Sam.set (by simp))
    generalize S2.set c (PL [l - 1, many]) = S4 at ec D4 s4;obtain ⟨g, S5, e5, g0, g1, D5, s5⟩ := D4.draw (k := many - low) (by omega) (by omega)
    obtain ⟨f, S6, e6, f0, f1, D6, s6⟩ := D5.draw (k := 3) (by decide) (by decide)
    obtain ⟨la, Sa, ra, ca, ea1, La⟩ := ihB (lv := lv + 1) (low := low) D6 h0 h7 (by omega) (by omega) lo (by omega) (by omega) hm (by omega)
    obtain ⟨lb, Sb, rb, cb, eb1, Lb⟩ := ihB (lv := lv + 1) (low := low) La.dr h0 h7 (by omega) (by omega) lo La.r0 (by have := La.sz; omega) hm (by have := La.sz; have := La.r0; omega)
    have := La.sz;have := Lb.sz;have ga := La.gd;have gb := Lb.gd;rw [e54] at ga gb;simp! [e1, decide_eq_true (show (6 : Int) < d by omega), decide_eq_true hb, decide_eq_false (show ¬ (2 : Int) < lv by omega), decide_eq_false (show ¬ d = 6 by omega), decide_eq_true (show (10 : Int) < d by omega), D1.ixc0, decide_eq_false hc, D1.ixc1, decide_eq_false hlo, ea, decide_eq_false (show ¬ d < 6 by omega), decide_eq_false (show ¬ d < 9 by omega), decide_eq_false (show ¬ d = 9 by omega), decide_eq_false (show ¬ d = 10 by omega), decide_eq_false (show ¬ (14 : Int) < d by omega), ec, D4.ixc1, e5, e6, ea1, eb1]
    refine ⟨[.call (low + g) (decide (f = 0)) la lb], Sb, rb, cb, rfl, Lb.dr, s4.trans (s5.trans (s6.trans (La.sam.trans Lb.sam))), Lb.r0, ?_, ⟨⟨by omega, by omega, by omega⟩, ga, gb⟩, trivial⟩
    simp only [bO, Stt.size]; omega
 ·obtain ⟨w, S4, e4, w0, w1, D4, s4⟩ := D2.draw (k := 2) (by decide) (by decide)
  simp! [e1, decide_eq_true (show (6 : Int) < d by omega), decide_eq_false (show ¬ d < 15 by omega), decide_eq_false (show ¬ d = 6 by omega), decide_eq_true (show (10 : Int) < d by omega), ea, decide_eq_false (show ¬ d < 6 by omega), decide_eq_false (show ¬ d < 9 by omega), decide_eq_false (show ¬ d = 9 by omega), decide_eq_false (show ¬ d = 10 by omega), decide_eq_true (show (14 : Int) < d by omega), e4]
  refine ⟨[.fin w], S4, r - 1, l, rfl, D4, s2.trans s4, by omega, ?_, ⟨w0, by omega⟩, trivial⟩
  simp only [bO, Stt.size]; omega
theorem sO : ∀ n, BM n /\ tG n
 | 0 => ⟨fun _ _ _ _ _ _ _ _ _ h => by omega, fun _ _ _ _ _ _ _ _ _ h => by omega⟩
 | n + 1 => ⟨HW (sO n).2, Fz (sO n).1 (sO n).2⟩
theorem FQ {p q c N : Nat} {many : Int} {S : aK} {r l mood : Int} (D : Dr p q c N many S r l) (h0 : 0 <= mood) (h7 : mood <= 7) (hr : 3 < r) (m1 : 1 <= many) (m3 : many <= 3) :
  ∃ (ls : List Stt) (S' : aK) (r' l' : Int), nZ [.cel p, .dat (.int mood), .cel q, .cel c] S = .ok (.dat (.lst (bG ls))) S' /\ Left p q c N many S r 3 ls S' r' l' := by
 rw [show nZ [.cel p, .dat (.int mood), .cel q, .cel c] S = bQ (oK [some (.cel p), some (.dat (.int mood)), some (.cel q), some (.cel c), none, none, none, none, none] S) from rfl]
 unfold oK;have ea : iK (fun x y => x - y) (aE 2) (mC (.int 0)) (mC (.int 4)) [some (.cel p), some (.dat (.int mood)), some (.cel q), some (.cel c), none, none, none, none, none] S = .next [some (.cel p), some (.dat (.int mood)), some (.cel q), some (.cel c), none, none, none, none, none] (S.set q (PL [r - 4])) := D.augq rfl rfl rfl
 have D1 := D.setq (r' := r - 4);have s1 : Sam [p, q, c] S (S.set q (PL [r - 4])) := Sam.set (by simp)
 generalize S.set q (PL [r - 4]) = S1 at ea D1 s1;have eb : iK (fun x y => x - y) (aE 3) (mC (.int 0)) (mC (.int 1)) [some (.cel p), some (.dat (.int mood)), some (.cel q), some (.cel c), none, none, none, none, none] S1 = .next [some (.cel p), some (.dat (.int mood)), some (.cel q), some (.cel c), none, none, none, none, none] (S1.set c (PL [l - 1, many])) := D1.augc rfl rfl rfl
 have D2 := D1.setc (l' := l - 1);have s2 : Sam [p, q, c] S1 (S1.set c (PL [l - 1, many])) := Sam.set (by simp)
 generalize S1.set c (PL [l - 1, many]) = S2 at eb D2 s2;obtain ⟨g, S3, e3, g0, g1, D3, s3⟩ := D2.draw (k := many) (by omega) (by omega)
 obtain ⟨f, S4, e4, f0, f1, D4, s4⟩ := D3.draw (k := 3) (by decide) (by decide)
 obtain ⟨a, S5, e5, a0, a1, D5, s5⟩ := D4.draw (k := 2) (by decide) (by decide)
 obtain ⟨ca, S6, e6, oa, D6, s6⟩ := D5.command h0 h7;obtain ⟨cb, S7, e7, ob, D7, s7⟩ := D6.command h0 h7;obtain ⟨b, S8, e8, b0, b1, D8, s8⟩ := D7.draw (k := 2) (by decide) (by decide)
 have s18 : Sam [p, q, c] S S8 := s1.trans (s2.trans (s3.trans (s4.trans (s5.trans (s6.trans (s7.trans s8))))));have fin : ∀ (x y : Cmd) (T : aK), x.Ok -> y.Ok -> Dr p q c N many T (r - 4) (l - 1) -> Sam [p, q, c] S T -> ∃ (ls : List Stt) (S' : aK) (r' l' : Int), bQ (((cV (.dat (.lst [.lst [], .lst [x.d, .tup [.str "call", .int g, .bl (decide (f = 0)), .lst [.lst [], .lst []]], y.d]])) (.dat (.int a)) T).bind fun u T1 => ((cV (.dat (.lst [.lst [], .lst [x.d, .tup [.str "call", .int g, .bl (decide (f = 0)), .lst [.lst [], .lst []]], y.d]])) (.dat (.int (1 - a))) T1).bind fun v T2 => kTup [.dat (.str "either"), u, v] T2)).toS [] fun w T3 => (Au false [w] T3).toS [] Ku) = .ok (.dat (.lst (bG ls))) S' /\ Left p q c N many S r 3 ls S' r' l' := fun x y T ox oy DT sT => by
  have sz : ∀ (u v : List Stt), bO u + bO v = 3 -> (bO [.either u v] : Int) + (r - 4) <= r := fun u v h => by simp only [bO, Stt.size]; omega
  have hc : GdL many [.cmd x, .call g (decide (f = 0)) [] [], .cmd y] 2 := ⟨ox, ⟨⟨by omega, g0, g1⟩, trivial, trivial⟩, oy, trivial⟩
  rcases (by omega : a = 0 \/ a = 1) with rfl | rfl
  ·exact ⟨[.either [] [.cmd x, .call g (decide (f = 0)) [] [], .cmd y]], T, r - 4, l - 1, rfl, DT, sT, by omega, sz _ _ rfl, ⟨by omega, trivial, hc⟩, trivial⟩
  ·exact ⟨[.either [.cmd x, .call g (decide (f = 0)) [] [], .cmd y] []], T, r - 4, l - 1, rfl, DT, sT, by omega, sz _ _ rfl, ⟨by omega, hc, trivial⟩, trivial⟩
 simp! [ea, eb, D2.ixc1, e3, e4, e5, e6, e7, e8]
 by_cases hb : b = 0
 ·obtain ⟨cx, cy, S9, e9, ox, oy, D9, s9⟩ := D8.pair (mood := mood)
  simp! [decide_eq_true hb, e9, Ay, GQ];obtain ⟨ls, S', r', l', e, L⟩ := fin cx cy S9 ox oy D9 (s18.trans s9);refine ⟨ls, S', r', l', ?_, L⟩
  rw [<- e];rcases (by omega : a = 0 \/ a = 1) with rfl | rfl <;> rfl
 ·simp! [decide_eq_false hb, Ay, GQ]
  obtain ⟨ls, S', r', l', e, L⟩ := fin ca cb S8 oa ob D8 s18;refine ⟨ls, S', r', l', ?_, L⟩
  rw [<- e];rcases (by omega : a = 0 \/ a = 1) with rfl | rfl <;> rfl
theorem uG {p q c N : Nat} {many mood low : Int} {z8 : Option Vl} {z5 : Option Vl} (h0 : 0 <= mood) (h7 : mood <= 7) (lo : 0 <= low) (hm : many <= 3) :
  ∀ (is : List D) (ls : List Stt) (S : aK) (r l : Int), Dr p q c N many S r l -> 0 <= r -> (bO ls : Int) + r <= 8 -> GdL many ls 3 -> ∃ (ls' : List Stt) (S' : aK) (r' l' : Int),
   loop (.nm 7) hG is [some (.cel p), some (.dat (.int mood)), some (.cel q), some (.cel c), some (.dat (.int low)), z5, some (.dat (.lst (bG ls))), none, z8] S =
    .next [some (.cel p), some (.dat (.int mood)), some (.cel q), some (.cel c), some (.dat (.int low)), z5, some (.dat (.lst (bG ls'))), none, z8] S' /\ Left p q c N many S (bO ls + r) 3 ls' S' r' l'
 | [], ls, S, r, l, D, r0, r8, g => ⟨ls, S, r, l, rfl, D, Sam.refl, r0, Int.le_refl _, g⟩
 | i :: is, ls, S, r, l, D, r0, r8, g => by
  rw [loop];simp only [mU, dA, cM];rw [hG];simp! [D.ixq]
  by_cases hr : 0 < r
  ·obtain ⟨l1, S1, r1, c1, e1, L1⟩ := (sO 30).2 (lv := 0) D h0 h7 (by omega) (by omega) lo hr (by omega) hm (by simp; omega)
   have hl := fV ls;have hl1 := fV l1;have hsz := L1.sz;have hr1 := L1.r0;simp! [decide_eq_true hr, e1, jH (show (bG ls).length + (bG l1).length <= sizeLine by rw [cK, cK]; exact PH.sz (by omega))]
   rw [<- hG, <- kF];obtain ⟨l2, S2, r2, c2, e2, L2⟩ := uG (p := p) (q := q) (c := c) (N := N) (z8 := z8) (z5 := z5) h0 h7 lo hm is (ls ++ l1) S1 r1 c1 L1.dr hr1 (by rw [eV]; omega) (g.app L1.gd)
   have := L2.sz;rw [eV] at this;exact ⟨l2, S2, r2, c2, e2, L2.dr, L1.sam.trans L2.sam, L2.r0, by omega, L2.gd⟩
  ·simp! [decide_eq_false hr]
   rw [<- hG];exact uG h0 h7 lo hm is ls S r l D r0 r8 g
def CP : Stt := .either [.fin 1] []
theorem Jc {p q c N : Nat} {many : Int} {S : aK} {r l mood low : Int} (D : Dr p q c N many S r l) (h0 : 0 <= mood) (h7 : mood <= 7) (lo : 0 <= low) (r0 : 0 <= r) (r8 : r <= 8) (m1 : 1 <= many) (m3 : many <= 3) :
  ∃ (ls : List Stt) (S' : aK) (r' l' : Int), pO [.cel p, .dat (.int mood), .cel q, .cel c, .dat (.int low)] S = .ok (.dat (.lst (bG ls))) S' /\ Left p q c N many S (r + 2) 3 ls S' r' l' := by
 rw [show pO [.cel p, .dat (.int mood), .cel q, .cel c, .dat (.int low)] S = bQ (tD [some (.cel p), some (.dat (.int mood)), some (.cel q), some (.cel c), some (.dat (.int low)), none, none, none, none] S) from rfl]
 unfold tD;obtain ⟨d, S1, e1, d0, d1, D1, s1⟩ := D.draw (k := 6) (by decide) (by decide)
 obtain ⟨a, S2, e2, a0, a1, D2, s2⟩ := D1.draw (k := 2) (by decide) (by decide)
 -- behind the loop
 have fin : ∀ (ls : List Stt) (T : aK) (r1 l1 : Int), Dr p q c N many T r1 l1 -> Sam [p, q, c] S T -> 0 <= r1 -> (bO ls : Int) + r1 <= r -> GdL many ls 3 -> ∃ (ls' : List Stt) (S' : aK) (r' l' : Int), bQ (aT (yU (wY (aZ (dY false) (mC (.int 1)) (aR bK (aC (aE 0) (aC (mC (.int 4)) aL))))) (.nm 7) hG)
 (aT (bT (cS false (aC (cS false (aC (cZ (aC (mC (.str "either")) (aC (cS false (aC (cZ (aC (mC (.str "end")) (aC (mC (.int 1)) aL))) aL)) (aC (cS false aL) aL)))) aL)) (aC (cS false (aC (cZ (aC (mC (.str "end")) (aC (mC (.int 1)) aL))) aL)) aL))) (.nm 8))
 (aT (bV (sG (mB (aZ eK (aE 5) (mC (.int 1)))) (mB (aZ eK (aE 5) (mC (.int 3))))) (bI (aZ (dY false) (aE 6) (aZ cV (aE 8) (aZ oS (aE 5) (mC (.int 2)))))) bD)
 (aT (bV (mB (aZ eK (aE 5) (mC (.int 2)))) (bI (aZ (dY false) (aZ cV (aE 8) (mC (.int 0))) (aE 6))) bD)
 (bI (aE 6))))) [some (.cel p), some (.dat (.int mood)), some (.cel q), some (.cel c), some (.dat (.int low)), some (.dat (.int d)), some (.dat (.lst (bG ls))), none, none] T) = .ok (.dat (.lst (bG ls'))) S' /\ Left p q c N many S (r + 2) 3 ls' S' r' l' := fun ls T r1 l1 DT sT r10 hsz g => by
  obtain ⟨x, T1, e3, x0, x1, D3, s3⟩ := DT.draw (k := 4) (by decide) (by decide)
  obtain ⟨l4, T4, r4, c4, e4, L4⟩ := uG (z8 := none) (z5 := some (.dat (.int d))) h0 h7 lo m3 (oU 0 (1 + x).toNat) ls T1 r1 l1 D3 r10 (by omega) g
  have hs4 := L4.sz;have hr4 := L4.r0;have hl4 := fV l4;have s4 := sT.trans (s3.trans L4.sam);simp! [e3, oD (show -(2 ^ 62) <= 1 + x by omega) (show 1 + x < 2 ^ 62 by omega), e4]
  have hA : GdL many [CP] 3 := ⟨⟨by omega, ⟨⟨by omega, by omega⟩, trivial⟩, trivial⟩, trivial⟩
  have hB : GdL many [.fin 1] 3 := ⟨⟨by omega, by omega⟩, trivial⟩
  have a1 : (bG l4).length + (bG [CP]).length <= sizeLine := sz (by rw [cK, cK]; simp; omega)
  have a2 : (bG l4).length + (bG [.fin 1]).length <= sizeLine := sz (by rw [cK, cK]; simp; omega)
  have a3 : (bG [CP]).length + (bG l4).length <= sizeLine := sz (by rw [cK, cK]; simp; omega)
  have q1 : ∀ T, cV (.dat (.lst [.lst [.tup [.str "either", .lst [.tup [.str "end", .int 1]], .lst []]], .lst [.tup [.str "end", .int 1]]])) (.dat (.int 0)) T = .ok (.dat (.lst (bG [CP]))) T := fun T => rfl
  have q2 : ∀ T, cV (.dat (.lst [.lst [.tup [.str "either", .lst [.tup [.str "end", .int 1]], .lst []]], .lst [.tup [.str "end", .int 1]]])) (.dat (.int 1)) T = .ok (.dat (.lst (bG [.fin 1]))) T := fun T => rfl
  rcases (by omega : d = 0 \/ d = 1 \/ d = 2 \/ d = 3 \/ d = 4 \/ d = 5) with rfl | rfl | rfl | rfl | rfl | rfl
  ·simp! [if_true]
   exact ⟨l4, T4, r4, c4, rfl, L4.dr, s4, hr4, by omega, L4.gd⟩
  ·have f1 : ∀ T, oS (.dat (.int 1)) (.dat (.int 2)) T = .ok (.dat (.int 0)) T := fun T => rfl
   simp! [f1, q1, jH a1];refine ⟨l4 ++ [CP], T4, r4, c4, by rw [kF]; rfl, L4.dr, s4, hr4, ?_, L4.gd.app hA⟩
   rw [eV]; simp only [bO, CP, Stt.size]; omega
  ·simp! [q1, jH a3]
   refine ⟨[CP] ++ l4, T4, r4, c4, by rw [kF]; rfl, L4.dr, s4, hr4, ?_, hA.app L4.gd⟩
   rw [eV]; simp only [bO, CP, Stt.size]; omega
  ·have f1 : ∀ T, oS (.dat (.int 3)) (.dat (.int 2)) T = .ok (.dat (.int 1)) T := fun T => rfl
   simp! [f1, q2, jH a2];refine ⟨l4 ++ [.fin 1], T4, r4, c4, by rw [kF]; rfl, L4.dr, s4, hr4, ?_, L4.gd.app hB⟩
   rw [eV]; simp only [bO, Stt.size]; omega
  ·simp! [if_true]
   exact ⟨l4, T4, r4, c4, rfl, L4.dr, s4, hr4, by omega, L4.gd⟩
  ·simp! [if_true]
   exact ⟨l4, T4, r4, c4, rfl, L4.dr, s4, hr4, by omega, L4.gd⟩
 have fin0 := fin [] S2 r l D2 (s1.trans s2) r0 (by simp [bO]) trivial
 rw [Ga] at fin0
 by_cases ha : a = 0
 ·by_cases hr : 3 < r
  ·by_cases hl : 0 < l
   ·obtain ⟨la, Sa, ra, ca, ea, La⟩ := FQ D2 h0 h7 hr m1 m3
    have := La.sz;have f := fin la Sa ra ca La.dr (s1.trans (s2.trans La.sam)) La.r0 (by omega) La.gd
    rw [Ga] at f;simp! [e1, e2, decide_eq_true ha, D2.ixq, decide_eq_true hr, D2.ixc0, decide_eq_true hl, ea] at f ⊢;exact f
   ·simp! [e1, e2, decide_eq_true ha, D2.ixq, decide_eq_true hr, D2.ixc0, decide_eq_false hl] at fin0 ⊢
    exact fin0
  ·simp! [e1, e2, decide_eq_true ha, D2.ixq, decide_eq_false hr] at fin0 ⊢
   exact fin0
 ·simp! [e1, e2, decide_eq_false ha] at fin0 ⊢
  exact fin0
structure Bk (p n N : Nat) (S0 : aK) (many l : Int) (bs : List (List Stt)) (T : aK) : Prop where
 ls : LS T
 n2 : 2 <= N
 hp : p < n
 len : n + 2 <= T.length
 pool : ∃ ks, T[p]? = some (PL ks) /\ ks.length = N
 call : T[n]? = some (PL [l, many])
 bod : T[n + 1]? = some (.lst (bls bs))
 old : ∀ i, i < n -> i ≠ p -> T[i]? = S0[i]?
theorem mR {T : aK} {c : Cell} {i : Nat} (h : i < T.length) : (T ++ [c])[i]? = T[i]? := aJ h
theorem AQ {p n N : Nat} {S0 T : aK} {many l mood low rm : Int} {bs : List (List Stt)} (B : Bk p n N S0 many l bs T) (h0 : 0 <= mood) (h7 : mood <= 7) (lo : 0 <= low) (r0 : 0 <= rm) (r8 : rm <= 8) (m1 : 1 <= many) (m3 : many <= 3) (hb : bs.length <= 3) :
  ∃ (b : List Stt) (T2 : aK) (l' : Int), pO [.cel p, .dat (.int mood), .cel T.length, .cel n, .dat (.int low)] (T ++ [PL [rm]]) = .ok (.dat (.lst (bG b))) T2 /\ T2[n + 1]? = some (.lst (bls bs)) /\ GdL many b 3 /\ (bO b : Int) <= rm + 2 /\ Bk p n N S0 many l' (bs ++ [b]) (T2.set (n + 1) (.lst (bls bs ++ [.lst (bG b)]))) := by
 obtain ⟨ks, hk, hkl⟩ := B.pool;have hlen := B.len;have hp := B.hp;have D : Dr p T.length n N many (T ++ [PL [rm]]) rm l := ⟨B.ls.app, B.n2, ⟨ks, by rw [mR (by omega)]; exact hk, hkl⟩, by simp, by rw [mR (by omega)]; exact B.call, by omega, by omega, by omega⟩
 obtain ⟨b, T2, r', l', e, L⟩ := Jc D h0 h7 lo r0 r8 m1 m3;have hsz := L.sz;have hr := L.r0;have h1 : T2[n + 1]? = some (.lst (bls bs)) := by
  rw [L.sam.2 (n + 1) (by simp; omega), mR (by omega)]
  exact B.bod
 have hl2 : T2.length = T.length + 1 := by rw [L.sam.1]; simp
 refine ⟨b, T2, l', e, h1, L.gd, by omega, L.dr.ls.set, B.n2, B.hp, by simp; omega, ?_, by rw [kG (by omega)]; exact L.dr.call, ?_, fun i hi hip => ?_⟩
 ·obtain ⟨ks', hk', hkl'⟩ := L.dr.pool
  exact ⟨ks', by rw [kG (by omega)]; exact hk', hkl'⟩
 ·rw [nK h1]
  simp [bls]
 ·rw [kG (by omega), L.sam.2 i (by simp; omega), mR (by omega)]
  exact B.old i hi hip
theorem uF {p n N : Nat} {S0 : aK} {many mood most size : Int} {wild : Bool} (h0 : 0 <= mood) (h7 : mood <= 7) (m1 : 1 <= many) (m3 : many <= 3) (z3 : 3 <= size) (z8 : size <= 8) :
  ∀ (j : Nat) (i : Int) (bs : List (List Stt)) (T : aK) (l : Int), Bk p n N S0 many l bs T -> 0 <= i -> bs.length + j <= 3 -> (∀ b ∈ bs, GdL many b 3 /\ (bO b : Int) <= size) -> ∃ (bs' : List (List Stt)) (T' : aK) (l' : Int),
   loop (.nm 8) jF (oU i j) [some (.cel p), some (.dat (.int most)), some (.dat (.int size)), some (.dat (.int mood)), some (.dat (.bl wild)), some (.dat (.int many)), some (.cel n), some (.cel (n + 1)), none, none, none] T =
    .next [some (.cel p), some (.dat (.int most)), some (.dat (.int size)), some (.dat (.int mood)), some (.dat (.bl wild)), some (.dat (.int many)), some (.cel n), some (.cel (n + 1)), none, none, none] T' /\ Bk p n N S0 many l' bs' T' /\ (∀ b ∈ bs', GdL many b 3 /\ (bO b : Int) <= size) /\ bs'.length = bs.length + j
 | 0, i, bs, T, l, B, _, _, g => ⟨bs, T, l, rfl, B, g, rfl⟩
 | j + 1, i, bs, T, l, B, hi, hj, g => by
  have hlen := B.len;have hrm : 0 <= size - 2 - (if decide ((2 : Int) < many) = true then 1 else 0) /\ size - 2 - (if decide ((2 : Int) < many) = true then 1 else 0) <= size - 2 := by split <;> omega
  generalize hR : (size - 2 - (if decide ((2 : Int) < many) = true then (1 : Int) else 0)) = R at hrm
  obtain ⟨b1, T1, l1, e1, a1, g1, s1, B1⟩ := AQ (rm := R) (mood := mood) (low := 0) B h0 h7 (by omega) (by omega) (by omega) m1 m3 (by omega)
  obtain ⟨b2, T2, l2, e2, a2, g2, s2, B2⟩ := AQ (rm := R) (mood := mood) (low := i + 1) B h0 h7 (by omega) (by omega) (by omega) m1 m3 (by omega)
  have hat : (T ++ [PL [R]])[n + 1]? = some (.lst (bls bs)) := by rw [mR (by omega)]; exact B.bod
  have hsl : (bls bs).length < sizeLine := by rw [ER]; exact Nat.lt_of_le_of_lt (show bs.length <= 3 by omega) (by decide)
  rw [show PL [R] = .lst [.int R] from rfl] at e1 e2 hat
  rw [Fs, loop];simp only [mU, dA, cM];rw [jF];cases wild with
  | true =>
   simp! [hR, Gu hat, e1, Gy a1 hsl];rw [<- jF];obtain ⟨bs', T', l', e, B', g', n'⟩ := uF (most := most) h0 h7 m1 m3 z3 z8 j (i + 1) (bs ++ [b1]) _ l1 B1 (by omega) (by simp; omega) (fun b hb => by
    rcases lM.mp hb with hb | hb
    ·exact g b hb
    ·rw [dQ.mp hb]; exact ⟨g1, by omega⟩)
   exact ⟨bs', T', l', e, B', g', by rw [n']; simp; omega⟩
  | false =>
   simp! [hR, Gu hat, e2, Gy a2 hsl];rw [<- jF];obtain ⟨bs', T', l', e, B', g', n'⟩ := uF (most := most) h0 h7 m1 m3 z3 z8 j (i + 1) (bs ++ [b2]) _ l2 B2 (by omega) (by simp; omega) (fun b hb => by
    rcases lM.mp hb with hb | hb
    ·exact g b hb
    ·rw [dQ.mp hb]; exact ⟨g2, by omega⟩)
   exact ⟨bs', T', l', e, B', g', by rw [n']; simp; omega⟩
structure Good (bs : List (List Stt)) : Prop where
 l1 : 1 <= bs.length
 l3 : bs.length <= 3
 gd : ∀ b ∈ bs, GdL (bs.length : Int) b 3 /\ bO b <= 8
theorem EO {S : aK} {p : Nat} {ks : List Int} {most size : Int} (hP : PoolAt S p ks) (ls : LS S) (m1 : 1 <= most) (m3 : most <= 3) (z3 : 3 <= size) (z8 : size <= 8) :
  ∃ (bs : List (List Stt)) (ks' : List Int), pN [.cel p, .dat (.int most), .dat (.int size)] S = .ok (.dat (.lst (bls bs))) (S.set p (PL ks')) /\ Good bs /\ (∀ b ∈ bs, (bO b : Int) <= size) /\ (bs.length : Int) <= most /\ ks'.length = ks.length := by
 obtain ⟨d1, k1, e1, h10, h11, l1⟩ := fE hP (k := 6) (by decide) (by decide)
 obtain ⟨d2, k2, e2, h20, h21, l2⟩ := fE (hP.next l1) (k := 8) (by decide) (by decide)
 obtain ⟨d3, k3, e3, h30, h31, l3⟩ := fE ((hP.next l1).next l2) (k := most) (by omega) (by omega)
 simp only [lQ] at e2 e3;have hp : p < S.length := (aH.mp hP.1).1;have P3 : PoolAt (S.set p (PL k3)) p k3 := ⟨nK hP.1, by have := hP.2; omega⟩
 have ls3 : LS (S.set p (PL k3)) := ls.set;have hS3 : (S.set p (PL k3)).length = S.length := by simp
 rw [show pN [.cel p, .dat (.int most), .dat (.int size)] S = trunc S.length (bQ (tA [some (.cel p), some (.dat (.int most)), some (.dat (.int size)), none, none, none, none, none, none, none, none] S)) from rfl]
 unfold tA;simp! [e1, e2, e3, oD (show -(2 ^ 62) <= 1 + d3 by omega) (show 1 + d3 < 2 ^ 62 by omega), zC, iV]
 have B : Bk p S.length k3.length S (1 + d3) 4 [] (S.set p (PL k3) ++ [PL [4, 1 + d3]] ++ [.lst []]) := by
  refine ⟨ls3.app.app, by have := hP.2; omega, hp, by simp, ⟨k3, ?_, rfl⟩, ?_, ?_, fun i hi hip => ?_⟩
  ·rw [mR (by simp; omega), mR (by simp; omega)]; exact P3.1
  ·rw [mR (by simp), <- hS3]; simp
  ·rw [show S.length + 1 = (S.set p (PL k3) ++ [PL [4, 1 + d3]]).length by simp]; simp [bls]
  ·rw [mR (by simp; omega), mR (by simp; omega), kG (Ne.symm hip)]
 obtain ⟨bs, T, l, e, B', g, nb⟩ := uF (p := p) (most := most) (wild := decide (d2 = 0)) (mood := d1) h10 (by omega) (by omega) (by omega) z3 z8 (1 + d3).toNat 0 [] _ 4 B (by omega) (by simp; omega) (fun b hb => nomatch hb)
 have nb' : bs.length = (1 + d3).toNat := by rw [nb]; simp
 have hm : (bs.length : Int) = 1 + d3 := by omega
 rw [show ([PL [4, 1 + d3]] : aK) = [.lst [.int 4, .int (1 + d3)]] from rfl, show PL k3 = .lst (k3.map D.int) from rfl] at e
 simp! [e, Lj B'.bod];obtain ⟨ks', hk, hkl⟩ := B'.pool;have hlen := B'.len;have et : (T.set (S.length + 1) Cell.dead).take S.length = S.set p (PL ks') := by
  apply vE
  intro i;rw [fC]
  by_cases hi : i < S.length
  ·rw [if_pos hi, kG (by omega)]
   by_cases hip : i = p
   ·rw [hip, hk, nK hP.1]
   ·rw [kG (Ne.symm hip)]; exact B'.old i hi hip
  ·rw [if_neg hi, List.getElem?_eq_none (by simp; omega)]
 refine ⟨bs, ks', ?_, ⟨by omega, by omega, fun b hb => ?_⟩, fun b hb => (g b hb).2, by omega, by omega⟩
 ·show trunc S.length (.ok (.dat (.lst (bls bs))) (T.set (S.length + 1) Cell.dead)) = _
  dsimp only [trunc];rw [et];have : ((S.set p (PL ks')).all fun c => c.below S.length) = true := aW.mpr fun c hc => (LS.set ls : LS (S.set p (PL ks'))) c hc _
  simp only [Vl.below, this, Bool.and_self, if_true]
 ·have := (g b hb).2
  rw [hm];exact ⟨(g b hb).1, by omega⟩
theorem Good.ok {bs : List (List Stt)} (h : Good bs) : ∀ b ∈ bs, OkL (bs.length : Int) b 3 := fun b hb => (h.gd b hb).1.ok (by have := (h.gd b hb).2; omega)
theorem good_none : ∀ {bs : List (List Stt)} {p : Int} {many : Int}, (∀ b ∈ bs, GdL many b 3 /\ bO b <= 8) -> rD p bs = none
 | [], p, many, _ => rfl
 | b :: r, p, many, h => by
  obtain ⟨h1, h2⟩ := h b (aY ..);rw [rD, kA (n := 3) h1 (by omega) (by omega) (by omega) (by omega) (by omega) (by omega)]
  exact good_none fun b hb => h b (aU _ hb)
theorem Good.none {bs : List (List Stt)} (h : Good bs) : rD 0 bs = none := good_none h.gd
theorem GdL.okTop {many : Int} : ∀ {l : List Stt} {n : Nat}, GdL many l n -> (∀ s ∈ l, s.size <= 9) -> l.length <= 10 -> OkL many l n
 | [], n, _, _, _ => trivial
 | s :: r, n, h, h9, hl => by
  simp only [bE] at hl;exact ⟨⟨Stt.Gd.ok h.1 (by have := h9 s (aY ..); omega), by omega⟩, GdL.okTop h.2 (fun s hs => h9 s (aU _ hs)) (by omega)⟩
structure Good2 (bs : List (List Stt)) : Prop where
 l1 : 1 <= bs.length
 l3 : bs.length <= 3
 gd : ∀ b ∈ bs, GdL (bs.length : Int) b 3 /\ b.length <= 8 /\ bO b <= 12 /\ ∀ s ∈ b, s.size <= 9
theorem Ba : ∀ {l : List Stt} {s : Stt}, s ∈ l -> s.size <= bO l
 | x :: r, s, h => by
  rcases fK.mp h with rfl | h
  ·simp [bO]
  ·have := Ba h; simp [bO]; omega
theorem Good.two {bs : List (List Stt)} (h : Good bs) : Good2 bs := ⟨h.l1, h.l3, fun b hb => by
 obtain ⟨h1, h2⟩ := h.gd b hb;have := fV b;exact ⟨h1, by omega, by omega, fun s hs => by have := Ba hs; omega⟩⟩
theorem Good2.ok {bs : List (List Stt)} (h : Good2 bs) : ∀ b ∈ bs, OkL (bs.length : Int) b 3 := fun b hb => by
 obtain ⟨h1, h2, h3, h4⟩ := h.gd b hb;exact h1.okTop h4 (by omega)
def Stt.isCall : Stt -> Bool
 | .call _ _ _ _ => true
 | _ => false
def Cmd.word : Cmd -> Str
 | .go _ => "go"
 | .turn _ => "turn"
 | .mirror => "mirror"
 | .scale _ => "scale"
 | .aim _ _ => "aim"
 | .place _ _ => "place"
 | .mark => "mark"
 | .ret => "return"
 | .exch => "exchange"
def Stt.word : Stt -> Str
 | .cmd c => c.word
 | .fin _ => "end"
 | .keep _ => "keep"
 | .again _ => "again"
 | .either _ _ => "either"
 | .call _ _ _ _ => "call"
 | _ => "bad"
theorem Aw {s : Stt} {S : aK} (h : s.isOdd = false) : cV (.dat s.d) (.dat (.int 0)) S = .ok (.dat (.str s.word)) S := by
 cases s with
 | cmd c => cases c <;> rfl
 | odd x => cases h
 | _ => rfl
theorem EV {s : Stt} {S : aK} : eK (.dat (.str s.word)) (.dat (.str "call")) S = .ok (.dat (.bl s.isCall)) S := by
 cases s with
 | cmd c => cases c <;> rfl
 | _ => rfl
end PH
namespace PH
open PySem PySem.Spec PyProof.Rows L2
def AB (S : aK) : Prop := ∀ c ∈ S, c.below S.length = true
theorem rT {m n : Nat} (h : m <= n) : ∀ {v : Vl}, v.below m = true -> v.below n = true
 | .dat _, _ => rfl
 | .cel k, q => by
  simp only [Vl.below, decide_eq_true_eq] at q ⊢;omega
 | .cels ks, q => by
  simp only [Vl.below, aW, decide_eq_true_eq] at q ⊢;intro k hk;have := q k hk;omega
 | .scr _, _ => rfl
 | .tc xs, q => by
  simp only [Vl.below, aW] at q ⊢;exact fun x hx => C4 h x (q x hx)
theorem AO {m n : Nat} (h : m <= n) {c : Cell} (q : c.below m = true) : c.below n = true := by
 cases c with
 | dead => rfl
 | lst ds => rfl
 | ins C fs => simp only [Cell.below, aW] at q ⊢; exact fun x hx => rT h (q x hx)
 | dct fs => simp only [Cell.below, aW] at q ⊢; exact fun x hx => rT h (q x hx)
 | lv xs => simp only [Cell.below, aW] at q ⊢; exact fun x hx => rT h (q x hx)
 | dki ks xs => simp only [Cell.below, aW] at q ⊢; exact fun x hx => rT h (q x hx)
 | dkt ks xs => simp only [Cell.below, aW] at q ⊢; exact fun x hx => rT h (q x hx)
theorem AB.app {S : aK} {c : Cell} (h : AB S) (hc : c.below S.length = true) : AB (S ++ [c]) := fun d hd => by
 rcases lM.mp hd with hd | hd
 ·exact AO (by simp) (h d hd)
 ·rw [dQ.mp hd]
  exact AO (by simp) hc
theorem AB.all {S : aK} (h : AB S) : (S.all fun c => c.below S.length) = true := aW.mpr h
def Grow (S T : aK) : Prop := AB T /\ ∃ J, T = S ++ J
theorem Grow.refl {S : aK} (h : AB S) : Grow S S := ⟨h, [], by simp⟩
theorem Grow.trans {S T U : aK} (h : Grow S T) (k : Grow T U) : Grow S U := by
 obtain ⟨_, J, rfl⟩ := h;obtain ⟨a, J2, rfl⟩ := k;exact ⟨a, J ++ J2, by simp⟩
theorem Grow.app {S T : aK} {c : Cell} (h : Grow S T) (hc : c.below T.length = true) : Grow S (T ++ [c]) := by
 obtain ⟨a, J, rfl⟩ := h;exact ⟨a.app hc, J ++ [c], by simp⟩
theorem Grow.get {S T : aK} (h : Grow S T) {n : Nat} {c : Cell} (hn : S[n]? = some c) : T[n]? = some c := by
 obtain ⟨_, J, rfl⟩ := h;rw [aJ (aH.mp hn).1, hn]
theorem Grow.tak {S T : aK} (h : Grow S T) : T.take S.length = S := by
 obtain ⟨_, J, rfl⟩ := h;simp
theorem Grow.trunc {S T : aK} {d : PH.D} (h : Grow S T) (a : AB S) : PH.trunc S.length (.ok (.dat d) T) = .ok (.dat d) S := by
 unfold PH.trunc;dsimp only;rw [h.tak, a.all];rfl
def All2 {α β : Type} (R : α -> β -> Prop) (xs : List α) (ys : List β) : Prop := ∃ ps : List (α × β), xs = ps.map Prod.fst /\ ys = ps.map Prod.snd /\ ∀ p ∈ ps, R p.1 p.2
theorem All2.imp {α β : Type} {R R' : α -> β -> Prop} {xs : List α} {ys : List β} (h : All2 R xs ys) (f : ∀ a b, R a b -> R' a b) : All2 R' xs ys := by
 obtain ⟨ps, h1, h2, h3⟩ := h;exact ⟨ps, h1, h2, fun p hp => f _ _ (h3 p hp)⟩
theorem All2.len {α β : Type} {R : α -> β -> Prop} {xs : List α} {ys : List β} (h : All2 R xs ys) : xs.length = ys.length := by
 obtain ⟨ps, rfl, rfl, h3⟩ := h;simp
theorem All2.nil {α β : Type} {R : α -> β -> Prop} : All2 R [] [] := ⟨[], rfl, rfl, fun _ h => by cases h⟩
theorem All2.cons {α β : Type} {R : α -> β -> Prop} {x : α} {y : β} {xs : List α} {ys : List β} (h : R x y) (k : All2 R xs ys) : All2 R (x :: xs) (y :: ys) := by
 obtain ⟨ps, rfl, rfl, h3⟩ := k;exact ⟨(x, y) :: ps, rfl, rfl, fun p hp => by
  rcases fK.mp hp with rfl | hp
  ·exact h
  ·exact h3 p hp⟩
theorem All2.mem {α β : Type} {R : α -> β -> Prop} {xs : List α} {ys : List β} (h : All2 R xs ys) {x : α} (hx : x ∈ xs) : ∃ y ∈ ys, R x y := by
 obtain ⟨ps, rfl, rfl, h3⟩ := h;obtain ⟨p, hp, rfl⟩ := gS.mp hx;exact ⟨p.2, gS.mpr ⟨p, hp, rfl⟩, h3 p hp⟩
def mJ : Stt -> Nat -> List Nat -> Vl
 | .keep _, _, [n] => .tc [.inl (.str "keep"), .inr n]
 | .again _, _, [n] => .tc [.inl (.str "again"), .inr n]
 | .either _ _, _, [n, m] => .tc [.inl (.str "either"), .inr n, .inr m]
 | .call g s _ _, k, _ => .tc [.inl (.str "call"), .inl (.int g), .inl (.bl s), .inr k]
 | s, _, _ => .dat s.d
def TrD (S : aK) : Nat -> Nat -> List Stt -> Prop
 | 0, _, _ => False
 | d + 1, n, l => ∃ xs, S[n]? = some (.lv xs) /\ All2 (fun v s => s.isOdd = false /\ ∃ k ns, v = mJ s k ns /\ (s.isCall = true -> S[k]? = some (.lv (ns.map .cel))) /\ All2 (TrD S d) ns s.blocks) xs l
theorem TrD.grow {S T : aK} (g : Grow S T) : ∀ {d n : Nat} {l : List Stt}, TrD S d n l -> TrD T d n l
 | 0, _, _, h => h.elim
 | d + 1, n, l, ⟨xs, h1, h2⟩ => ⟨xs, g.get h1, h2.imp fun v s ⟨ho, k, ns, e, h3, h4⟩ => ⟨ho, k, ns, e, fun h => g.get (h3 h), h4.imp fun _ _ h => TrD.grow g h⟩⟩
def TrV (S : aK) (d : Nat) (v : Vl) (s : Stt) : Prop := s.isOdd = false /\ ∃ k ns, v = mJ s k ns /\ (s.isCall = true -> S[k]? = some (.lv (ns.map .cel))) /\ All2 (TrD S d) ns s.blocks
theorem TrV.grow {S T : aK} (g : Grow S T) {d : Nat} {v : Vl} {s : Stt} (h : TrV S d v s) : TrV T d v s := by
 obtain ⟨ho, k, ns, e, h3, h4⟩ := h;exact ⟨ho, k, ns, e, fun h => g.get (h3 h), h4.imp fun _ _ h => TrD.grow g h⟩
theorem TrD.lt {S : aK} {d n : Nat} {l : List Stt} (h : TrD S d n l) : n < S.length := by
 cases d with
 | zero => exact h.elim
 | succ d => obtain ⟨xs, h1, _⟩ := h; exact (aH.mp h1).1
theorem tJ {α β : Type} {R : α -> β -> Prop} {xs : List α} {a b : β} (h : All2 R xs [a, b]) : ∃ x y, xs = [x, y] /\ R x a /\ R y b := by
 obtain ⟨ps, rfl, e, h3⟩ := h
 match ps, e with
 | [p, q], e => cases e; exact ⟨p.1, q.1, rfl, h3 p (by simp), h3 q (by simp)⟩
 | [], e => cases e
 | [_], e => cases e
 | _ :: _ :: _ :: _, e => simp at e
theorem qH {α β : Type} {R : α -> β -> Prop} {xs : List α} {a : β} (h : All2 R xs [a]) : ∃ x, xs = [x] /\ R x a := by
 obtain ⟨ps, rfl, e, h3⟩ := h
 match ps, e with
 | [p], e => cases e; exact ⟨p.1, rfl, h3 p (by simp)⟩
 | [], e => cases e
 | _ :: _ :: _, e => simp at e
theorem TrV.bel {S : aK} {d : Nat} {v : Vl} {s : Stt} (h : TrV S d v s) : v.below S.length = true := by
 obtain ⟨ho, k, ns, rfl, h3, h4⟩ := h;cases s with
 | keep b => obtain ⟨n, rfl, h5⟩ := qH h4; have := h5.lt; simp [mJ, Vl.below, Cd, this]
 | again b => obtain ⟨n, rfl, h5⟩ := qH h4; have := h5.lt; simp [mJ, Vl.below, Cd, this]
 | either a b => obtain ⟨n, m, rfl, h5, h6⟩ := tJ h4; have := h5.lt; have := h6.lt; simp [mJ, Vl.below, Cd, *]
 | call g s a b => have := (aH.mp (h3 rfl)).1; simp [mJ, Vl.below, Cd, this]
 | cmd c => rfl
 | fin w => rfl
 | bad => rfl
 | odd x => cases ho
theorem xC {α : Type} {P : aK -> Vl -> α -> Prop} (mono : ∀ S T v x, Grow S T -> P S v x -> P T v x) {f : α -> PH.D} {t : Tg} {me : FE} {ρ : Ev} : ∀ {xs : List α} {S : aK}, (∀ x ∈ xs, ∀ S, AB S -> ∃ ρ1 v T, mU t (.dat (f x)) ρ = some ρ1 /\ me ρ1 S = .ok v T /\ Grow S T /\ P T v x) -> AB S -> ∃ vs T, sH t fJ me ρ (xs.map f) S = .ok vs T /\ Grow S T /\ All2 (P T) vs xs
 | [], S, _, a => ⟨[], S, rfl, Grow.refl a, All2.nil⟩
 | x :: xs, S, h, a => by
  obtain ⟨ρ1, v, T, h1, h2, g1, p1⟩ := h x (aY ..) S a;obtain ⟨vs, U, h3, g2, p2⟩ := xC mono (xs := xs) (S := T) (fun y hy => h y (aU _ hy)) g1.1
  refine ⟨v :: vs, U, ?_, g1.trans g2, All2.cons (mono _ _ _ _ g2 p1) p2⟩
  rw [aM, sH, h1];dsimp only [fJ];rw [if_pos rfl, h2];dsimp only;rw [h3]
theorem lD {α : Type} {P : aK -> Vl -> α -> Prop} (mono : ∀ S T v x, Grow S T -> P S v x -> P T v x) (bel : ∀ S v x, P S v x -> v.below S.length = true) {f : α -> PH.D} {t : Tg} {me : FE} {ρ : Ev} {vs : List Nat} {xs : List α} {S : aK} (hl : xs.length <= 1000) (h : ∀ x ∈ xs, ∀ S, AB S -> ∃ ρ1 v T, mU t (.dat (f x)) (wipeE ρ vs) = some ρ1 /\ me ρ1 S = .ok v T /\ Grow S T /\ P T v x) (a : AB S) : ∃ n ys T, C0 t fJ me vs ρ (xs.map f) S = .ok (.cel n) T /\ Grow S T /\ T[n]? = some (.lv ys) /\ All2 (P T) ys xs := by
 obtain ⟨ys, T, h1, g, p⟩ := xC mono h a;have b : (Cell.lv ys).below T.length = true := by
  simp only [Cell.below, aW];intro y hy;obtain ⟨x, hx, q⟩ := p.mem hy;exact bel _ _ _ q
 refine ⟨T.length, ys, T ++ [.lv ys], ?_, g.app b, by simp, p.imp fun v x q => mono _ _ _ _ ((Grow.refl g.1).app b) q⟩
 unfold C0;rw [aQ, if_pos (sz hl), h1];rfl
theorem DP {ns : List Nat} : jK toJ (ns.map Vl.cel) = some (ns.map TIt.inr) := by
 induction ns with
 | nil => rfl
 | cons n r ih => rw [aM, jK, ih]; rfl
theorem KE {s : Stt} {S : aK} {k : Nat} {ns : List Nat} (ho : s.isOdd = false) (hk : S[k]? = some (.lv (ns.map .cel))) (hl : ns.length = s.blocks.length) : gW [.dat s.d, .cel k] S = .ok (mJ s k ns) S := by
 rw [vB];unfold gZ;have tc : ∀ {xs : List Vl} {js : List TIt} {T : aK}, jK toJ xs = some js -> js.length <= 10 -> Jr xs T = .ok (.tc js) T := fun {xs js T} h hl => by
  unfold Jr;rw [h];dsimp only;rw [if_pos (sz (by omega))]
 cases s with
 | cmd c => cases c <;> (simp! [Stt.d, Cmd.d, cH]; rfl)
 | fin w => simp! [Stt.d, cH]; rfl
 | keep b =>
  match ns, hl with
  | [n], _ =>
   have i0 := A3 (k := 0) hk (d := .cel n) rfl;simp! [Stt.d, cH, pS, i0, tc (xs := [.dat (.str "keep"), .cel n]) rfl (by simp)]
   rfl
 | again b =>
  match ns, hl with
  | [n], _ =>
   have i0 := A3 (k := 0) hk (d := .cel n) rfl;simp! [Stt.d, cH, pS, i0, tc (xs := [.dat (.str "again"), .cel n]) rfl (by simp)]
   rfl
 | either a b =>
  match ns, hl with
  | [n, m], _ =>
   have i0 := A3 (k := 0) hk (d := .cel n) rfl;have i1 := A3 (k := 1) hk (d := .cel m) rfl;simp! [Stt.d, cH, pS, i0, i1, tc (xs := [.dat (.str "either"), .cel n, .cel m]) rfl (by simp)]
   rfl
 | call g s a b =>
  simp! [Stt.d, cH, pQ, Ax, pS, tc (xs := [.dat (.str "call"), .dat (.int g), .dat (.bl s), .cel k]) rfl (by simp)]
  rfl
 | bad => simp! [Stt.d, cH]; rfl
 | odd x => cases ho
theorem Hc {s : Stt} {S : aK} {k : Nat} {ns : List Nat} (ho : s.isOdd = false) (hk : S[k]? = some (.lv (ns.map .cel))) (hl : ns.length = s.blocks.length) : nY [.dat s.d, .cel k] S = .ok (mJ s k ns) S := by
 rw [DX];unfold oF;have tc : ∀ {xs : List Vl} {js : List TIt} {T : aK}, jK toJ xs = some js -> js.length <= 10 -> Jr xs T = .ok (.tc js) T := fun {xs js T} h hl => by
  unfold Jr;rw [h];dsimp only;rw [if_pos (sz (by omega))]
 have ln : kB (.cel k) S = .ok (.dat (.int (ns.length : Int))) S := by
  rw [xH hk, aQ]
 have tp : A7 (.cel k) S = .ok (.tc (ns.map .inr)) S := by
  unfold A7;dsimp only;rw [hk];dsimp only;rw [DP]
 have ad : ∀ {w : Str} {ms : List Nat}, ms.length <= 10 -> pU (.tc [.inl (.str w)]) (.tc (ms.map .inr)) S = .ok (.tc (.inl (.str w) :: ms.map .inr)) S := fun {w ms} h => by
  unfold pU Aa;dsimp only;rw [if_pos (by simp only [aQ, bE, bS]; exact sz (by omega))]
  rfl
 cases s with
 | cmd c =>
  have h0 : ns = [] := cP.mp hl;subst h0;cases c <;> (simp! [Stt.d, Cmd.d, cH, ln, bS]; rfl)
 | fin w =>
  have h0 : ns = [] := cP.mp hl;subst h0;simp! [Stt.d, cH, ln, bS];rfl
 | keep b =>
  match ns, hl with
  | [n], _ =>
   simp! [Stt.d, cH, ln, pS, tc (xs := [.dat (.str "keep")]) rfl (by simp), tp, ad (w := "keep") (ms := [n]) (by simp)]
   rfl
 | again b =>
  match ns, hl with
  | [n], _ =>
   simp! [Stt.d, cH, ln, pS, tc (xs := [.dat (.str "again")]) rfl (by simp), tp, ad (w := "again") (ms := [n]) (by simp)]
   rfl
 | either a b =>
  match ns, hl with
  | [n, m], _ =>
   simp! [Stt.d, cH, ln, pS, tc (xs := [.dat (.str "either")]) rfl (by simp), tp, ad (w := "either") (ms := [n, m]) (by simp)]
   rfl
 | call g s a b =>
  have ac : pU (.dat (.tup [.str "call", .int g, .bl s])) (.tc [.inr k]) S = .ok (.tc [.inl (.str "call"), .inl (.int g), .inl (.bl s), .inr k]) S := by
   unfold pU Aa;dsimp only;rw [if_pos (by show 4 <= 16777216; decide)]
   rfl
  simp! [Stt.d, cH, K5, pS, tc (xs := [.cel k]) rfl (by simp), ac]
  rfl
 | bad =>
  have h0 : ns = [] := cP.mp hl;subst h0;simp! [Stt.d, cH, ln, bS];rfl
 | odd x => cases ho
theorem uI {S : aK} {d : Nat} {vs : List Vl} {bs : List (List Stt)} (h : All2 (fun v b => ∃ n, v = .cel n /\ TrD S d n b) vs bs) : ∃ ns, vs = ns.map Vl.cel /\ All2 (TrD S d) ns bs := by
 obtain ⟨ps, rfl, rfl, h3⟩ := h
 induction ps with
 | nil => exact ⟨[], rfl, All2.nil⟩
 | cons p ps ih =>
  obtain ⟨ns, e, h⟩ := ih fun q hq => h3 q (aU _ hq)
  obtain ⟨n, e2, h2⟩ := h3 p (aY ..);exact ⟨n :: ns, by rw [aM, aM, e, e2], All2.cons h2 h⟩
abbrev CelP (d : Nat) : aK -> Vl -> List Stt -> Prop := fun S v b => ∃ n, v = .cel n /\ TrD S d n b
theorem CelP.mono {d : Nat} : ∀ S T v b, Grow S T -> CelP d S v b -> CelP d T v b := fun S T v b g ⟨n, e, h⟩ => ⟨n, e, h.grow g⟩
theorem CelP.bel {d : Nat} : ∀ S v b, CelP d S v b -> v.below S.length = true := fun S v b ⟨n, e, h⟩ => by
 have := h.lt;simp [e, Vl.below, this]
theorem Jh {S T : aK} {d k : Nat} {s : Stt} {ys : List Vl} (ho : s.isOdd = false) (h : T[k]? = some (.lv ys)) (p : All2 (CelP d T) ys s.blocks) : ∃ ns, T[k]? = some (.lv (ns.map .cel)) /\ ns.length = s.blocks.length /\ TrV T d (mJ s k ns) s := by
 obtain ⟨ns, rfl, q⟩ := uI p;exact ⟨ns, h, q.len, ho, k, ns, rfl, fun _ => h, q⟩
def CopyW (n : Nat) : Prop := (∀ {S : aK} {many : Int} {s : Stt} {k : Nat}, s.Ok many k -> 2 * k + 1 <= n -> AB S -> ∃ v T, cW n [.dat s.d] S = .ok v T /\ Grow S T /\ TrV T k v s) /\ ∀ {S : aK} {many : Int} {l : List Stt} {k : Nat}, OkL many l k -> 2 * k + 2 <= n -> AB S -> ∃ c T, cC n [.dat (.lst (bG l))] S = .ok (.cel c) T /\ Grow S T /\ TrD T (k + 1) c l
theorem MB (n : Nat) : CopyW n := by
 induction n with
 | zero => exact ⟨fun _ h => by omega, fun _ h => by omega⟩
 | succ n ih =>
  refine ⟨fun {S many s k} h hn a => ?_, fun {S many l k} h hn a => ?_⟩
  ·rw [show cW (n + 1) [.dat s.d] S = bQ (dZ (cC n) [some (.dat s.d), none] S) from rfl]
   unfold dZ;simp! [A2, uH h.no];obtain ⟨c, ys, T, e, g, ht, p⟩ := lD (P := CelP k) (t := .nm 1) (me := aR (cC n) (aC (aE 1) aL)) (ρ := [some (.dat s.d), none]) (vs := [1]) (S := S) (f := fun b => .lst (bG b)) CelP.mono CelP.bel (xs := s.blocks) (by have := jJ (s := s); omega) (fun b hb S a => by
    obtain ⟨h1, h2⟩ := nG h b hb;obtain ⟨c, T, e, g, q⟩ := ih.2 (S := S) h2 (by omega) a
    refine ⟨[some (.dat s.d), some (.dat (.lst (bG b)))], .cel c, T, rfl, ?_, g, c, rfl, ?_⟩
    ·simp! [e]
    ·rw [show k = k - 1 + 1 by omega]; exact q) a
   rw [show bls s.blocks = s.blocks.map (fun b => .lst (bG b)) from rfl, e]
   obtain ⟨ns, h1, h2, h3⟩ := Jh (S := S) h.no ht p;simp! [KE h.no h1 h2];exact ⟨_, T, rfl, g, h3⟩
  ·rw [show cC (n + 1) [.dat (.lst (bG l))] S = bQ (gH (cW n) [some (.dat (.lst (bG l))), none] S) from rfl]
   unfold gH;simp! [A2, nA];obtain ⟨c, ys, T, e, g, ht, p⟩ := lD (P := fun S v s => TrV S k v s) (t := .nm 1) (me := aR (cW n) (aC (aE 1) aL)) (ρ := [some (.dat (.lst (l.map Stt.d))), none]) (vs := [1]) (S := S) (f := Stt.d) (fun _ _ _ _ g h => TrV.grow g h) (fun _ _ _ h => h.bel) (xs := l) (by have := h.len; omega) (fun s hs S a => by
    obtain ⟨v, T, e, g, q⟩ := ih.1 (S := S) (h.mem s hs) (by omega) a
    refine ⟨[some (.dat (.lst (l.map Stt.d))), some (.dat s.d)], v, T, rfl, ?_, g, q⟩
    simp! [e]) a
   rw [e];exact ⟨c, T, rfl, g, ys, ht, p⟩
theorem Hf {many : Int} (n : Nat) : ∀ {S : aK} {l : List Stt} {k : Nat}, OkL many l k -> k + 1 <= n -> AB S -> ∃ c T, eB n [.dat (.lst (bG l))] S = .ok (.cel c) T /\ Grow S T /\ TrD T (k + 1) c l := by
 induction n with
 | zero => intro S l k h hn; omega
 | succ n ih =>
  intro S l k h hn a;rw [DZ];unfold oH;simp! [A2, nA];obtain ⟨c, ys, T, e, g, ht, p⟩ := lD (P := fun S v s => TrV S k v s) (t := .nm 1) (me := kY (eB n)) (ρ := [some (.dat (.lst (l.map Stt.d))), none, none]) (vs := [1]) (S := S) (f := Stt.d) (fun _ _ _ _ g h => TrV.grow g h) (fun _ _ _ h => h.bel) (xs := l) (by have := h.len; omega) (fun s hs S a => by
   have ho := h.mem s hs;obtain ⟨c, ys, T, e, g, ht, p⟩ := lD (P := CelP k) (t := .nm 2) (me := aR (eB n) (aC (aE 2) aL)) (ρ := [some (.dat (.lst (l.map Stt.d))), some (.dat s.d), none]) (vs := [2]) (S := S) (f := fun b => .lst (bG b)) CelP.mono CelP.bel (xs := s.blocks) (by have := jJ (s := s); omega) (fun b hb S a => by
    obtain ⟨h1, h2⟩ := nG ho b hb;obtain ⟨c, T, e, g, q⟩ := ih (S := S) h2 (by omega) a
    refine ⟨[some (.dat (.lst (l.map Stt.d))), some (.dat s.d), some (.dat (.lst (bG b)))], .cel c, T, rfl, ?_, g, c, rfl, ?_⟩
    ·simp! [e]
    ·rw [show k = k - 1 + 1 by omega]; exact q) a
   obtain ⟨ns, h1, h2, h3⟩ := Jh (S := S) ho.no ht p;refine ⟨[some (.dat (.lst (l.map Stt.d))), some (.dat s.d), none], mJ s c ns, T, rfl, ?_, g, h3⟩
   unfold kY;simp! [A2, Cb ho.no];rw [show bls s.blocks = s.blocks.map (fun b => .lst (bG b)) from rfl, e]
   simp! [Hc ho.no h1 h2]) a
  rw [e];exact ⟨c, T, rfl, g, ys, ht, p⟩
theorem DV {many : Int} {bs : List (List Stt)} {S : aK} {k : Nat} (hb : ∀ b ∈ bs, OkL many b k) (hk : k <= 9) (hl : bs.length <= 10) (a : AB S) : ∃ c ns T, kT [.dat (.lst (bls bs))] S = .ok (.cel c) T /\ Grow S T /\ T[c]? = some (.lv (ns.map .cel)) /\ All2 (TrD T (k + 1)) ns bs := by
 rw [BK];unfold lA;simp! [A2];obtain ⟨c, ys, T, e, g, ht, p⟩ := lD (P := CelP (k + 1)) (t := .nm 1) (me := aR (eB 10) (aC (aE 1) aL)) (ρ := [some (.dat (.lst (bls bs))), none]) (vs := [1]) (S := S) (f := fun b => .lst (bG b)) CelP.mono CelP.bel (xs := bs) (by omega) (fun b hb' S a => by
  obtain ⟨c, T, e, g, q⟩ := Hf 10 (S := S) (hb b hb') (by omega) a
  refine ⟨[some (.dat (.lst (bls bs))), some (.dat (.lst (bG b)))], .cel c, T, rfl, ?_, g, c, rfl, q⟩
  simp! [e]) a
 have e' : C0 (.nm 1) fJ (aR (eB 10) (aC (aE 1) aL)) [1] [some (.dat (.lst (bls bs))), none] (bls bs) S = .ok (.cel c) T := e;rw [e'];obtain ⟨ns, rfl, q⟩ := uI p;exact ⟨c, ns, T, rfl, g, ht, q⟩
theorem HV {many : Int} {bs : List (List Stt)} {S : aK} {k : Nat} (hb : ∀ b ∈ bs, OkL many b k) (hk : k <= 9) (hl : bs.length <= 10) (a : AB S) : ∃ c ns T, gY [.dat (eD bs)] S = .ok (.cel c) T /\ Grow S T /\ T[c]? = some (.lv (ns.map .cel)) /\ All2 (TrD T (k + 1)) ns bs := by
 rw [vD];unfold hE eD;simp! [A2, fD, cO];obtain ⟨c, ys, T, e, g, ht, p⟩ := lD (P := CelP (k + 1)) (t := .nm 1) (me := aR (cC 20) (aC (aE 1) aL)) (ρ := [some (.dat (.ins "Book" ["own"] [.lst (bls bs)])), none]) (vs := [1]) (S := S) (f := fun b => .lst (bG b)) CelP.mono CelP.bel (xs := bs) (by omega) (fun b hb' S a => by
  obtain ⟨c, T, e, g, q⟩ := (MB 20).2 (S := S) (hb b hb') (by omega) a
  refine ⟨[some (.dat (.ins "Book" ["own"] [.lst (bls bs)])), some (.dat (.lst (bG b)))], .cel c, T, rfl, ?_, g, c, rfl, q⟩
  simp! [e]) a
 have e' : C0 (.nm 1) fJ (aR (cC 20) (aC (aE 1) aL)) [1] [some (.dat (.ins "Book" ["own"] [.lst (bls bs)])), none] (bls bs) S = .ok (.cel c) T := e;rw [e'];obtain ⟨ns, rfl, q⟩ := uI p;exact ⟨c, ns, T, rfl, g, ht, q⟩
theorem kJ {xs : List TIt} {k : Int} {j : TIt} {S : aK} (h : atI xs k = some j) : kL (.tc xs) (.dat (.int k)) S = .ok (KZ j) S := by
 unfold kL JV;dsimp only;rw [h]
theorem xD {s : Stt} {k : Nat} {ns : List Nat} {S : aK} (ho : s.isOdd = false) (hl : ns.length = s.blocks.length) : kL (mJ s k ns) (.dat (.int 0)) S = .ok (.dat (.str s.word)) S := by
 cases s with
 | keep b => match ns, hl with | [n], _ => exact kJ (j := .inl (.str "keep")) FP
 | again b => match ns, hl with | [n], _ => exact kJ (j := .inl (.str "again")) FP
 | either a b => match ns, hl with | [n, m], _ => exact kJ (j := .inl (.str "either")) FP
 | call g s a b => exact kJ (j := .inl (.str "call")) FP
 | cmd c => exact Aw (s := .cmd c) rfl
 | fin w => exact Aw (s := .fin w) rfl
 | bad => exact Aw (s := .bad) rfl
 | odd x => cases ho
def MF (s : Stt) (ns : List Nat) : aK := if s.isCall then [] else [.lv (ns.map .cel)]
def boN (S : aK) (s : Stt) (k : Nat) : Nat := if s.isCall then k else S.length
theorem CS {s : Stt} {k : Nat} {ns : List Nat} {S : aK} (ho : s.isOdd = false) (hl : ns.length = s.blocks.length) : jP [mJ s k ns] S = .ok (.cel (boN S s k)) (S ++ MF s ns) := by
 rw [yY];unfold jU;have iw := xD (S := S) (k := k) ho hl;cases s with
 | keep b =>
  match ns, hl with
  | [n], _ =>
   have i1 : kL (mJ (.keep b) k [n]) (.dat (.int 1)) S = .ok (.cel n) S := kJ (j := .inr n) FN;simp! [iw, Stt.word, i1, rJ, xI];rfl
 | again b =>
  match ns, hl with
  | [n], _ =>
   have i1 : kL (mJ (.again b) k [n]) (.dat (.int 1)) S = .ok (.cel n) S := kJ (j := .inr n) FN;simp! [iw, Stt.word, i1, rJ, xI];rfl
 | either a b =>
  match ns, hl with
  | [n, m], _ =>
   have i1 : kL (mJ (.either a b) k [n, m]) (.dat (.int 1)) S = .ok (.cel n) S := kJ (j := .inr n) FN;have i2 : kL (mJ (.either a b) k [n, m]) (.dat (.int 2)) S = .ok (.cel m) S := kJ (j := .inr m) MH;have k2 : ∀ {x y : Vl}, Dz [x, y] S = .ok (.cel S.length) (S ++ [.lv [x, y]]) := fun {x y} => rfl
   simp! [iw, Stt.word, i1, i2, rJ, k2];rfl
 | call g s a b =>
  have i3 : kL (mJ (.call g s a b) k ns) (.dat (.int 3)) S = .ok (.cel k) S := kJ (j := .inr k) MG;simp! [iw, Stt.word, i3];simp [boN, MF, Stt.isCall];rfl
 | cmd c =>
  have h0 : ns = [] := cP.mp hl;subst h0;cases c <;> (simp! [iw, Stt.word, Cmd.word, rJ, xJ]; rfl)
 | fin w =>
  have h0 : ns = [] := cP.mp hl;subst h0;simp! [iw, Stt.word, rJ, xJ];rfl
 | bad =>
  have h0 : ns = [] := cP.mp hl;subst h0;simp! [iw, Stt.word, rJ, xJ];rfl
 | odd x => cases ho
theorem KF {s : Stt} {S : aK} {k : Nat} {ns : List Nat} (ho : s.isOdd = false) (hl : ns.length = s.blocks.length) : gX [mJ s k ns, .dat (.lst (bls s.blocks))] S = .ok (.dat s.d) S := by
 rw [vC];unfold hC;have iw := xD (S := S) (k := k) ho hl;have fz : ∀ {d : PH.D}, C2 (.dat d) S = .ok (.dat d) S := fun {d} => rfl
 have gz : ∀ {a : FE} {ρ : Ev}, G7 a ρ S = (a ρ S).bind C2 := fun {a ρ} => rfl
 cases s with
 | keep b =>
  match ns, hl with
  | [n], _ => simp! [iw, Stt.word, Stt.blocks, bls, aM, bC, Ay]; rfl
 | again b =>
  match ns, hl with
  | [n], _ => simp! [iw, Stt.word, Stt.blocks, bls, aM, bC, Ay]; rfl
 | either a b =>
  match ns, hl with
  | [n, m], _ => simp! [iw, Stt.word, Stt.blocks, bls, aM, bC, Ay, GQ]; rfl
 | call g s a b =>
  have i1 : kL (mJ (.call g s a b) k ns) (.dat (.int 1)) S = .ok (.dat (.int g)) S := kJ (j := .inl (.int g)) FN;have i2 : kL (mJ (.call g s a b) k ns) (.dat (.int 2)) S = .ok (.dat (.bl s)) S := kJ (j := .inl (.bl s)) MH;simp! [iw, Stt.word, Stt.blocks, bls, aM, bC, i1, i2];rfl
 | cmd c => cases c <;> (simp! [iw, Stt.word, Cmd.word, gz, mJ, fz]; rfl)
 | fin w => simp! [iw, Stt.word, gz, mJ, fz]; rfl
 | bad => simp! [iw, Stt.word, gz, mJ, fz]; rfl
 | odd x => cases ho
theorem Jd {S : aK} {d : Nat} {s : Stt} {ns : List Nat} (a : AB S) (h : All2 (TrD S d) ns s.blocks) : Grow S (S ++ MF s ns) := by
 unfold MF;split
 ·simp only [cL]
  exact Grow.refl a
 ·refine (Grow.refl a).app ?_
  simp only [Cell.below, aW];intro v hv;obtain ⟨n, hn, rfl⟩ := gS.mp hv;obtain ⟨b, _, q⟩ := h.mem hn;have := q.lt;simp [Vl.below, this]
theorem ME {S : aK} {s : Stt} {k : Nat} {ns : List Nat} (h : s.isCall = true -> S[k]? = some (.lv (ns.map .cel))) : (S ++ MF s ns)[boN S s k]? = some (.lv (ns.map .cel)) := by
 unfold MF boN;split
 ·rename_i q
  simp only [cL];exact h q
 ·simp
def yF : Nat -> List Stt -> Prop
 | 0, l => l.length <= 10
 | d + 1, l => l.length <= 10 /\ ∀ s ∈ l, ∀ b ∈ s.blocks, yF d b
theorem Ad {many : Int} : ∀ {d k : Nat} {l : List Stt}, OkL many l k -> yF d l
 | 0, k, l, h => h.len
 | d + 1, k, l, h => ⟨h.len, fun s hs b hb => Ad (nG (h.mem s hs) b hb).2⟩
theorem MC (n : Nat) : (∀ {S : aK} {v : Vl} {s : Stt} {d : Nat}, TrV S d v s -> (∀ b ∈ s.blocks, yF d b) -> 2 * d + 1 <= n -> AB S -> cX n [v] S = .ok (.dat s.d) S) /\ ∀ {S : aK} {c : Nat} {l : List Stt} {d : Nat}, TrD S d c l -> yF d l -> 2 * d <= n -> AB S -> cD n [.cel c] S = .ok (.dat (.lst (bG l))) S := by
 induction n with
 | zero => exact ⟨fun _ _ h => by omega, fun {S c l d} h _ hn => by cases d with | zero => exact h.elim | succ d => omega⟩
 | succ n ih =>
  refine ⟨fun {S v s d} h hs hn a => ?_, fun {S c l d} h hs hn a => ?_⟩
  ·obtain ⟨ho, k, ns, rfl, h3, h4⟩ := h
   rw [show cX (n + 1) [mJ s k ns] S = trunc S.length (bQ (eA (cD n) [some (mJ s k ns), none] S)) from rfl]
   unfold eA;have g := Jd a h4;have hl := h4.len;simp! [Ge, CS ho hl];have h5 := h4.imp fun _ _ q => TrD.grow g q
   obtain ⟨ps, e1, e2, h6⟩ := h5;have e := tV (S := S ++ MF s ns) (n := boN S s k) (t := .nm 1) (ρ := [some (mJ s k ns), none]) (vs := [1]) (me := aR (cD n) (aC (aE 1) aL)) (f := fun p : Nat × List Stt => .cel p.1) (g := fun p => .lst (bG p.2)) (xs := ps) (by rw [iR (ME h3), e1, gR]; rfl) (by have := jJ (s := s); rw [e2, aQ] at this; omega) (fun p hp => by
    refine ⟨[some (mJ s k ns), some (.cel p.1)], rfl, ?_⟩
    have hb : p.2 ∈ s.blocks := by rw [e2]; exact gS.mpr ⟨p, hp, rfl⟩
    simp! [ih.2 (h6 p hp) (hs p.2 hb) (by omega) g.1])
   have hb : ps.map (fun p => D.lst (bG p.2)) = bls s.blocks := by rw [e2, bls, gR]; rfl
   simp! [e, hb, KF ho hl];exact g.trunc a
  ·cases d with
   | zero => exact h.elim
   | succ d =>
    obtain ⟨xs, h1, ps, rfl, rfl, h3⟩ := h;rw [show cD (n + 1) [.cel c] S = trunc S.length (bQ (gI (cX n) [some (.cel c), none] S)) from rfl]
    unfold gI;have e := tV (S := S) (n := c) (t := .nm 1) (ρ := [some (.cel c), none]) (vs := [1]) (me := aR (cX n) (aC (aE 1) aL)) (f := fun p : Vl × Stt => p.1) (g := fun p => p.2.d) (xs := ps) (iR h1) (by have := hs.1; rw [aQ] at this; omega) (fun p hp => by
     refine ⟨[some (.cel c), some p.1], rfl, ?_⟩
     simp! [ih.1 (h3 p hp) (fun b hb => hs.2 p.2 (gS.mpr ⟨p, hp, rfl⟩) b hb) (by omega) a])
    simp! [Ge, e];have hd : ps.map (fun p => p.2.d) = bG (ps.map Prod.snd) := by rw [nA, gR]; rfl
    rw [hd];exact (Grow.refl a).trunc a
theorem Ci {S : aK} : ∀ {d N c : Nat} {l : List Stt}, TrD S d c l -> 2 * d <= N -> EW S N c = some (.lst (bG l))
 | 0, N, c, l, h, _ => h.elim
 | d + 1, 0, c, l, h, hN => by omega
 | d + 1, N + 1, c, l, ⟨xs, h1, ps, e1, e2, h3⟩, hN => by
  have ih := fun {c : Nat} {l : List Stt} (h : TrD S d c l) => Ci (N := N) h (by omega)
  have ih2 : ∀ {M c : Nat} {l : List Stt}, N = M + 1 -> TrD S d c l -> EW S M c = some (.lst (bG l)) := fun hM h => Ci h (by omega)
  have one : ∀ p ∈ ps, Cg (EW S N) p.1 = some p.2.d := fun p hp => by
   obtain ⟨ho, k, ns, e, h4, h5⟩ := h3 p hp;rw [e];cases q : p.2 with
   | keep b => rw [q] at h5; obtain ⟨n, rfl, h6⟩ := qH h5; simp only [mJ, Cg, jK, Dd, ih h6, Stt.d]
   | again b => rw [q] at h5; obtain ⟨n, rfl, h6⟩ := qH h5; simp only [mJ, Cg, jK, Dd, ih h6, Stt.d]
   | either a b => rw [q] at h5; obtain ⟨n, m, rfl, h6, h7⟩ := tJ h5; simp only [mJ, Cg, jK, Dd, ih h6, ih h7, Stt.d]
   | call g s a b =>
    rw [q] at h5 h4;obtain ⟨n, m, rfl, h6, h7⟩ := tJ h5;cases N with
    | zero => omega
    | succ N =>
     have hc : EW S (N + 1) k = some (.lst [.lst (bG a), .lst (bG b)]) := by
      rw [EW, h4 rfl];simp only [aM, bC, jK, Cg, ih2 rfl h6, ih2 rfl h7]
     simp only [mJ, Cg, jK, Dd, hc, Stt.d]
   | cmd c => rfl
   | fin w => rfl
   | bad => rfl
   | odd x => rw [q] at ho; cases ho
  have all : ∀ ps : List (Vl × Stt), (∀ p ∈ ps, Cg (EW S N) p.1 = some p.2.d) -> jK (Cg (EW S N)) (ps.map Prod.fst) = some (bG (ps.map Prod.snd)) := by
   intro ps
   induction ps with
   | nil => intro _; rfl
   | cons p r ih => intro h; rw [aM, jK, h p (aY ..), ih fun q hq => h q (aU _ hq)]; rfl
  rw [EW, h1];dsimp only;rw [e1, all ps one, e2]
theorem uP {S : aK} {many : Int} {k c : Nat} {a : Option Vl} {ns : List Nat} {bs0 : List (List Stt)} (hc : S[c]? = some (.lv (ns.map .cel))) (hm : many = (ns.length : Int)) (hk : k <= 3) : ∀ (ps : List (Nat × List Stt)) (i K : Nat), (ps.map Prod.fst) = ns.drop i -> i + ps.length = ns.length -> (∀ p ∈ ps, TrD S 4 p.1 p.2 /\ OkL many p.2 k) -> rD (i : Nat) (ps.map Prod.snd) = none -> ps.length < K ->
  lW 2 3 gU c K i [a, some (.cel c), none, none, none, none] S = .next [a, some (.cel c), none, none, none, none] S
 | [], i, 0, _, _, _, _, hK => by omega
 | [], i, K + 1, hd, hl, _, _, hK => Ep (iR hc) (cF.mpr (by rw [aQ]; simp at hl; omega))
 | p :: r, i, 0, _, _, _, _, hK => by omega
 | p :: r, i, K + 1, hd, hl, h, hf, hK => by
  have hlt : i < ns.length := by simp at hl; omega
  rw [bW hlt, aM] at hd
  injection hd with hd1 hd2
  have ih := uP (a := a) (bs0 := bs0) hc hm hk r (i + 1) K hd2 (by simp at hl; omega) (fun q hq => h q (aU _ hq))
  obtain ⟨ht, hb⟩ := h p (aY ..);rw [aM, rD] at hf;cases q : qW 0 [] 0 p.2 0 with
  | fault pp mm => rw [q] at hf; cases hf
  | okk mm =>
  rw [q] at hf;have e1 : Cw 8 (bR 10) [.cel p.1, .dat (.int 0), .dat (.int (ns.length : Int)), .dat (.tup []), .dat (.int 0)] S = .ok (.dat (.tup [.non, .int mm])) S := by
   refine IW (es := [.lst (bG p.2), .int 0, .int (ns.length : Int), .tup [], .int 0]) ?_ ?_ rfl
   ·simp only [jK, Cg, Ci ht (show 2 * 4 <= 8 by omega)]
   ·have := CJ 10 (S := deadS S) (lv := 0) (many := many) (met := 0) (path := []) (k := k) hb.x (by omega) (by omega) (by simp) (by simp)
    rw [q] at this;rw [<- hm];exact this
  obtain ⟨xs, hx, _⟩ := ht;have ln : kB (.cel c) S = .ok (.dat (.int (ns.length : Int))) S := by rw [xH hc, aQ]
  have ih := ih (by rw [<- hf]; rfl) (by simp at hK; omega)
  rw [Cs (d := .cel p.1) (ρ2 := [a, some (.cel c), none, none, none, none]) (S2 := S) (iR hc) (by rw [cG, bA hlt, hd1]; rfl)]
  ·exact ih
  ·unfold gU
   simp! [g_rdN, e1, hx, ln]
theorem uZ {S : aK} {c : Nat} {k : Nat} {many : Int} {ρ : Ev} {ps : List (Nat × List Stt)} (hc : S[c]? = some (.lv ((ps.map Prod.fst).map .cel))) (a : AB S) (hr : ρ.length = 6) (h : ∀ p ∈ ps, TrD S 4 p.1 p.2 /\ OkL many p.2 k) (hl : ps.length <= 10) : Bz false (.nm 3) fJ (aR (cD 20) (aC (aE 3) aL)) [3] ρ (.cel c) S = .ok (.dat (.lst (bls (ps.map Prod.snd)))) S := by
 have e := tV (S := S) (n := c) (t := .nm 3) (ρ := ρ) (vs := [3]) (me := aR (cD 20) (aC (aE 3) aL)) (f := fun p : Nat × List Stt => .cel p.1) (g := fun p => .lst (bG p.2)) (xs := ps) (by rw [iR hc, gR]; rfl) (by omega) (fun p hp => by
  have e2 := Ct (d := .cel p.1) (ρ := wipeE ρ [3]) (i := 3) (by rw [zD]; omega)
  refine ⟨(wipeE ρ [3]).set 3 (some (.cel p.1)), rfl, ?_⟩
  obtain ⟨ht, ho⟩ := h p hp;simp (config := { implicitDefEqProofs := false }) only [DF, DE, GW, e2, tW, B4, Gc, B3, (MC 20).2 ht (Ad ho) (by omega) a])
 rw [e];have : ps.map (fun p => D.lst (bG p.2)) = bls (ps.map Prod.snd) := by rw [bls, gR]; rfl
 rw [this]
theorem Kd {S : aK} {c : Nat} {ns : List Nat} {bs : List (List Stt)} (a : AB S) (hc : S[c]? = some (.lv (ns.map .cel))) (h : All2 (TrD S 4) ns bs) (g : Good bs) : By false "Book" gN [.cel c] S = .ok (.dat (eD bs)) S := by
 have hl := h.len;obtain ⟨ps, rfl, rfl, h3⟩ := h;have g2 : Grow S (S ++ [Cell.ins "Book" []]) := (Grow.refl a).app rfl;have hT : ∀ p ∈ ps, TrD (S ++ [Cell.ins "Book" []]) 4 p.1 p.2 /\ OkL ((ps.map Prod.snd).length : Int) p.2 3 := fun p hp => ⟨(h3 p hp).grow g2, g.ok p.2 (gS.mpr ⟨p, hp, rfl⟩)⟩
 have l1 := g.l1;have l3 := g.l3;rw [aQ] at l1 l3;have hc2 := g2.get hc;have e1 := uP (a := some (.cel S.length)) (bs0 := []) (many := ((ps.map Prod.snd).length : Int)) hc2 (by simp) (show 3 <= 3 by omega) ps 0 1000000 rfl (by simp) hT g.none (by omega)
 have e2 := uZ (ρ := [some (.cel S.length), some (.cel c), none, none, none, none]) hc2 g2.1 rfl hT (by omega)
 have ln : kB (.cel c) (S ++ [Cell.ins "Book" []]) = .ok (.dat (.int (ps.length : Int))) (S ++ [Cell.ins "Book" []]) := by rw [xH hc2, aQ, aQ]
 have e3 : gN [.cel S.length, .cel c] (S ++ [.ins "Book" []]) = .ok (.dat .non) (S ++ [.ins "Book" [("own", .dat (.lst (bls (ps.map Prod.snd))))]]) := by
  rw [yZ];unfold jV;have hs : (S ++ [Cell.ins "Book" []])[S.length]? = some (.ins "Book" []) := by simp
  simp! [hc2, ln, decide_eq_true (show (1 : Int) <= (ps.length : Int) by omega), decide_eq_true (show (ps.length : Int) <= 3 by omega), Lr, J4, e1, Ge, e2, CA hs (by simp)]
  rw [EU _ _ (bN _), ET];have g3 : Grow (S ++ [Cell.ins "Book" [("own", .dat (.lst (bls (ps.map Prod.snd))))]]) (S ++ [Cell.ins "Book" [("own", .dat (.lst (bls (ps.map Prod.snd))))]]) := Grow.refl (a.app rfl);have := g3.trunc (d := .non) g3.1;simp only [iV, bE, bS] at this ⊢;exact this
 unfold By;rw [e3];dsimp only [made];have ta : ((S ++ [Cell.ins "Book" [("own", Vl.dat (.lst (bls (ps.map Prod.snd))))]]).take S.length) = S := by simp
 rw [show (S ++ [Cell.ins "Book" [("own", Vl.dat (.lst (bls (ps.map Prod.snd))))]])[S.length]? = some (.ins "Book" [("own", .dat (.lst (bls (ps.map Prod.snd))))]) by simp]
 dsimp only [yC];rw [ta, a.all];rfl
theorem Ds {S : aK} {bs : List (List Stt)} (a : AB S) (g : Good bs) : By false "Book" fQ [.dat (.lst (bls bs))] S = .ok (.dat (eD bs)) S := by
 unfold By;rw [Ii g.ok (by omega) rfl g.l1 g.l3 (by simp), g.none]
 dsimp only [made];rw [EU _ _ (bN _), ET];have ta : ((S ++ [Cell.ins "Book" [("own", Vl.dat (.lst (bls bs)))]]).take S.length) = S := by simp
 rw [show [Cell.ins "Book" []].set 0 (Cell.ins "Book" [("own", Vl.dat (.lst (bls bs)))]) = [Cell.ins "Book" [("own", Vl.dat (.lst (bls bs)))]] from rfl, show (S ++ [Cell.ins "Book" [("own", Vl.dat (.lst (bls bs)))]])[S.length]? = some (.ins "Book" [("own", .dat (.lst (bls bs)))]) by simp]
 dsimp only [yC];rw [ta, a.all];rfl
theorem E9 {S : aK} {ρ : Ev} {a : Option Vl} : ∀ {ns : List Nat}, (∀ n ∈ ns, ∃ xs, S[n]? = some (.lv xs)) -> oR (.nm 1) (dH (m1 (fIsi "list") (aE 1))) (aE 1) [a, none] (ns.map .inr) S = .ok (ns.map .cel) S
 | [], _ => rfl
 | n :: r, h => by
  obtain ⟨xs, hx⟩ := h n (aY ..);have ih := E9 (ρ := ρ) (a := a) (ns := r) fun m hm => h m (aU _ hm)
  rw [aM, oR];have e : dH (m1 (fIsi "list") (aE 1)) [a, some (.cel n)] S = .ok true S := by simp! [hx]
  simp only [mU, KZ, dA, cM, e, if_true, aE, lk];rw [ih];rfl
theorem E8 {S : aK} {a : Option Vl} : ∀ {ks : List Int}, oR (.nm 1) (dH (m1 (fIsi "list") (aE 1))) (aE 1) [a, none] ((ks.map PH.D.int).map .inl) S = .ok [] S
 | [] => rfl
 | k :: r => by
  have ih := E8 (S := S) (a := a) (ks := r);rw [aM, aM, oR];have e : dH (m1 (fIsi "list") (aE 1)) [a, some (.dat (.int k))] S = .ok false S := by simp! [if_true]
  simp only [mU, KZ, dA, cM, e];exact ih
theorem IG {s : Stt} (ho : s.isOdd = false) (hb : s.blocks = []) : ∃ (w : Str) (ks : List Int), s.d = .tup (.str w :: ks.map .int) := by
 cases s with
 | cmd c => cases c <;> first | exact ⟨_, [], rfl⟩ | exact ⟨_, [_], rfl⟩ | exact ⟨_, [_, _], rfl⟩
 | fin w => exact ⟨_, [w], rfl⟩
 | bad => exact ⟨_, [], rfl⟩
 | odd x => cases ho
 | keep b => cases hb
 | again b => cases hb
 | either a b => cases hb
 | call g s a b => cases hb
theorem cutJ1 {x : TIt} {r : List TIt} (h : r.length <= 10) : DM (x :: r) (some 1) none = r := by
 unfold DM;have e1 : HT.sIx (x :: r).length 0 (some 1) = 1 := by
  simp only [HT.sIx, bE]
  split <;> first | omega | (split <;> omega)
 have e2 : HT.sIx (x :: r).length (x :: r).length none = (x :: r).length := rfl;rw [e1, e2];simp
theorem DW {s : Stt} {k : Nat} {ns : List Nat} {S : aK} {d : Nat} (h : TrV S d (mJ s k ns) s) (hk : s.isCall = true -> S[k]? = some (.lv (ns.map .cel))) (hn : All2 (TrD S d) ns s.blocks) (ho : s.isOdd = false) : kU [mJ s k ns] S = .ok (.cel S.length) (S ++ [.lv (ns.map .cel)]) := by
 have hl := hn.len;have iw := xD (S := S) (k := k) ho hl;have hc : ∀ n ∈ ns, ∃ xs, S[n]? = some (.lv xs) := fun n hm => by
  obtain ⟨b, _, q⟩ := hn.mem hm;cases d with
  | zero => exact q.elim
  | succ d => obtain ⟨xs, h1, _⟩ := q; exact ⟨xs, h1⟩
 rw [BL];unfold lB;have sp : ∀ {x : TIt} {r : List TIt}, r.length <= 10 -> uX (.tc (x :: r)) (some 1) none S = .ok (.tc r) S := fun {x r} h => by
  unfold uX;dsimp only;rw [cutJ1 h]
 have kj : ∀ {ms : List Nat} {a : Option Vl}, ms.length <= 10 -> (∀ n ∈ ms, ∃ xs, S[n]? = some (.lv xs)) -> C1 true (.nm 1) (dH (m1 (fIsi "list") (aE 1))) (aE 1) [1] [a, none] (.tc (ms.map .inr)) S = .ok (.cel S.length) (S ++ [.lv (ms.map .cel)]) := fun {ms a} h h2 => by
  unfold C1;dsimp only [Aa];rw [if_pos (by rw [aQ]; omega), show wipeE [a, none] [1] = [a, none] from rfl, E9 (ρ := []) h2]
  rfl
 have wd : ∀ {w : Str}, s.word = w -> kL (mJ s k ns) (.dat (.int 0)) S = .ok (.dat (.str w)) S := fun e => e ▸ iw
 by_cases hb : s.blocks = []
 ·have h0 : ns = [] := by rw [hb] at hl; exact cP.mp hl
  subst h0;obtain ⟨w, ks, e⟩ := IG ho hb;have et : mJ s k [] = .dat s.d := by cases s <;> first | rfl | (cases hb) | (cases ho)
  have hcl : s.isCall = false := by cases s <;> first | rfl | (cases hb)
  have ec : eK (.dat (.str s.word)) (.dat (.str "call")) S = .ok (.dat (.bl false)) S := by rw [EV, hcl]
  have sl : uX (.dat s.d) (some 1) none S = .ok (.dat (.tup (ks.map .int))) S := by
   rw [e];unfold uX;dsimp only;rw [oW]
  have kl : C1 true (.nm 1) (dH (m1 (fIsi "list") (aE 1))) (aE 1) [1] [some (.dat s.d), none] (.dat (.tup (ks.map .int))) S = .ok (.cel S.length) (S ++ [.lv []]) := by
   unfold C1;dsimp only [Aa];have hks : ks.length <= 1000 := by
    cases s with
    | cmd c => cases c <;> (simp only [Stt.d, Cmd.d, PH.D.tup.injEq, List.cons.injEq] at e; have := congrArg iX e.2; simp at this; omega)
    | fin w => simp only [Stt.d, PH.D.tup.injEq, List.cons.injEq] at e; have := congrArg iX e.2; simp at this; omega
    | bad => simp only [Stt.d, PH.D.tup.injEq, List.cons.injEq] at e; have := congrArg iX e.2; simp at this; omega
    | odd x => cases ho
    | keep b => cases hb
    | again b => cases hb
    | either a b => cases hb
    | call g s a b => cases hb
   rw [if_pos (by rw [aQ, aQ]; exact hks), show wipeE [some (Vl.dat s.d), none] [1] = [some (.dat s.d), none] from rfl, E8]
   rfl
  rw [et] at iw ⊢;simp! [iw, ec, EA, Az, vJ, vI, vK, sl, kl];rfl
 ·cases s with
  | keep b =>
   match ns, hl with
   | [n], _ =>
    have sl : uX (mJ (.keep b) k [n]) (some 1) none S = .ok (.tc ([n].map .inr)) S := sp (by simp)
    simp! [iw, Stt.word, EA, Az, vJ, vI, vK, sl, kj (by simp) hc]
    rfl
  | again b =>
   match ns, hl with
   | [n], _ =>
    have sl : uX (mJ (.again b) k [n]) (some 1) none S = .ok (.tc ([n].map .inr)) S := sp (by simp)
    simp! [iw, Stt.word, EA, Az, vJ, vI, vK, sl, kj (by simp) hc]
    rfl
  | either a b =>
   match ns, hl with
   | [n, m], _ =>
    have sl : uX (mJ (.either a b) k [n, m]) (some 1) none S = .ok (.tc ([n, m].map .inr)) S := sp (by simp)
    simp! [iw, Stt.word, EA, Az, vJ, vI, vK, sl, kj (by simp) hc]
    rfl
  | call g s a b =>
   have i3 : kL (mJ (.call g s a b) k ns) (.dat (.int 3)) S = .ok (.cel k) S := kJ (j := .inr k) MG;have lv : uA (.cel k) S = .ok (.cel S.length) (S ++ [.lv (ns.map .cel)]) := by
    unfold uA;dsimp only;rw [hk rfl];rfl
   simp! [iw, Stt.word, i3, lv];rfl
  | cmd c => exact absurd rfl hb
  | fin w => exact absurd rfl hb
  | bad => exact absurd rfl hb
  | odd x => cases ho
def cnt : Nat -> Nat
 | 0 => 0
 | d + 1 => 1 + 20 * cnt d
def Lvs (S : aK) (ids : List Nat) : Prop := ∀ i ∈ ids, ∃ xs, S[i]? = some (.lv xs) /\ xs.length <= 10
theorem Lvs.grow {S T : aK} {ids : List Nat} (h : Lvs S ids) (g : Grow S T) : Lvs T ids := fun i hi => by
 obtain ⟨xs, h1, h2⟩ := h i hi;exact ⟨xs, g.get h1, h2⟩
theorem Lvs.bel {S : aK} {ids : List Nat} (h : Lvs S ids) : (Cell.lv (ids.map .cel)).below S.length = true := by
 simp only [Cell.below, aW];intro v hv;obtain ⟨n, hn, rfl⟩ := gS.mp hv;obtain ⟨xs, h1, _⟩ := h n hn;have := (aH.mp h1).1;simp [Vl.below, this]
theorem Lvs.app {S : aK} {xs ys : List Nat} (h : Lvs S xs) (k : Lvs S ys) : Lvs S (xs ++ ys) := fun i hi => by
 rcases lM.mp hi with hi | hi
 ·exact h i hi
 ·exact k i hi
def DU (n : Nat) : Prop := ∀ {S : aK} {c d : Nat} {l : List Stt}, TrD S d c l -> yF d l -> d <= n -> d <= 4 -> AB S -> ∃ m ids T, dF n [.cel c] S = .ok (.cel m) T /\ Grow S T /\ T[m]? = some (.lv (ids.map .cel)) /\ 1 <= ids.length /\ ids.length <= cnt d /\ Lvs T ids
theorem DO {d : Nat} (h : d <= 4) : cnt d <= 8421 := by
 match d, h with
 | 0, _ => decide
 | 1, _ => decide
 | 2, _ => decide
 | 3, _ => decide
 | 4, _ => decide
theorem Bu {n d : Nat} (ih : DU n) (hd : d <= n) (h3 : d <= 3) {kc : Nat} {ns : List Nat} {a b : Option Vl} : ∀ (r : List Nat) (i K : Nat) (T : aK) (m : Nat) (ids : List Nat), T[kc]? = some (.lv (ns.map .cel)) -> ns.drop i = r -> (∀ c ∈ r, ∃ l, TrD T d c l /\ yF d l) -> AB T -> T[m]? = some (.lv (ids.map .cel)) -> Lvs T ids -> 1 <= ids.length -> ids.length + r.length * cnt d <= 1000000 -> r.length < K ->
  ∃ m' ids' T', lK (.nm 3) (jM (dF n)) kc K i [a, some (.cel m), b, none] T = .next [a, some (.cel m'), b, none] T' /\ Grow T T' /\ T'[m']? = some (.lv (ids'.map .cel)) /\ 1 <= ids'.length /\ ids'.length <= ids.length + r.length * cnt d /\ Lvs T' ids'
 | [], i, 0, T, m, ids, _, _, _, _, _, _, _, _, hK => by omega
 | [], i, K + 1, T, m, ids, hk, hr, _, ab, hm, hL, h1, _, _ => by
  refine ⟨m, ids, T, zU (iR hk) (cF.mpr ?_), Grow.refl ab, hm, h1, by omega, hL⟩
  have := congrArg iX hr;simp only [oZ, bS] at this;rw [aQ];omega
 | c :: r, i, 0, T, m, ids, _, _, _, _, _, _, _, _, hK => by omega
 | c :: r, i, K + 1, T, m, ids, hk, hr, ht, ab, hm, hL, h1, hb, hK => by
  have hlt : i < ns.length := by
   have := congrArg iX hr;simp only [oZ, bE] at this;omega
  have hr2 := hr;rw [bW hlt] at hr2
  injection hr2 with e1 e2
  obtain ⟨l, t1, t2⟩ := ht c (aY ..);obtain ⟨m1, ids1, T1, q1, g1, q2, q3, q4, q5⟩ := ih t1 t2 hd (by omega) ab
  have hc := DO (show d <= 4 by omega)
  have hs : (c :: r).length * cnt d = cnt d + r.length * cnt d := by rw [bE, Nat.succ_mul, Nat.add_comm]
  have ad : AA (.cel m) (.cel m1) T1 = .ok (.cel T1.length) (T1 ++ [.lv ((ids ++ ids1).map .cel)]) := by
   rw [Lw (g1.get hm) q2 (by rw [aQ, aQ]; show _ <= 16777216; omega), List.map_append]
  have hL2 : Lvs T1 (ids ++ ids1) := (hL.grow g1).app q5;have g2 : Grow T (T1 ++ [.lv ((ids ++ ids1).map .cel)]) := g1.app hL2.bel;obtain ⟨m', ids', T', f1, f2, f3, f4, f5, f6⟩ := Bu ih hd h3 (a := a) (b := b) r (i + 1) K (T1 ++ [.lv ((ids ++ ids1).map .cel)]) T1.length (ids ++ ids1) (g2.get hk) e2 (fun c hc => by
   obtain ⟨l, t1, t2⟩ := ht c (aU _ hc);exact ⟨l, t1.grow g2, t2⟩) g2.1 (by simp) (hL2.grow ((Grow.refl g1.1).app hL2.bel)) (by simp; omega) (by simp only [iV]; omega) (by simp at hK; omega)
  refine ⟨m', ids', T', ?_, g2.trans f2, f3, f4, by simp only [iV] at f5; omega, f6⟩
  rw [xB (d := .cel c) (ρ1 := [a, some (.cel m), b, some (.cel c)]) (ρ2 := [a, some (.cel T1.length), b, none]) (S2 := T1 ++ [.lv ((ids ++ ids1).map .cel)]) (iR hk) (by rw [cG, bA hlt, e1]; rfl) rfl]
  ·exact f1
  ·unfold jM
   simp! [q1, ad]
theorem zV {n d : Nat} (ih : DU n) (hd : d <= n) (h3 : d <= 3) {kc : Nat} {xs : List Vl} {a : Option Vl} : ∀ (r : List Vl) (i K : Nat) (T : aK) (m : Nat) (ids : List Nat), T[kc]? = some (.lv xs) -> xs.drop i = r -> (∀ v ∈ r, ∃ s, TrV T d v s /\ ∀ b ∈ s.blocks, yF d b) -> AB T -> T[m]? = some (.lv (ids.map .cel)) -> Lvs T ids -> 1 <= ids.length -> ids.length + r.length * (2 * cnt d) <= 1000000 -> r.length < K ->
  ∃ m' ids' T', lK (.nm 2) (jL (dF n)) kc K i [a, some (.cel m), none, none] T = .next [a, some (.cel m'), none, none] T' /\ Grow T T' /\ T'[m']? = some (.lv (ids'.map .cel)) /\ 1 <= ids'.length /\ ids'.length <= ids.length + r.length * (2 * cnt d) /\ Lvs T' ids'
 | [], i, 0, T, m, ids, _, _, _, _, _, _, _, _, hK => by omega
 | [], i, K + 1, T, m, ids, hk, hr, _, ab, hm, hL, h1, _, _ => by
  refine ⟨m, ids, T, zU (iR hk) (cF.mpr ?_), Grow.refl ab, hm, h1, by omega, hL⟩
  have := congrArg iX hr;simp only [oZ, bS] at this;omega
 | v :: r, i, 0, T, m, ids, _, _, _, _, _, _, _, _, hK => by omega
 | v :: r, i, K + 1, T, m, ids, hk, hr, ht, ab, hm, hL, h1, hb, hK => by
  have hlt : i < xs.length := by
   have := congrArg iX hr;simp only [oZ, bE] at this;omega
  have hr2 := hr;rw [bW hlt] at hr2
  injection hr2 with e1 e2
  obtain ⟨s, t1, t2⟩ := ht v (aY ..);obtain ⟨ho, k, ns, rfl, t3, t4⟩ := id t1;have hfew := jJ (s := s);have hln := t4.len;have eb := DW t1 t3 t4 ho;have hc := DO (show d <= 4 by omega)
  have hs : (mJ s k ns :: r).length * (2 * cnt d) = 2 * cnt d + r.length * (2 * cnt d) := by rw [bE, Nat.succ_mul, Nat.add_comm]
  have gb : Grow T (T ++ [.lv (ns.map .cel)]) := (Grow.refl ab).app (by
   simp only [Cell.below, aW];intro v hv;obtain ⟨n, hn, rfl⟩ := gS.mp hv;obtain ⟨b, _, q⟩ := t4.mem hn;have := q.lt;simp [Vl.below, this])
  have hnc : ns.length * cnt d <= 2 * cnt d := rS _ (by omega)
  obtain ⟨m1, ids1, T1, q1, g1, q2, q3, q4, q5⟩ := Bu ih hd h3 (kc := T.length) (ns := ns) (a := a) (b := some (mJ s k ns)) ns 0 1000000 (T ++ [.lv (ns.map .cel)]) m ids (by simp) rfl (fun c hc => by
   obtain ⟨b, hb, q⟩ := t4.mem hc;exact ⟨b, q.grow gb, t2 b hb⟩) gb.1 (gb.get hm) (hL.grow gb) h1 (by omega) (by omega)
  have g2 := gb.trans g1;obtain ⟨m', ids', T', f1, f2, f3, f4, f5, f6⟩ := zV ih hd h3 (a := a) r (i + 1) K T1 m1 ids1 (g2.get hk) e2 (fun v hv => by
   obtain ⟨s, t1, t2⟩ := ht v (aU _ hv);exact ⟨s, t1.grow g2, t2⟩) g1.1 q2 q5 q3 (by omega) (by simp at hK; omega)
  refine ⟨m', ids', T', ?_, g2.trans f2, f3, f4, by omega, f6⟩
  rw [xB (d := mJ s k ns) (ρ1 := [a, some (.cel m), some (mJ s k ns), none]) (ρ2 := [a, some (.cel m1), none, none]) (S2 := T1) (iR hk) (by rw [bA hlt, e1]) rfl]
  ·exact f1
  ·unfold jL
   simp! [Gx, eb, EB, q1]
theorem IT (n : Nat) : DU n := by
 induction n with
 | zero =>
  intro S c d l h _ hn;have h0 : d = 0 := by omega
  subst h0;exact h.elim
 | succ n ih =>
  intro S c d l h hs hn h4 ab;cases d with
  | zero => exact h.elim
  | succ d =>
   obtain ⟨xs, h1, h2⟩ := id h;have hlen := h2.len;have g0 : Grow S (S ++ [.lv [.cel c]]) := (Grow.refl ab).app (by have := h.lt; simp [Cell.below, Vl.below, this])
   have hxs : xs.length <= 10 := by rw [hlen]; exact hs.1
   obtain ⟨m', ids', T', f1, f2, f3, f4, f5, f6⟩ := zV ih (d := d) (by omega) (by omega) (kc := c) (xs := xs) (a := some (.cel c)) xs 0 1000000 (S ++ [.lv [.cel c]]) S.length [c] (g0.get h1) rfl (fun v hv => by
    obtain ⟨s, hsm, q⟩ := h2.mem hv;exact ⟨s, TrV.grow g0 q, hs.2 s hsm⟩) g0.1 (by simp) (fun i hi => by
    rw [dQ.mp hi];exact ⟨xs, g0.get h1, hxs⟩) (by simp) (by
    have := DO (show d <= 4 by omega)
    have := rS (2 * cnt d) hxs;simp only [bE, bS];omega) (by omega)
   refine ⟨m', ids', T', ?_, g0.trans f2, f3, f4, ?_, f6⟩
   ·rw [Cc]
    unfold mG;simp! [rJ, xI, Gx, EB, f1];rfl
   ·have := rS (2 * cnt d) hxs
    simp only [bE, bS] at f5;have e : cnt (d + 1) = 1 + 20 * cnt d := rfl;omega
end PH
namespace PH
open PySem PySem.Spec PyProof PyProof.Rows L2
mutual
def qL : PH.D -> PH.D -> Bool
 | .non, .non => true
 | .bl a, .bl b => a == b
 | .int a, .int b => decide (a = b)
 | .str a, .str b => decide (a = b)
 | .lst xs, .lst ys => kE xs ys
 | .tup xs, .tup ys => kE xs ys
 | _, _ => false
def kE : List PH.D -> List PH.D -> Bool
 | [], [] => true
 | x :: xs, y :: ys => qL x y && kE xs ys
 | _, _ => false
end
theorem sN : ∀ {xs ys : List PH.D}, xs.length ≠ ys.length -> kE xs ys = false
 | [], [], h => absurd rfl h
 | [], y :: ys, _ => by simp [kE]
 | x :: xs, [], _ => by simp [kE]
 | x :: xs, y :: ys, h => by
  rw [kE, sN (by simpa using h), BN]
theorem xT : ∀ {xs ys : List PH.D} {k : Nat}, xs.length = ys.length -> ((kM xs.length).map fun i => (match xs[i]?, ys[i]? with | some x, some y => qL x y | _, _ => false)).all id = kE xs ys
 | [], [], _, _ => by simp [kE]
 | [], y :: ys, _, h => by simp at h
 | x :: xs, [], _, h => by simp at h
 | x :: xs, y :: ys, k, h => by
  have ih := xT (xs := xs) (ys := ys) (k := k) (by simpa using h)
  rw [kE, <- ih, bE, Da, aM, iF, gR];rfl
theorem AU : ∀ bs : List Bool, tF (bs.map PH.D.bl) = some bs
 | [] => rfl
 | b :: r => by rw [aM, tF, AU r]
theorem EH (bs : List Bool) {S : aK} : uY (.dat (.lst (bs.map PH.D.bl))) S = .ok (.dat (.bl (bs.all id))) S := by
 simp only [uY, lO, AU]
theorem Fo {n : Nat} {S : aK} {f : FD} {i : Nat} {x y u v : PH.D} (ex : cV (.dat x) (.dat (.int (0 + (i : Int)))) S = .ok (.dat u) S) (ey : cV (.dat y) (.dat (.int (0 + (i : Int)))) S = .ok (.dat v) S) {b : Bool} (h : f [.dat u, .dat v] S = .ok (.dat (.bl b)) S) : hJ f [some (.dat x), some (.dat y), some (.dat (.int (0 + (i : Int))))] S = .ok (.dat (.bl b)) S := by
 unfold hJ;simp! [ex, ey, h]
theorem HE {x y : PH.D} {p q : PyData} {S : aK} (hx : x.Pl) (hy : y.Pl) (hd : x.ht <= 64) (hd2 : y.ht <= 64) (e1 : x.py = some p) (e2 : y.py = some q) (h1 : ∀ i, x ≠ .int i) (h2 : ∀ i, x ≠ .str i) : eK (.dat x) (.dat y) S = .ok (.dat (.bl (PyData.eqv p q))) S := by
 have sh : KM p q = true := by unfold KM; rw [qG hx hd e1, qG hy hd2 e2]; rfl
 cases x with
 | int i => exact absurd rfl (h1 i)
 | str i => exact absurd rfl (h2 i)
 | non => simp only [eK, wK, e1, e2, sh, if_true]
 | bl b => simp only [eK, wK, e1, e2, sh, if_true]
 | lst xs => simp only [eK, wK, e1, e2, sh, if_true]
 | tup xs => simp only [eK, wK, e1, e2, sh, if_true]
 | ins _ _ _ => exact hx.elim
 | dct => exact hx.elim
 | opq _ => exact hx.elim
theorem fns {i : Str} {S : aK} (h : (PH.D.str i).Pl) : eK (.dat .non) (.dat (.str i)) S = .ok (.dat (.bl false)) S := by
 rw [HE (x := .non) (y := .str i) trivial h (by decide) (by simp [PH.D.ht]) rfl rfl (by simp) (by simp)]
 rfl
theorem fsn {i : Str} {S : aK} (h : (PH.D.str i).Pl) : eK (.dat (.str i)) (.dat .non) S = .ok (.dat (.bl false)) S := by
 have s1 : SeqAt.shaped (.str i) = true := qG (d := .str i) h (by simp [PH.D.ht]) rfl
 have s2 : SeqAt.shaped .none = true := qG (d := .non) trivial (by simp [PH.D.ht]) rfl
 have sh : KM (.str i) .none = true := by unfold KM; rw [s1, s2]; rfl
 simp only [eK, wK, PH.D.py, sh, if_true];rfl
theorem Ef (n : Nat) : ∀ {S : aK} {x y : PH.D}, x.Pl -> y.Pl -> x.ht < n -> fM n [.dat x, .dat y] S = .ok (.dat (.bl (qL x y))) S := by
 induction n with
 | zero => intro S x y _ _ h; omega
 | succ n ih =>
  intro S x y hx hy hd;rw [show fM (n + 1) [.dat x, .dat y] S = bQ (nI (fM n) [some (.dat x), some (.dat y), none] S) from rfl]
  unfold nI;have lists : ∀ {xs ys : List PH.D} (X Y : PH.D), (∀ (i : Nat) (u : PH.D), xs[i]? = some u -> cV (.dat X) (.dat (.int (0 + (i : Int)))) S = .ok (.dat u) S) -> (∀ (i : Nat) (u : PH.D), ys[i]? = some u -> cV (.dat Y) (.dat (.int (0 + (i : Int)))) S = .ok (.dat u) S) -> xs.length <= 1000 -> D.Pls xs -> D.Pls ys -> D.hts xs + 1 < n + 1 -> xs.length = ys.length ->
    zY false (.nm 2) fJ (hJ (fM n)) [some (.dat X), some (.dat Y), none] [2] ((kM xs.length).map fun i : Nat => PH.D.int (0 + (i : Int))) S = .ok (.dat (.lst (((kM xs.length).map fun i => (match xs[i]?, ys[i]? with | some x, some y => qL x y | _, _ => false)).map PH.D.bl))) S := by
   intro xs ys X Y eX eY hl px py hh hlen;rw [jQ (g := fun i => PH.D.bl (match xs[i]?, ys[i]? with | some x, some y => qL x y | _, _ => false)) (sz (by simp; omega)) fun i hi => ⟨_, rfl, ?_⟩]
   ·rw [gR]
    rfl
   ·have hi' : i < xs.length := BO.mp hi
    have h1 : xs[i]? = some xs[i] := bA hi';have h2 : ys[i]? = some (ys[i]'(by omega)) := bA (by omega)
    have m1 : xs[i] ∈ xs := dN hi';have m2 : ys[i]'(by omega) ∈ ys := dN (by omega)
    have k1 := eX i _ h1;have k2 := eY i _ h2;have := pR m1;rw [h1, h2];exact Fo (n := n) k1 k2 (ih (wM px m1) (wM py m2) (by omega))
  have ixl : ∀ (xs : List PH.D) (i : Nat) (u : PH.D), xs[i]? = some u -> cV (.dat (.lst xs)) (.dat (.int (0 + (i : Int)))) S = .ok (.dat u) S := fun xs i u q => CB (by rw [eU (n := i) (by omega), q])
  have ixt : ∀ (xs : List PH.D) (i : Nat) (u : PH.D), xs[i]? = some u -> cV (.dat (.tup xs)) (.dat (.int (0 + (i : Int)))) S = .ok (.dat u) S := fun xs i u q => A4 (by rw [eU (n := i) (by omega), q])
  have ne2 : ∀ a b : Bool, Ce (.dat (.bl a)) (.dat (.bl b)) S = .ok (.dat (.bl (!(a == b)))) S := fun a b => by cases a <;> cases b <;> rfl
  have eq2 : ∀ a b : Bool, eK (.dat (.bl a)) (.dat (.bl b)) S = .ok (.dat (.bl (a == b))) S := fun a b => by cases a <;> cases b <;> rfl
  cases x with
  | ins _ _ _ => exact hx.elim
  | dct => exact hx.elim
  | opq _ => exact hx.elim
  | non =>
   cases y with
   | non => simp! [EG]; rfl
   | bl b => simp! [if_true]; rfl
   | int i => simp! [if_true]; rfl
   | str i => simp! [fns hy]; rfl
   | lst xs => simp! [if_true]; rfl
   | tup xs => simp! [if_true]; rfl
   | _ => exact hy.elim
  | bl a =>
   cases y with
   | non => simp! [if_true]; rfl
   | bl b => simp! [eq2]; rfl
   | int i => simp! [if_true]; rfl
   | str i => simp! [if_true]; rfl
   | lst xs => simp! [if_true]; rfl
   | tup xs => simp! [if_true]; rfl
   | _ => exact hy.elim
  | int a =>
   cases y with
   | non => simp! [if_true]; rfl
   | bl b => simp! [if_true]; rfl
   | int i => simp! [if_true]; rfl
   | str i => simp! [if_true]; rfl
   | lst xs => simp! [if_true]; rfl
   | tup xs => simp! [if_true]; rfl
   | _ => exact hy.elim
  | str a =>
   cases y with
   | non => simp! [fsn hx]; rfl
   | bl b => simp! [if_true]; rfl
   | int i => simp! [if_true]; rfl
   | str i => simp! [if_true]; rfl
   | lst xs => simp! [if_true]; rfl
   | tup xs => simp! [if_true]; rfl
   | _ => exact hy.elim
  | lst xs =>
   cases y with
   | non => simp! [if_true]; rfl
   | bl b => simp! [if_true]; rfl
   | int i => simp! [if_true]; rfl
   | str i => simp! [if_true]; rfl
   | tup ys => simp! [if_true]; rfl
   | lst ys =>
    have hl := hx.1
    by_cases hlen : xs.length = ys.length
    ·simp! [decide_eq_true (show (xs.length : Int) = (ys.length : Int) by omega), oD (show -(2 ^ 62) <= (xs.length : Int) by omega) (show (xs.length : Int) < 2 ^ 62 by omega), oU, oM]
     rw [lists (.lst xs) (.lst ys) (ixl xs) (ixl ys) hl hx.2 hy.2 hd hlen];simp! [EH, xT (k := 0) hlen];rfl
    ·simp! [decide_eq_false (show ¬ (xs.length : Int) = (ys.length : Int) by omega)]
     rw [show qL (.lst xs) (.lst ys) = kE xs ys from by rw [qL], sN hlen]
     rfl
   | _ => exact hy.elim
  | tup xs =>
   cases y with
   | non => simp! [if_true]; rfl
   | bl b => simp! [if_true]; rfl
   | int i => simp! [if_true]; rfl
   | str i => simp! [if_true]; rfl
   | lst ys => simp! [if_true]; rfl
   | tup ys =>
    have hl := hx.1
    by_cases hlen : xs.length = ys.length
    ·simp! [decide_eq_true (show (xs.length : Int) = (ys.length : Int) by omega), oD (show -(2 ^ 62) <= (xs.length : Int) by omega) (show (xs.length : Int) < 2 ^ 62 by omega), oU, oM]
     rw [lists (.tup xs) (.tup ys) (ixt xs) (ixt ys) hl hx.2 hy.2 hd hlen];simp! [EH, xT (k := 0) hlen];rfl
    ·simp! [decide_eq_false (show ¬ (xs.length : Int) = (ys.length : Int) by omega)]
     rw [show qL (.tup xs) (.tup ys) = kE xs ys from by rw [qL], sN hlen]
     rfl
   | _ => exact hy.elim
mutual
def repS (x : D) (k : Nat) : Stt -> Stt
 | .keep b => .keep (repL x k b)
 | .again b => .again (repL x k b)
 | .either a b => if k < bO a then .either (repL x k a) b else .either a (repL x (k - bO a) b)
 | .call g f a b => if k < bO a then .call g f (repL x k a) b else .call g f a (repL x (k - bO a) b)
 | s => s
def repL (x : D) (k : Nat) : List Stt -> List Stt
 | [] => []
 | s :: r => if k = 0 then .odd x :: r else if k < s.size then repS x (k - 1) s :: r else s :: repL x (k - s.size) r
end
inductive Deed where
 | cmd (c : Cmd) | op | cl
abbrev KC := Int × Bool × List Stt × List Stt
inductive Task where
 | lst (l : List Stt) (i : Nat) | close | again (b : List Stt) | call (p : Nat) (st : Option KC)
structure Mc where
 bs : List (List Stt)
 bits : List Int
 taken : Nat
 deeds : List Deed
 stk : List Task
 act : List (List Nat)
 ended : Int
inductive SR where
 | ok (m : Mc) | err (i : Int) (m : Mc) | no
structure Pen where
 x : Int
 y : Int
 u : Int
 v : Int
 p : Int
 q : Int
def Pen.ns (z : Pen) : List Int := [z.x, z.y, z.u, z.v, z.p, z.q]
def dot (f : Nat -> Int) : Nat -> Int
 | 0 => 0
 | n + 1 => dot f n + f n
def gt (M : List Int) (i : Nat) : Int := M.getD i 0
def imgAt (M : List Int) (z : Pen) (i : Nat) : Int := dot (fun j => gt M (7 * i + j) * gt ((1 : Int) :: z.ns) j) 7
def delta (i j : Nat) : Int := if i = j then 1 else 0
@[irreducible] def mx (f : Nat -> Nat -> Int) : List Int := (kM 49).map fun t => f (t / 7) (t % 7)
@[irreducible] def unitM : List Int := mx delta
def Jg : Pen := ⟨0, 0, 0, 0, 0, 0⟩
def unitP (j : Nat) : Pen := ⟨delta 0 j, delta 1 j, delta 2 j, delta 3 j, delta 4 j, delta 5 j⟩
def vc (z : Pen) (i : Nat) : Int := gt ((1 : Int) :: z.ns) i
def KW (r : Pen -> Pen) (i j : Nat) : Int := if j = 0 then vc (r Jg) i else vc (r (unitP (j - 1))) i - vc (r Jg) i
@[irreducible] def probeM (r : Pen -> Pen) : List Int := mx (KW r)
def KA (r : Pen -> Pen) (M : List Int) : Prop := M.length = 49 /\ ∀ z i, i < 7 -> vc (r z) i = imgAt M z i
structure Ps where
 pens : List Pen
 z : Pen
 stk : List Pen
def t4 (z : Pen) : D := .tup [.int z.x, .int z.y, .int z.u, .int z.v]
structure Ms where
 m : List Int
 stk : List (List Int)
inductive Chain : List (List Int) -> (Pen -> List Pen) -> Prop
 | nil : Chain [] (fun _ => [])
 | cons {P : List Int} {k : List (List Int)} {ts : Pen -> List Pen} {f : Pen -> Pen} : KA f P -> Chain k ts -> Chain (P :: k) (fun z => f ((ts z).headD z) :: ts z)
def Inv (s : Ms) (p : Pen -> Ps) : Prop := ∃ (ts : Pen -> List Pen) (f : Pen -> Pen), Chain s.stk ts /\ KA f s.m /\ ∀ z, (p z).stk = ts z /\ (p z).z = f ((ts z).headD z)
inductive LT where
 | st (s : Stt) | shut | out (c : KC) (w : Int)
def yK (l : List Stt) : List LT := l.map LT.st
structure Lm where
 bits : List Int
 extra : Nat
 taken : Nat
 way : Int
 deeds : List Deed
 opens : List (Nat × Nat)
 todo : List LT
section
variable {S0 : aK} {bs : List (List Stt)} {m : Lm}
abbrev lv (S0 : aK) : Vl := .cel (S0.length + 3)
end
inductive LF where
 | fin (m : Lm) | long (m : Lm) | never (m : Lm) | short (m : Lm) | no (m : Lm)
def Ends : LF -> SR -> Prop
 | .fin m', r => ∃ c', r = .ok c' /\ c'.taken = m'.taken /\ c'.deeds = m'.deeds /\ c'.ended = m'.way
 | .long _, _ => True
 | .never _, r => ∃ c', r = .err (-2) c'
 | .short m', r => ∃ c', r = .err (m'.bits.length : Int) c'
 | .no _, _ => False
theorem yA {bs : List (List Stt)} (G : Good2 bs) : (D.lst (bls bs)).Pl /\ (D.lst (bls bs)).ht < 20 := by
 obtain ⟨bp1, bp2⟩ := AS G.ok;have := G.l3;exact ⟨⟨by rw [ER]; omega, bp1⟩, by simp only [D.ht]; omega⟩
mutual
/-- flags stand as the third of four things alone -/
def gQ : PH.D -> Prop
 | .non => True
 | .bl _ => False
 | .int _ => True
 | .str _ => True
 | .lst xs => dP xs
 | .tup xs => iU xs.length xs
 | _ => False
def dP : List PH.D -> Prop
 | [] => True
 | x :: xs => gQ x /\ dP xs
def iU : Nat -> List PH.D -> Prop
 | 4, [a, b, c, d] => gQ a /\ gQ b /\ (∃ s, c = .bl s) /\ gQ d
 | 4, _ => False
 | _, [] => True
 | _, x :: xs => gQ x /\ dP xs
end
theorem xZ {xs : List PH.D} {n : Nat} (hn : n ≠ 4) (h : iU n xs) : dP xs := by
 cases xs with
 | nil => simp [dP]
 | cons x xs =>
  unfold iU at h;split at h
  ·exact absurd rfl hn
  ·exact absurd rfl hn
  ·rename_i e; cases e
  ·rename_i e; cases e; unfold dP; exact h
theorem xS : ∀ {xs ys : List PyData}, xs.length ≠ ys.length -> PyData.eqvAll xs ys = false
 | [], [], h => absurd rfl h
 | [], y :: ys, _ => rfl
 | x :: xs, [], _ => rfl
 | x :: xs, y :: ys, h => by
  rw [PyData.eqvAll, xS (by simpa using h), BN]
theorem Am : ∀ {xs : List PH.D} {ps : List PyData}, PH.D.pys xs = some ps -> ps.length = xs.length
 | [], ps, e => by cases e; rfl
 | x :: xs, ps, e => by
  simp only [PH.D.pys] at e;cases q1 : x.py with
  | none => rw [q1] at e; cases e
  | some p =>
   cases q2 : PH.D.pys xs with
   | none => rw [q1, q2] at e; cases e
   | some ps' => rw [q1, q2] at e; cases e; simp [Am q2]
theorem fL {x : PH.D} {xs : List PH.D} {ps : List PyData} (e : PH.D.pys (x :: xs) = some ps) : ∃ p qs, x.py = some p /\ PH.D.pys xs = some qs /\ ps = p :: qs := by
 simp only [PH.D.pys] at e;cases q1 : x.py with
 | none => rw [q1] at e; cases e
 | some p =>
  cases q2 : PH.D.pys xs with
  | none => rw [q1, q2] at e; cases e
  | some ps' => rw [q1, q2] at e; cases e; exact ⟨p, ps', rfl, rfl, rfl⟩
theorem FG (n : Nat) : ∀ {x y : PH.D} {p q : PyData}, x.ht < n -> gQ x -> gQ y -> x.py = some p -> y.py = some q -> PyData.eqv p q = qL x y := by
 induction n with
 | zero => intro x y p q h; omega
 | succ n ih =>
  have lst : ∀ (xs ys : List PH.D) (ps qs : List PyData), D.hts xs < n -> dP xs -> dP ys -> PH.D.pys xs = some ps -> PH.D.pys ys = some qs -> PyData.eqvAll ps qs = kE xs ys := by
   intro xs
   induction xs with
   | nil =>
    intro ys ps qs _ _ _ e1 e2;cases e1;cases ys with
    | nil => cases e2; simp [PyData.eqvAll, kE]
    | cons y ys => obtain ⟨p, r, h1, h2, rfl⟩ := fL e2; simp [PyData.eqvAll, kE]
   | cons x xs ih2 =>
    intro ys ps qs hh c1 c2 e1 e2;obtain ⟨p, r, h1, h2, rfl⟩ := fL e1;cases ys with
    | nil => cases e2; simp [PyData.eqvAll, kE]
    | cons y ys =>
     obtain ⟨p', r', h1', h2', rfl⟩ := fL e2;unfold dP at c1 c2;have hx : x.ht <= D.hts (x :: xs) := pR (aY ..);have hs : D.hts xs <= D.hts (x :: xs) := by simp only [D.hts]; omega
     rw [PyData.eqvAll, kE, ih (by omega) c1.1 c2.1 h1 h1', ih2 ys r r' (by omega) c1.2 c2.2 h2 h2']
  intro x y p q hh c1 c2 e1 e2;cases x with
  | non => cases e1; cases y <;> first | (cases e2; rfl) | (cases c2; done) | (simp only [PH.D.py] at e2; split at e2 <;> cases e2; rfl)
  | bl a => cases c1
  | int a => cases e1; cases y <;> first | (cases e2; rfl) | (cases c2; done) | (simp only [PH.D.py] at e2; split at e2 <;> cases e2; rfl)
  | str a => cases e1; cases y <;> first | (cases e2; rfl) | (cases c2; done) | (simp only [PH.D.py] at e2; split at e2 <;> cases e2; rfl)
  | ins _ _ _ => cases c1
  | dct => cases c1
  | opq _ => cases c1
  | lst xs =>
   simp only [PH.D.py] at e1;split at e1
   case h_2 => cases e1
   rename_i ps q1;cases e1;cases y with
   | lst ys =>
    simp only [PH.D.py] at e2;split at e2
    case h_2 => cases e2
    rename_i qs q2;cases e2;have : D.hts xs < n := by simp only [D.ht] at hh; omega
    rw [PyData.eqv, qL];unfold gQ at c1 c2;exact lst xs ys ps qs this c1 c2 q1 q2
   | tup ys => simp only [PH.D.py] at e2; split at e2 <;> cases e2; rfl
   | non => cases e2; rfl
   | int b => cases e2; rfl
   | str b => cases e2; rfl
   | bl b => cases c2
   | ins _ _ _ => cases c2
   | dct => cases c2
   | opq _ => cases c2
  | tup xs =>
   simp only [PH.D.py] at e1;split at e1
   case h_2 => cases e1
   rename_i ps q1;cases e1;cases y with
   | tup ys =>
    simp only [PH.D.py] at e2;split at e2
    case h_2 => cases e2
    rename_i qs q2;cases e2;have hx : D.hts xs < n := by simp only [D.ht] at hh; omega
    rw [PyData.eqv, qL]
    by_cases hl : xs.length = ys.length
    ·by_cases h4 : xs.length = 4
     ·unfold gQ at c1 c2
      rw [<- hl] at c2
      match xs, ys, h4, hl, c1, c2 with
      | [a, b, c, d], [a', b', c', d'], _, _, c1, c2 =>
       simp only [bE, bS] at c1 c2;unfold iU at c1 c2;obtain ⟨a1, a2, ⟨s, rfl⟩, a4⟩ := c1;obtain ⟨b1, b2, ⟨s', rfl⟩, b4⟩ := c2;obtain ⟨p1, r1, h1, k1, rfl⟩ := fL q1;obtain ⟨p2, r2, h2, k2, rfl⟩ := fL k1;obtain ⟨p3, r3, h3, k3, rfl⟩ := fL k2;obtain ⟨p4, r4, h4, k4, rfl⟩ := fL k3;cases k4;cases h3;obtain ⟨p1', r1', h1', k1', rfl⟩ := fL q2;obtain ⟨p2', r2', h2', k2', rfl⟩ := fL k1';obtain ⟨p3', r3', h3', k3', rfl⟩ := fL k2';obtain ⟨p4', r4', h4', k4', rfl⟩ := fL k3';cases k4';cases h3';have m1 : a.ht <= D.hts [a, b, .bl s, d] := pR (by simp)
       have m2 : b.ht <= D.hts [a, b, .bl s, d] := pR (by simp)
       have m4 : d.ht <= D.hts [a, b, .bl s, d] := pR (by simp)
       simp only [PyData.eqvAll, kE, ih (show a.ht < n by omega) a1 b1 h1 h1', ih (show b.ht < n by omega) a2 b2 h2 h2', ih (show d.ht < n by omega) a4 b4 h4 h4', PyData.eqv, qL]
     ·unfold gQ at c1 c2
      exact lst xs ys ps qs hx (xZ h4 c1) (xZ (by omega) c2) q1 q2
    ·rw [xS (by rw [Am q1, Am q2]; exact hl), sN hl]
   | lst ys => simp only [PH.D.py] at e2; split at e2 <;> cases e2; rfl
   | non => cases e2; rfl
   | int b => cases e2; rfl
   | str b => cases e2; rfl
   | bl b => cases c2
   | ins _ _ _ => cases c2
   | dct => cases c2
   | opq _ => cases c2
mutual
theorem JZ {many : Int} : ∀ (s : Stt) (k : Nat), s.Ok many k -> gQ s.d
 | .cmd c, _, _ => by cases c <;> simp [Stt.d, Cmd.d, gQ, iU, dP]
 | .fin w, _, _ => by simp [Stt.d, gQ, iU, dP]
 | .keep b, k, h => by simp [Stt.d, gQ, iU, dP, mE b _ h.2]
 | .again b, k, h => by simp [Stt.d, gQ, iU, dP, mE b _ h.2]
 | .either a b, k, h => by simp [Stt.d, gQ, iU, dP, mE a _ h.2.1, mE b _ h.2.2]
 | .call g s a b, k, h => by simp [Stt.d, gQ, iU, dP, mE a _ h.2.1, mE b _ h.2.2]
 | .bad, _, _ => by simp [Stt.d, gQ, iU, dP]
 | .odd x, _, h => h.elim
theorem mE {many : Int} : ∀ (l : List Stt) (k : Nat), OkL many l k -> dP (bG l)
 | [], _, _ => by simp [bG, dP]
 | s :: r, k, h => by
  rw [bG, dP];exact ⟨JZ s k h.1.1, mE r k h.2⟩
end
theorem BD {many : Int} {k : Nat} : ∀ {bs : List (List Stt)}, (∀ b ∈ bs, OkL many b k) -> dP (bls bs)
 | [], _ => by simp [bls, dP]
 | b :: r, h => by
  have ih := BD (bs := r) fun b hb => h b (aU _ hb)
  rw [show bls (b :: r) = .lst (bG b) :: bls r from rfl, dP, gQ]
  exact ⟨mE b k (h b (aY ..)), ih⟩
theorem JR {bs bs' : List (List Stt)} {S : aK} (G : Good bs) (G' : Good bs') : eK (.dat (.lst (bls bs))) (.dat (.lst (bls bs'))) S = .ok (.dat (.bl (qL (.lst (bls bs)) (.lst (bls bs'))))) S := by
 obtain ⟨h1, h2⟩ := yA G.two;obtain ⟨h1', h2'⟩ := yA G'.two;obtain ⟨p, e, _, _⟩ := Dq _ h1;obtain ⟨q, e', _, _⟩ := Dq _ h1';rw [HE h1 h1' (by omega) (by omega) e e' (by simp) (by simp), FG 20 h2 (by rw [gQ]; exact BD G.ok) (by rw [gQ]; exact BD G'.ok) e e']
theorem BF {bs bs' : List (List Stt)} {S : aK} (G : Good bs) (G' : Good bs') : CL "Book" iA (.dat (eD bs)) (.dat (eD bs')) S = .ok (.dat (.bl (qL (.lst (bls bs)) (.lst (bls bs'))))) S := by
 have e : iA [.dat (eD bs), .dat (eD bs')] S = .ok (.dat (.bl (qL (.lst (bls bs)) (.lst (bls bs'))))) S := by
  rw [show iA [.dat (eD bs), .dat (eD bs')] S = bQ (qO [some (.dat (eD bs)), some (.dat (eD bs'))] S) from rfl]
  unfold qO eD;have ic : HI "Book" (.dat (.ins "Book" ["own"] [.lst (bls bs')])) S = .ok (.dat (.bl true)) S := rfl;simp! [ic, fD, cO, JR G G'];rfl
 unfold CL;rw [if_pos ⟨by simp [jB, eD, Ab], by simp [jB, eD, Ab]⟩, e]
 rfl
mutual
theorem CN : ∀ x y : PH.D, qL x y = qL y x
 | .lst xs, .lst ys => by rw [qL, qL]; exact uC xs ys
 | .tup xs, .tup ys => by rw [qL, qL]; exact uC xs ys
 | .bl a, .bl b => by cases a <;> cases b <;> rfl
 | .int a, .int b => by rw [qL, qL]; exact decide_eq_decide.mpr ⟨Eq.symm, Eq.symm⟩
 | .str a, .str b => by rw [qL, qL]; exact decide_eq_decide.mpr ⟨Eq.symm, Eq.symm⟩
 | .non, y => by cases y <;> rfl
 | .ins _ _ _, y => by cases y <;> rfl
 | .dct, y => by cases y <;> rfl
 | .opq _, y => by cases y <;> rfl
 | .bl a, .non => rfl
 | .bl a, .int _ => rfl
 | .bl a, .str _ => rfl
 | .bl a, .lst _ => rfl
 | .bl a, .tup _ => rfl
 | .bl a, .ins _ _ _ => rfl
 | .bl a, .dct => rfl
 | .bl a, .opq _ => rfl
 | .int a, .non => rfl
 | .int a, .bl _ => rfl
 | .int a, .str _ => rfl
 | .int a, .lst _ => rfl
 | .int a, .tup _ => rfl
 | .int a, .ins _ _ _ => rfl
 | .int a, .dct => rfl
 | .int a, .opq _ => rfl
 | .str a, .non => rfl
 | .str a, .bl _ => rfl
 | .str a, .int _ => rfl
 | .str a, .lst _ => rfl
 | .str a, .tup _ => rfl
 | .str a, .ins _ _ _ => rfl
 | .str a, .dct => rfl
 | .str a, .opq _ => rfl
 | .lst a, .non => rfl
 | .lst a, .bl _ => rfl
 | .lst a, .int _ => rfl
 | .lst a, .str _ => rfl
 | .lst a, .tup _ => rfl
 | .lst a, .ins _ _ _ => rfl
 | .lst a, .dct => rfl
 | .lst a, .opq _ => rfl
 | .tup a, .non => rfl
 | .tup a, .bl _ => rfl
 | .tup a, .int _ => rfl
 | .tup a, .str _ => rfl
 | .tup a, .lst _ => rfl
 | .tup a, .ins _ _ _ => rfl
 | .tup a, .dct => rfl
 | .tup a, .opq _ => rfl
theorem uC : ∀ xs ys : List PH.D, kE xs ys = kE ys xs
 | [], [] => rfl
 | [], y :: ys => by simp [kE]
 | x :: xs, [] => by simp [kE]
 | x :: xs, y :: ys => by rw [kE, kE, CN x y, uC xs ys]
end
mutual
theorem CO : ∀ {x : PH.D}, x.Pl -> qL x x = true
 | .lst xs, h => by rw [qL]; exact uD h.2
 | .tup xs, h => by rw [qL]; exact uD h.2
 | .bl a, _ => by cases a <;> rfl
 | .int a, _ => by simp [qL]
 | .str a, _ => by simp [qL]
 | .non, _ => rfl
 | .ins _ _ _, h => h.elim
 | .dct, h => h.elim
 | .opq _, h => h.elim
theorem uD : ∀ {xs : List PH.D}, PH.D.Pls xs -> kE xs xs = true
 | [], _ => rfl
 | x :: xs, h => by rw [kE, CO h.1, uD h.2]; rfl
end
theorem sI {bs : List (List Stt)} {S : aK} (G : Good bs) : fO [.dat (eD bs), .dat (.lst (bls bs))] S = .ok (.dat (.bl true)) S := by
 rw [DY];unfold oG;have l3 := G.l3;obtain ⟨h1, h2⟩ := yA G.two;have hi : jB S "Book" "bodies" (.dat (eD bs)) = true := rfl;have ln : kD (.dat (.lst (bls bs))) S = .ok (.dat (.int (bs.length : Int))) S := by
  rw [show bs.length = (bls bs).length by simp [bls]]
  rfl
 simp! [B0 hi, AR G.ok (by omega) (by omega), Hz 20 h1 h2, Kq (show bs.length <= 10 by omega), ln]
 rfl
theorem AB.setLv {S : aK} {i : Nat} {xs : List Vl} {v : Vl} (a : AB S) (h : S[i]? = some (.lv xs)) (hv : v.below S.length = true) : AB (S.set i (.lv (xs ++ [v]))) := fun c hc => by
 rw [zC];rcases BP hc with hc | rfl
 ·exact a c hc
 ·have := a _ (rR h)
  simp only [Cell.below, List.all_append, iF, List.all_nil, Bool.and_true, dM] at this ⊢;exact ⟨this, hv⟩
theorem Df {S : aK} {i c : Nat} {xs ys : List Vl} {v : Vl} (h : S[i]? = some (.lv xs)) (hc : S[c]? = some (.lv ys)) (h1 : xs.length <= 10) (h2 : ys.length <= 10) : ∃ zs, (S.set i (.lv (xs ++ [v])))[c]? = some (.lv zs) /\ zs.length <= 11 := by
 by_cases e : i = c
 ·subst e
  exact ⟨xs ++ [v], by rw [nK h], by simp; omega⟩
 ·exact ⟨ys, by rw [List.getElem?_set_ne e, hc], by omega⟩
theorem Ji {S : aK} {c : Nat} {ns : List Nat} {bs : List (List Stt)} {d : Int} (a : AB S) (hc : S[c]? = some (.lv (ns.map .cel))) (h : All2 (TrD S 4) ns bs) (G : Good bs) (h0 : 0 <= d) :
  ∃ (n m i : Nat) (ids : List Nat) (xs : List Vl) (T : aK), kB (.cel c) S = .ok (.dat (.int (bs.length : Int))) S /\ sM (.cel c) (.dat (.int (d % (bs.length : Int)))) S = .ok (.cel n) S /\ dF 10 [.cel n] S = .ok (.cel m) T /\ Grow S T /\ 1 <= ids.length /\ kB (.cel m) T = .ok (.dat (.int (ids.length : Int))) T /\ sM (.cel m) (.dat (.int (d % (ids.length : Int)))) T = .ok (.cel i) T /\ T[i]? = some (.lv xs) /\ xs.length <= 10 := by
 have l1 := G.l1;have l3 := G.l3;have hl := h.len;have m0 := cU d (show (bs.length : Int) ≠ 0 by omega)
 have m1 := cN d (show 0 < (bs.length : Int) by omega)
 obtain ⟨j, hj⟩ := Dc m0;have hjl : j < ns.length := by omega
 obtain ⟨ps, e1, e2, h3⟩ := id h;have hm : ns[j] ∈ ns := dN hjl;obtain ⟨b, hb, ht⟩ := h.mem hm;obtain ⟨m, ids, T, q1, g, q2, q3, q4, q5⟩ := IT 10 ht (Ad (G.ok b hb)) (by omega) (by omega) a
 have k0 := cU d (show (ids.length : Int) ≠ 0 by omega)
 have k1 := cN d (show 0 < (ids.length : Int) by omega)
 obtain ⟨t, ht2⟩ := Dc k0;have htl : t < ids.length := by omega
 obtain ⟨xs, hx1, hx2⟩ := q5 ids[t] (dN htl);refine ⟨ns[j], m, ids[t], ids, xs, T, ?_, ?_, q1, g, q3, ?_, ?_, hx1, hx2⟩
 ·rw [xH hc, aQ, hl]
 ·rw [hj]
  exact A3 hc (by rw [eU (n := j) rfl, cG, bA hjl]; rfl)
 ·rw [xH q2, aQ]
 ·rw [ht2]
  exact A3 q2 (by rw [eU (n := t) rfl, cG, bA htl]; rfl)
theorem law_true_k08 : ∀ ns : List Int, ns.length <= 63 -> ∃ S, m_law_k08 [.scr ns] [] = .ok (.dat (.bl true)) S := by
 intro ns hn;refine ⟨[], ?_⟩
 rw [FW];obtain ⟨k0, e0, h0⟩ := IF (S := []) hn;have P0 : PoolAt ([] ++ [PL k0]) 0 k0 := ⟨rfl, h0⟩;obtain ⟨d1, k1, e1, d10, d11, l1⟩ := fE P0 (k := 7) (by decide) (by decide)
 have P1 := P0.next l1;have ls0 : LS ([] ++ [PL k0]) := fun c hc n => by rw [dQ.mp hc]; rfl
 have sh : ∀ k : List Int, (([] : aK) ++ [PL k]) = [PL k] := fun _ => rfl
 obtain ⟨bs, k2, e2, G, _, _, l2⟩ := EO (most := 3) (size := 7) P1 ls0.set (by decide) (by decide) (by decide) (by decide)
 have P2 := P1.next l2;obtain ⟨bs2, k3, e3, G2, _, _, l3⟩ := EO (most := 3) (size := 7) P2 ls0.set.set (by decide) (by decide) (by decide) (by decide)
 have P3 := P2.next l3;obtain ⟨d2, k4, e4, d20, d21, l4⟩ := fE P3 (k := 4) (by decide) (by decide)
 simp only [lQ, sh, cM, bS, bE] at e0 e1 e2 e3 e4;have bl3 := G.l3;have tail : ∀ cs : List (List Stt), Good cs -> ∃ U, lT [some (.scr ns), some (.cel 0), some (.dat (.int d1)), some (.dat (.lst (bls bs))), some (.dat (.lst (bls cs))), none, none, none, none, none, none, none] [PL k4] = .ret (.dat (.bl true)) U := by
  intro cs C;have cl3 := C.l3;have a0 : AB [PL k4] := fun c hc => by rw [dQ.mp hc]; rfl
  obtain ⟨c, ms, T, f1, g1, f2, f3⟩ := DV G.ok (by omega) (show bs.length <= 10 by omega) a0
  obtain ⟨n, m, i, ids, xs, T2, t1, t2, t3, t4, t5, t6, t7, t8, t9⟩ := Ji g1.1 f2 f3 G d10;have hms := f3.len;obtain ⟨zs, z1, z2⟩ := Df (v := .dat (.tup [.str "mark"])) t8 (t4.get f2) t9 (by rw [aQ]; omega)
  have a2 : AB (T2.set i (.lv (xs ++ [.dat (.tup [.str "mark"])]))) := t4.1.setLv t8 rfl;generalize hT3 : T2.set i (.lv (xs ++ [.dat (.tup [.str "mark"])])) = T3 at z1 a2;have ap1 : pT (.cel i) (.dat (.tup [.str "mark"])) T2 = .ok (.dat .non) T3 := by rw [<- hT3]; exact vN t8 (by show _ < 16777216; omega)
  have ml : ∀ {ρ : Ev} {X : aK}, cS true aL ρ X = .ok (.cel X.length) (X ++ [.lst []]) := fun {ρ X} => rfl
  have g3 : Grow T3 (T3 ++ [.lst []]) := (Grow.refl a2).app rfl;have ap2 : pT (.cel c) (.cel T3.length) (T3 ++ [.lst []]) = .ok (.dat .non) ((T3 ++ [Cell.lst []]).set c (Cell.lv (zs ++ [Vl.cel T3.length]))) := vN (g3.get z1) (by show _ < 16777216; omega)
  have a4 : AB ((T3 ++ [Cell.lst []]).set c (Cell.lv (zs ++ [Vl.cel T3.length]))) := g3.1.setLv (g3.get z1) (by simp [Vl.below])
  generalize (T3 ++ [Cell.lst []]).set c (Cell.lv (zs ++ [Vl.cel T3.length])) = T4 at ap2 a4;obtain ⟨c', ms', T5, f1', g1', f2', f3'⟩ := HV G.ok (by omega) (show bs.length <= 10 by omega) a4
  obtain ⟨n', m', i', ids', xs', T6, t1', t2', t3', t4', t5', t6', t7', t8', t9'⟩ := Ji g1'.1 f2' f3' G d10;have hms' := f3'.len;obtain ⟨zs', z1', z2'⟩ := Df (v := .dat (.tup [.str "return"])) t8' (t4'.get f2') t9' (by rw [aQ]; omega)
  have a6 : AB (T6.set i' (.lv (xs' ++ [.dat (.tup [.str "return"])]))) := t4'.1.setLv t8' rfl;have ap3 : pT (.cel i') (.dat (.tup [.str "return"])) T6 = .ok (.dat .non) (T6.set i' (.lv (xs' ++ [.dat (.tup [.str "return"])]))) := vN t8' (by show _ < 16777216; omega)
  generalize T6.set i' (Cell.lv (xs' ++ [Vl.dat (.tup [.str "return"])])) = T7 at z1' a6 ap3;have g7 : Grow T7 (T7 ++ [.lst []]) := (Grow.refl a6).app rfl;have ap4 : pT (.cel c') (.cel T7.length) (T7 ++ [.lst []]) = .ok (.dat .non) ((T7 ++ [Cell.lst []]).set c' (Cell.lv (zs' ++ [Vl.cel T7.length]))) := vN (g7.get z1') (by show _ < 16777216; omega)
  have a8 : AB ((T7 ++ [Cell.lst []]).set c' (Cell.lv (zs' ++ [Vl.cel T7.length]))) := g7.1.setLv (g7.get z1') (by simp [Vl.below])
  generalize (T7 ++ [Cell.lst []]).set c' (Cell.lv (zs' ++ [Vl.cel T7.length])) = T8 at ap4 a8;obtain ⟨p1, p2⟩ := yA G.two;obtain ⟨p1', p2'⟩ := yA C.two;have ne2 : ∀ (a : Bool) (X : aK), Ce (.dat (.bl a)) (.dat (.bl a)) X = .ok (.dat (.bl false)) X := fun a X => by cases a <;> rfl
  have hi : ∀ X, jB X "Book" "bodies" (.dat (eD bs)) = true := fun _ => rfl
  have sym : qL (.lst (bls cs)) (.lst (bls bs)) = qL (.lst (bls bs)) (.lst (bls cs)) := CN _ _;have slf : qL (.lst (bls bs)) (.lst (bls bs)) = true := CO p1;refine ⟨T8, ?_⟩
  unfold lT;simp! [f1, Kd g1.1 f2 f3 G, yH C.ok (show 3 <= 9 by omega) (show cs.length <= 10 by omega), Ds g1.1 C, sI G, sI C]
  unfold pH;simp! [t1, kK (show 0 < (bs.length : Int) by have := G.l1; omega), t2, t3, t6, kK (show 0 < (ids.length : Int) by omega), t7, H9, vL t8, ap1, sI G]
  unfold pI;simp! [H9, vL z1, ml, ap2, B0 (hi T4), f1', t1', kK (show 0 < (bs.length : Int) by have := G.l1; omega), t2', t3', t6', kK (show 0 < (ids'.length : Int) by omega), t7', vL t8', ap3, vL z1', ap4, sI G, sI C]
  unfold pJ;simp! [Ef 20 p1 p1' (by omega), BF G C, BF C G, sym, ne2, B0 (hi T8), AR G.ok (show 3 <= 9 by omega) (show bs.length <= 10 by omega), Ds a8 G, BF G G, slf, yH G.ok (show 3 <= 9 by omega) (show bs.length <= 10 by omega)]
 unfold nH
 by_cases hd : d2 = 0
 ·subst hd
  obtain ⟨U, eu⟩ := tail bs G;simp! [e0, e1, e2, e3, e4, yH G.ok (show 3 <= 9 by omega) (show bs.length <= 10 by omega), eu]
  exact Fh
 ·obtain ⟨U, eu⟩ := tail bs2 G2
  simp! [e0, e1, e2, e3, e4, decide_eq_false hd, eu];exact Fh
end PH
open PySem PySem.W PySem.Calls PyProof.Rows
set_option maxHeartbeats 0 in
theorem PySem.Challenge.cw_penhome_k08_book_keeps_its_own_copy_holds : PySem.Challenge.rw_penhome_k08_book_keeps_its_own_copy.Holds := by
 w_on; o_law
 refine HandSHeadRun.head_any (r := OpenLaw.row PySem.Challenge.rw_penhome_k08_book_keeps_its_own_copy) (q := view (OpenLaw.row PySem.Challenge.rw_penhome_k08_book_keeps_its_own_copy).prog [42]) (H := PHZ.hk) (ob := PHZ.ob) (M := 8000) (loose := PHZ.loose) (d := HandSHeadRun.topDef (OpenLaw.row PySem.Challenge.rw_penhome_k08_book_keeps_its_own_copy).prog 42) (kwd := []) PHZ.ob_eq
  (by kernel_rfl) (fun s => by kernel_rfl) PHZ.run_ (by kernel_rfl) (by kernel_rfl) (by kernel_rfl) (by rfl) (by first | assumption | decide +kernel) (by decide +kernel) ⟨rfl, rfl, rfl, rfl, rfl, by decide +kernel⟩ ?hw ?hc
 case hw => w_witness2
 case hc =>
  refine PH.walk_x (l := PySem.Challenge.rw_penhome_k08_book_keeps_its_own_copy) (n := 63) (k := 36) (x := "_law_script") rfl (by decide) (by kernel_rfl) ⟨rfl, by decide, by decide⟩ ?F
  intro w mg fa h Y G hmg0;obtain ⟨K, KX, c⟩ := Y;have hmg : mg ("law" : PySem.Str) = some (.ref fa) := by
   have e : (HandSHeadRun.topDef (OpenLaw.row PySem.Challenge.rw_penhome_k08_book_keeps_its_own_copy).prog 42).name = ("law" : PySem.Str) := by kernel_rfl
   rw [<- e];exact hmg0
  have T := PHZ.txt (w := w) KX G c;have e := hmg.symm.trans T.G_law_k08;cases e;obtain ⟨fd, b, F⟩ := PHZ.law_fn (P := (PySem.Challenge.rw_penhome_k08_book_keeps_its_own_copy).prog) T;exact ⟨K, fd, PH.spF K PH.m_law_k08, KX, fun s v => b s [v] rfl, fun H a ns hl hO hS => PH.law_start PH.law_true_k08 H a ns hl hO hS, fun base _ _ => F base⟩
