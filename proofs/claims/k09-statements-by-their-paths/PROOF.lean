import PyProof.Rows.All
import Wide.All
import OpenK.AllK
import Wide.FinOn
import KE.KStateDown
import Lean
import HandS.ForMost
import HandS.ForExc
import HandS.More
import HandS.Flow
import HandS.IsInst
import HandS.Defaults
import HandS.Head0
import HandS.Head1
import HandS.Head2
import HandS.HeadEnd
import HandS.HeadHook1
import HandS.HeadHook2
import HandS.HeadHook3
import HandS.TupAny
import HandS.Star
import HandS.Wide
import HandS.Zip
import HandS.Rev
import HandS.TryMany
import HandS.Small
import HandS.RaiseMore
import HandS.OwnEq
import HandS.Walk
import HandS.Deep
import HandS.ExcInit
import HandS.ExcField
import HandS.RevRange
import HandS.SortInts
import KE.GoesMore
import HandS.CallSlots
import PyProof.Rows.NestShow
import HandS.Dict
import HandS.Style
import HandS.Text
import HandS.FStr
import HandS.StrMore
import HandS.SetFor
import PyProof.InstNe
import HandS.ReplaceLit
import KE.SortKeyHeap
import HandS.ExcValue
import HandS.SortKw
import HandS.SetKeys
import HandS.WordsDict
import HandS.Conv
import HandS.DictComp
import HandS.Iter
import HandS.TupLen
import HandS.GenList
import HandS.IterNext
import HandS.DictSub
import HandS.GenOver
import HandS.ExcInitHot
import KE.KExcIs
import PyProof.EqKinds
import PyProof.FactsAll.dict
import PyProof.P3In
import HandS.Property
import HandS.MakeKwOnly
import KE.KCallOwn
import HandS.ExcIs
import HandS.HeadNt
import KE.KEqDict
import PyProof.ReprLen
import PyProof.StrLawsRepr
import PySem.Challenge.RW_penhome_k09_statements_by_their_paths
set_option Elab.async false
set_option linter.all false
set_option maxRecDepth 100000
set_option maxHeartbeats 4000000
open PySem.W renaming Frag → aC, findIn → dW, kitOne → eJ, fnOf → gP, nsIn → iR, typeIn → kX, view → kY, keepIn → nY, EachIs → oA, sortingHeap → uF, subIn → uT, specialIn → xC, copyHeap → zL, takesIn → AD, SharedT → AE, mroIn → Cc, fnIn → Dc, callWith_K0 → GH, boot_heap → Ip, openGood → Iw, dataKind → Iy
open And renaming intro → aE
open List renaming getElem?_eq_some_iff → aI, getElem?_append_left → aK, mem_cons_of_mem → aQ, map_cons → aU, mem_cons_self → aW, length_cons → aY, getElem?_eq_getElem → aZ, all_eq_true → bA, getElem?_set → bC, mem_map → bD, set_cons_zero → bJ, set_cons_succ → bM, length_map → bN, mem_of_getElem? → bU, map_nil → bW, getElem?_map → bZ, getElem?_append_right → cA, mem_append → cF, mem_cons → cJ, length_nil → cY, drop_eq_getElem_cons → dB, getElem?_eq_none_iff → dC, set_set → dG, mem_singleton → dH, getElem_mem → dN, mem_or_eq_of_mem_set → eC, getElem?_take → eI, length_set → eQ, lookup_cons → eY, ext_getElem? → fP, append_nil → hG, getElem?_set_ne → iT, map_map → iX, all_cons → jR, getElem?_cons_succ → kZ, mem_append_right → mK, range → mQ, length → nG, map_congr_left → nZ, replicate → pM, zip_cons_cons → pN, length_append → pO, drop_length → rL, length_take → rM, range_succ_eq_map → sV, nil_append → tM, set_append_right → tU, mem_append_left → uU, length_drop → BS, take_zero → DZ, mem_range → Da, getElem?_zip_eq_some → Dd, drop_of_length_le → GJ, getElem?_zipWith → HU, forall_mem_cons → Iq, range' → Ir, mem_of_mem_take → Iu
open Nat renaming le_refl → bH, zero_add → jD, zero_le → nI, le_succ → qV, le_of_not_lt → rO, not_lt → zK, lt_of_le_of_lt → zM, ne_of_lt → AF, sub_self → HV, add_zero → HW
open Option renaming isSome → bV
open Bool renaming and_eq_true → dM, and_self → F2
open Int renaming toNat_natCast → dX, emod_lt_of_pos → fD, emod_nonneg → fQ, zero_add → fU, toNat_of_nonneg → xD, le_refl → Iz
open Or renaming inr → oC, inl → tT
namespace PH
open PySem PySem.Spec PyProof.Rows L2
abbrev veL : List Value := [.type "ValueError", .type "Exception", .type "BaseException", .type "object"]
def xcB (K : aC) (x : Str) : Bool := PySem.W.excIn K (He.ga K x) veL "ValueError.__new__" && (nY K (.ref (He.ga K x)) && (decide (uT K (.ref (He.ga K x)) (.type "BaseException") = some true) && decide (kX K (.ref (He.ga K x)) = some (.type "type"))))
def qO : Stmt -> List Stmt
 | .ClassDef _ _ _ b _ _ _ _ _ _ _ => b
 | _ => []
def xmB (K : aC) (cs : List Str) : Bool := cs.all fun c => cs.all fun d => decide (PySem.W.exmOne K (.ref (He.ga K c)) (.ref (He.ga K d)) = some (decide (c = d)))
def limits : List (Str × Nat × Int × Int) := [("go", 1, -9, 9), ("turn", 1, 1, 3), ("mirror", 0, 0, 0), ("scale", 1, -3, 3), ("aim", 2, -9, 9), ("place", 2, -9, 9), ("mark", 0, 0, 0), ("return", 0, 0, 0), ("exchange", 0, 0, 0)]
def EG (K : aC) (z : Str) : Addr := match iR K (He.ga K "LIMITS") z with
 | some (some (.ref a)) => a
 | _ => 0
def F6 (K : aC) (a : Addr) (vs : List V) : Bool := match K.lookup a with
 | some ⟨.type c, _, .seq its _, _⟩ => decide (c = "tuple") && (decide (its.size <= sizeLine) && He.relAll vs its.toList)
 | _ => false
def limB (K : aC) : Bool := limits.all fun q => He.eqO (iR K (He.ga K "LIMITS") q.1) (some (some (.ref (EG K q.1)))) && F6 K (EG K q.1) [.int (q.2.1 : Nat), .int q.2.2.1, .int q.2.2.2]
def Fi : He.Tab := (fun K => He.ga K "LIMITS", limits.map (·.1))
def OC (K : aC) (C : Addr) : Bool := match K.lookup C with
 | some ⟨.type "type", _, .cls cd, sl⟩ => (match cd.mro, sl.toList with
  | .ref C' :: bm, [_, _, _, _, some (.builtin n), _] => C' == C && n == "ValueError.__new__" && !cd.hasDel && cd.hasDict && PySem.HandSPX.refsVE bm
  | _, _ => false)
 | _ => false
def xaB (K : aC) (x : Str) (fs : List Str) : Bool := OC K (He.ga K x) && (decide (dW K (.ref (He.ga K x)) "__setattr__" = some (some (.builtin "object.__setattr__"))) && (decide (uT K (.ref (He.ga K x)) (.type "BaseException") = some true) && (decide (kX K (.ref (He.ga K x)) = some (.type "type")) && (nY K (.ref (He.ga K x)) && (decide (dW K (.ref (He.ga K x)) "__init__" = some (some (.ref (He.ma K (He.ga K x) "__init__")))) && (decide (kX K (.ref (He.ma K (He.ga K x) "__init__")) = some (.type "function")) && (xfB K (He.ga K x) && fs.all fun f => decide (dW K (.ref (He.ga K x)) f = some none))))))))
def isB (K : aC) (C : Str) : Bool := decide (dW K (.ref (He.ga K C)) "__class__" = some (some (.builtin "object.__class__"))) && (decide (xC K (.builtin "object.__class__") "__get__" = some (some (.builtin "getset_descriptor.__get__"))) && (decide (AD K (.builtin "object.__class__") = some true) && decide (Cc K (He.ga K C) (.type "object") = some true)))
def Dq (es : Array DictEntry) : Bool := es.toList.all fun e => match e.key with | .str _ _ => true | _ => false
def B5 (K : aC) (a : Addr) : Option (Array DictEntry) := match K.lookup a with
 | some ⟨_, _, .dict es _, _⟩ => some es
 | _ => none
def isNone {α : Type} : Option α -> Bool
 | none => true
 | some _ => false
def NG (K : aC) : Bool := (match B5 K cStatics with
  | some es => isNone (nsFind es "sys.audit-hooks") && isNone (nsFind es "sys.dict")
  | none => false) && ((match B5 K sysModules with
  | some es => Dq es && isNone (nsFind es "_pylong")
  | none => false) && (match B5 K mainGlobals with
  | some es => (match nsFind es "__builtins__" with
   | some (.ref bm) => (match K.lookup bm with
    | some ⟨.type c, some d, _, _⟩ => decide (c = "module") && decide (d = builtinsNs)
    | _ => false)
   | _ => false)
  | none => false))
end PH
namespace PH
open PySem PySem.Spec PyProof PyProof.Rows L2
def frR (g : Addr -> Option Obj) (n : Nat) : aC := He.frG g (mQ n)
def OD (n : Nat) (fa : List He.Fa) (fn : List He.DefD) (ts : List He.Tab) (ex : aC -> Bool) (g : Addr -> Option Obj) : He.AlT × Bool := (He.obsT fa fn ts (frR g n), ex (frR g n))
def Nc (n : Nat) (fa : List He.Fa) (fn : List He.DefD) (ts : List He.Tab) (ex : aC -> Bool) : PySem.W.Hook where
 α := He.AlT × Bool
 obs := fun s => OD n fa fn ts ex s.heap.get?
 val := fun w => (He.valT fn ts w, true)
 says := fun w h => ∃ K : aC, K.In h /\ He.SaysT fa fn ts w K /\ ex K = true
 of := fun _ _ e => ⟨_, He.frG_in, congrArg (fun z : He.AlT × Bool => z.1) e, congrArg (fun z : He.AlT × Bool => z.2) e⟩
 keeps := fun _ _ _ ⟨K, hK, c⟩ k => ⟨K, PySem.W.Frag.In.keeps hK k, c⟩
def obC (c : List He.DefD) (K : aC) : Bool × List He.FnW := (c.all fun d => d.ok K, c.map fun d => He.fnW K d.at_)
theorem Br {σ β γ : Type} {o : Option σ} {l : σ -> β} {b : β} {sn : σ -> γ} {c : γ} {K : σ -> aC} {fa : List He.Fa} {fs : List (List He.DefD)} {ts : List He.Tab} {ex : aC -> Bool} {tv : List (Option (List (Option (Str × Int))))}
  (hA : (o.map fun s => (l s, sn s, fa.all fun f => f.ok (K s), ts.map fun t => He.dicW (K s) (t.1 (K s)), ex (K s))) = some (b, c, true, tv, true))
  (hD : ∀ f ∈ fs, (o.map fun s => obC f (K s)) = some (true, f.map He.DefD.val)) :
  (o.map fun s => (l s, sn s, (He.obsT fa fs.flatten ts (K s), ex (K s)))) = some (b, c, ((true, fs.flatten.map He.DefD.val), tv), true) := by
 cases o with
 | none => cases hA
 | some s =>
  have hA := Option.some.inj hA;have h1 := congrArg (fun z => z.1) hA
  have h2 := congrArg (fun z => z.2.1) hA
  have h3 := congrArg (fun z => z.2.2.1) hA
  have h4 := congrArg (fun z => z.2.2.2.1) hA
  have h5 := congrArg (fun z => z.2.2.2.2) hA
  dsimp only at h1 h2 h3 h4 h5;have hf : ∀ f ∈ fs, (f.all fun d => d.ok (K s)) = true /\ (f.map fun d => He.fnW (K s) d.at_) = f.map He.DefD.val := fun f hf => by
   have z := Option.some.inj (hD f hf);exact ⟨congrArg (fun z => z.1) z, congrArg (fun z => z.2) z⟩
  have hall : (fs.flatten.all fun d => d.ok (K s)) = true := by
   rw [bA];intro d hd;obtain ⟨f, h1, h2⟩ := List.mem_flatten.mp hd;exact bA.mp (hf f h1).1 d h2
  have hmap : (fs.flatten.map fun d => He.fnW (K s) d.at_) = fs.flatten.map He.DefD.val := by
   rw [List.map_flatten, List.map_flatten]
   congr 1
   exact nZ fun f h => (hf f h).2
  show some (l s, sn s, ((((fa.all fun f => f.ok (K s)) && (fs.flatten.all fun d => d.ok (K s)), fs.flatten.map fun d => He.fnW (K s) d.at_), ts.map fun t => He.dicW (K s) (t.1 (K s))), ex (K s))) = _
  rw [h1, h2, h3, h4, h5, hall, hmap];rfl
def nH (n : Str) (s : Stmt) : He.DefD := ⟨(n, none), n, n, defArgs s, defBody s, defScope s, [], []⟩
end PH
namespace PHZ
open PH PySem PySem.Spec PyProof.Rows L2
def top (i : Nat) : Stmt := PySem.Challenge.pw_penhome_k09_statements_by_their_paths.main.body.getD i (.Pass ⟨0, 0, 0, 0⟩)
abbrev qC : Stmt := top 9
abbrev AR : Stmt := top 10
abbrev mW : Stmt := top 11
abbrev rW : Stmt := top 17
abbrev pG : Stmt := top 18
abbrev jV : Stmt := top 20
abbrev gG : Stmt := top 19
abbrev pH : Stmt := top 21
abbrev pI : Stmt := top 22
abbrev nL : Stmt := top 23
abbrev jJ : Stmt := (qO (top 24)).getD 0 (.Pass ⟨0, 0, 0, 0⟩)
abbrev nO : Stmt := (qO (top 24)).getD 1 (.Pass ⟨0, 0, 0, 0⟩)
abbrev gS : Stmt := (qO (top 24)).getD 6 (.Pass ⟨0, 0, 0, 0⟩)
abbrev mN : Stmt := top 25
abbrev oH : Stmt := top 27
abbrev Cr : Stmt := top 30
abbrev lI : Stmt := top 31
abbrev oG : Stmt := top 32
abbrev sY : Stmt := top 33
abbrev pR : Stmt := top 34
abbrev qB : Stmt := top 35
abbrev jW : Stmt := (qO (top 36)).getD 0 (.Pass ⟨0, 0, 0, 0⟩)
abbrev vG : Stmt := top 38
abbrev AW : Stmt := top 39
abbrev rY : Stmt := top 40
abbrev AV : Stmt := top 41
abbrev xK : Stmt := top 43
abbrev xN : Stmt := top 42
abbrev uM : Stmt := top 44
abbrev AY : Stmt := top 45
abbrev AX : Stmt := top 46
abbrev qF : Stmt := top 48
abbrev AU : Stmt := top 49
abbrev vH : Stmt := top 50
abbrev qE : Stmt := top 51
abbrev uL : Stmt := top 52
abbrev nN : Stmt := top 53
abbrev vF : Stmt := top 54
abbrev nM : Stmt := top 9
abbrev jU : Stmt := top 25
abbrev lH : Stmt := top 23
abbrev fZ : Stmt := (qO (top 24)).getD 5 (.Pass ⟨0, 0, 0, 0⟩)
abbrev rZ : Stmt := top 55
abbrev lJ : Stmt := top 47
abbrev qD : Stmt := top 54
abbrev xM : Stmt := top 56
abbrev sZ : Stmt := top 57
abbrev fF : Stmt := (qO (top 24)).getD 4 (.Pass ⟨0, 0, 0, 0⟩)
abbrev rX : Stmt := top 58
abbrev mX : Stmt := top 48
abbrev mM : Stmt := top 18
abbrev iB : Stmt := top 20
abbrev fE : Stmt := top 19
abbrev fY : Stmt := (qO (top 24)).getD 5 (.Pass ⟨0, 0, 0, 0⟩)
abbrev sX : Stmt := top 59
abbrev pQ : Stmt := (qO (top 3)).getD 0 (.Pass ⟨0, 0, 0, 0⟩)
abbrev pP : Stmt := (qO (top 6)).getD 0 (.Pass ⟨0, 0, 0, 0⟩)
def tZ : He.DefD := nH "is_integer" qC
def CG : He.DefD := nH "is_bit" AR
def uA : He.DefD := nH "is_command" mW
def wI : He.DefD := nH "blocks_of" rW
def sO : He.DefD := nH "with_blocks" pG
def rF : He.DefD := nH "copied_block" jV
def mV : He.DefD := nH "copied_statement" gG
def sP : He.DefD := nH "well_formed" pH
def sQ : He.DefD := nH "first_fault" pI
def rD : He.DefD := nH "statement_at" nL
def wM : He.DefD := ⟨("Book", some "__init__"), "__init__", "Book.__init__", defArgs jJ, defBody jJ, defScope jJ, [], []⟩
def zH : He.DefD := ⟨("Book", some "__len__"), "__len__", "Book.__len__", defArgs nO, defBody nO, defScope nO, [], []⟩
def sR : He.DefD := ⟨("Book", some "bodies"), "bodies", "Book.bodies", defArgs gS, defBody gS, defScope gS, [], []⟩
def pY : He.DefD := nH "has_procedure" mN
def wH : He.DefD := nH "is_matrix" oH
def Ek : He.DefD := nH "pivot" Cr
def oV : He.DefD := nH "common_divisor" lI
def wG : He.DefD := nH "primitive" oG
def BB : He.DefD := nH "cleared" sY
def B9 : He.DefD := nH "reduced" pR
def zB : He.DefD := nH "with_row" qB
def uB : He.DefD := ⟨("Space", some "__init__"), "__init__", "Space.__init__", defArgs jW, defBody jW, defScope jW, [], []⟩
def CJ : He.DefD := nH "_law_pool" vG
def CL : He.DefD := nH "_law_draw" AW
def wK : He.DefD := nH "_law_command" rY
def CK : He.DefD := nH "_law_pair" AV
def BC : He.DefD := nH "_law_piece" xK
def BF : He.DefD := nH "_law_block" xN
def zG : He.DefD := nH "_law_around" uM
def CO : He.DefD := nH "_law_body" AY
def CN : He.DefD := nH "_law_book" AX
def zF : He.DefD := nH "_law_blocks" qF
def CH : He.DefD := nH "_law_with" AU
def CM : He.DefD := nH "_law_copy" vH
def zE : He.DefD := nH "_law_copies" qE
def zD : He.DefD := nH "_law_places" uL
def rG : He.DefD := nH "_law_all_places" nN
def CI : He.DefD := nH "_law_same" vF
def rE : He.DefD := nH "is_integer" nM
def nV : He.DefD := nH "has_procedure" jU
def oT : He.DefD := nH "statement_at" lH
def oY : He.DefD := ⟨("Book", some "__getitem__"), "__getitem__", "Book.__getitem__", defArgs fZ, defBody fZ, defScope fZ, [], []⟩
def wL : He.DefD := nH "_law_asked" rZ
def oW : He.DefD := nH "_law_is_integer" lJ
def zC : He.DefD := nH "_law_same" qD
def BE : He.DefD := nH "_law_due" xM
def BD : He.DefD := nH "_law_other" sZ
def nW : He.DefD := ⟨("Book", some "__contains__"), "__contains__", "Book.__contains__", defArgs fF, defBody fF, defScope fF, [], []⟩
def wJ : He.DefD := nH "_law_right" rX
def uC : He.DefD := nH "_law_blocks" mX
def pX : He.DefD := nH "with_blocks" mM
def oU : He.DefD := nH "copied_block" iB
def lE : He.DefD := nH "copied_statement" fE
def oX : He.DefD := ⟨("Book", some "__getitem__"), "__getitem__", "Book.__getitem__", defArgs fY, defBody fY, defScope fY, [], []⟩
def BA : He.DefD := nH "law" sX
def B7 : He.DefD := ⟨("NoBook", some "__init__"), "__init__", "NoBook.__init__", defArgs pQ, defBody pQ, defScope pQ, [], []⟩
def B6 : He.DefD := ⟨("NoRows", some "__init__"), "__init__", "NoRows.__init__", defArgs pP, defBody pP, defScope pP, [], []⟩
def fa : List He.Fa := ([.free "isinstance", .free "int", .free "bool", .free "tuple", .free "len", .free "str", .glo "LIMITS", .free "all", .int "DEEPEST" 3, .free "list", .free "enumerate", .int "MOST_IN_LIST" 8, .int "MOST_IN_PROCEDURE" 12, .int "MOST_PROCEDURES" 3, .glo "NoBook", .cls "Book", .noat "Book" "own", .free "abs", .free "zip", .free "sorted"] : List He.Fa) ++ ([.glo "NoRows", .cls "Space", .noat "Space" "basis", .free "range", .cls "Space", .glo "NoProcedure", .glo "NoPath", .glo "NoPath", .glo "NoProcedure", .cls "Space", .mkr "Space", .glo "Space", .cls "Book", .mkr "Book", .glo "Book", .free "min", .glo "is_integer", .glo "is_bit", .glo "is_command", .glo "blocks_of"] : List He.Fa) ++ ([.glo "with_blocks", .glo "copied_block", .glo "copied_statement", .glo "well_formed", .glo "first_fault", .glo "statement_at", .meth "Book" "__init__", .meth "Book" "__len__", .meth "Book" "bodies", .glo "has_procedure", .glo "is_matrix", .glo "pivot", .glo "common_divisor", .glo "primitive", .glo "cleared", .glo "reduced", .glo "with_row", .meth "Space" "__init__", .glo "_law_pool", .glo "_law_draw"] : List He.Fa) ++ ([.glo "_law_command", .glo "_law_pair", .glo "_law_piece", .glo "_law_block", .glo "_law_around", .glo "_law_body", .glo "_law_book", .glo "_law_blocks", .glo "_law_with", .glo "_law_copy", .glo "_law_copies", .glo "_law_places", .glo "_law_all_places", .glo "_law_same", .glo "is_integer", .glo "has_procedure", .glo "statement_at", .meth "Book" "__getitem__", .glo "_law_asked", .glo "_law_is_integer"] : List He.Fa) ++ ([.glo "_law_same", .glo "_law_due", .glo "_law_other", .meth "Book" "__contains__", .glo "_law_right", .glo "_law_blocks", .glo "with_blocks", .glo "copied_block", .glo "copied_statement", .meth "Book" "__getitem__", .glo "law"] : List He.Fa)
def fn0 : List He.DefD := [B7, B6, tZ, CG, uA, wI, sO, rF, mV, sP, sQ, rD, wM, zH, sR, pY, wH, Ek, oV, wG, BB, B9, zB, uB, CJ, CL, wK, CK, BC, BF, zG, CO, CN, zF, CH, CM, zE, zD, rG, CI, rE, nV, oT, oY, wL, oW, zC, BE, BD, nW, wJ, uC, pX, oU, lE, oX, BA]
def fns : List (List He.DefD) := [fn0]
def fn : List He.DefD := fns.flatten
def ts : List He.Tab := [Fi]
def exs (K : aC) : List Bool := [limB K, xaB K "NoBook" ["procedure", "path"], NG K, xaB K "NoRows" ["index"], isB K "Space", decide (eJ K (.ref (He.ga K "Space")) (.type "int") = some false), decide (eJ K (.ref (He.ga K "Space")) (.type "bool") = some false), decide (eJ K (.ref (He.ga K "Space")) (.type "tuple") = some false), xcB K "NoProcedure", xcB K "NoPath", xmB K ["NoBook", "NoPath", "NoProcedure", "NoRows"], decide (eJ K (.ref (He.ga K "Space")) (.type "list") = some false)]
def ex (K : aC) : Bool := (exs K).all id
def loose : List Str := (["_wall", "HomeError", "NoBook", "NoProcedure", "NoPath", "NoRows", "LIMITS", "is_integer", "is_bit", "is_command", "MOST_PROCEDURES", "MOST_IN_LIST", "MOST_IN_PROCEDURE", "DEEPEST", "blocks_of", "with_blocks", "copied_statement", "copied_block", "well_formed", "first_fault", "statement_at", "Book", "has_procedure", "is_matrix", "composed", "pivot", "common_divisor", "primitive", "cleared", "reduced"] : List Str) ++ (["with_row", "Space", "_law_pool", "_law_draw", "_law_command", "_law_pair", "_law_block", "_law_piece", "_law_around", "_law_body", "_law_book", "_law_is_integer", "_law_blocks", "_law_with", "_law_copy", "_law_copies", "_law_places", "_law_all_places", "_law_same", "_law_asked", "_law_due", "_law_other", "_law_right"] : List Str)
abbrev R : PySem.W.OpenRow := PySem.W.OpenLaw.row PySem.Challenge.rw_penhome_k09_statements_by_their_paths
abbrev hk : PySem.W.Hook := Nc 1200 fa fn ts ex
def ob (s : AE) : He.AlT × Bool := OD 1200 fa fn ts ex (HandSHeadRun.getT s)
abbrev Kz (w : World) : Prop := HandSHeadRun.RunEq R (kY R.prog [59]) hk ob 8000 loose w
noncomputable abbrev My (w : World) (os : OsState) := HandSHeadRun.endF (HandSHeadRun.stepQ (HandSHeadRun.denQ HandSHeadRun.tabQ) R.prog w) 8000 R.prog w os
abbrev LA (s : AE) : aC := frR (HandSHeadRun.getT s) 1200
set_option maxHeartbeats 0 in
theorem LZ (w : World) : ∀ os : OsState, (My (w.withFollow "special-get-raises" false) os).map (fun s => (HandSHeadRun.looksF R.prog (Ip (w.withFollow "special-get-raises" false).params) s.abs, HandSHeadRun.seenQ (kY R.prog [59]) loose (PySem.importedModules R.prog.main.body) (fun s => PySem.W.xlAt (kY R.prog [59]) [] s && PySem.W.recOk R.toRowW.records s) s.abs, fa.all fun f => f.ok (LA s), ts.map fun t => He.dicW (LA s) (t.1 (LA s)), ex (LA s))) = some (true, Iw (kY R.prog [59]) loose, true, ts.map (fun t => some (He.keysIn (w.withFollow "special-get-raises" false).params t.2)), true) := by
 intro os
 kernel_rfl
set_option maxHeartbeats 0 in
theorem Lc (w : World) : ∀ os : OsState, (My (w.withFollow "special-get-raises" false) os).map (fun s => obC fn0 (LA s)) = some (true, fn0.map He.DefD.val) := by
 intro os
 kernel_rfl
theorem run_f (w : World) : Kz (w.withFollow "special-get-raises" false) := fun os => Br (fs := fns) (LZ w os) (Iq.mpr ⟨Lc w os, fun f hf => nomatch hf⟩)
set_option maxHeartbeats 0 in
theorem LX (w : World) : ∀ os : OsState, (My (w.withFollow "special-get-raises" true) os).map (fun s => (HandSHeadRun.looksF R.prog (Ip (w.withFollow "special-get-raises" true).params) s.abs, HandSHeadRun.seenQ (kY R.prog [59]) loose (PySem.importedModules R.prog.main.body) (fun s => PySem.W.xlAt (kY R.prog [59]) [] s && PySem.W.recOk R.toRowW.records s) s.abs, fa.all fun f => f.ok (LA s), ts.map fun t => He.dicW (LA s) (t.1 (LA s)), ex (LA s))) = some (true, Iw (kY R.prog [59]) loose, true, ts.map (fun t => some (He.keysIn (w.withFollow "special-get-raises" true).params t.2)), true) := by
 intro os
 kernel_rfl
set_option maxHeartbeats 0 in
theorem LY (w : World) : ∀ os : OsState, (My (w.withFollow "special-get-raises" true) os).map (fun s => obC fn0 (LA s)) = some (true, fn0.map He.DefD.val) := by
 intro os
 kernel_rfl
theorem run_t (w : World) : Kz (w.withFollow "special-get-raises" true) := fun os => Br (fs := fns) (LX w os) (Iq.mpr ⟨LY w os, fun f hf => nomatch hf⟩)
theorem run_ (w : World) : Kz w := PySem.W.byRow2 "special-get-raises" run_f run_t w
end PHZ
namespace PH
open PySem PySem.Spec PyProof.Rows L2
section
variable {X : Cx}
theorem cG {e : Expr} {t u : TE} (h : PE X e t) (i : ∀ σ H Q, u σ H Q -> t σ H Q) : PE X e u := ⟨fun pins s σ H Q I q => h.run pins s σ H Q I (i σ H Q q)⟩
theorem BM {e : Expr} {t u : TT} (h : PT X e t) (i : ∀ σ H Q, u σ H Q -> t σ H Q) : PT X e u := ⟨fun pins s σ H Q I q => h.run pins s σ H Q I (i σ H Q q)⟩
theorem fT {f : Value -> Value -> Sem Value} {r u : R2} (h : OpR X f r) (i : ∀ x y H Q, u x y H Q -> r x y H Q) : OpR X f u := fun pins s σ H x y v w Q I rx ry q => h pins s σ H x y v w Q I rx ry (i x y H Q q)
theorem jQ {f : Value} {r u : List V -> Hp -> VK -> Prop} (h : CallR X f r) (i : ∀ xs H Q, u xs H Q -> r xs H Q) : CallR X f u := fun pins s σ H xs us Q I rx q => h pins s σ H xs us Q I rx (i xs H Q q)
theorem HR {r u : R2} (h : IxR X r) (i : ∀ x y H Q, u x y H Q -> r x y H Q) : IxR X u := fun e1 e2 pins s σ H x y v w Q I rx ry q => h e1 e2 pins s σ H x y v w Q I rx ry (i x y H Q q)
def sl : L2.St -> Nat -> Option V
 | [], _ => none
 | x :: _, 0 => x
 | _ :: r, n + 1 => sl r n
theorem NF : ∀ {σ : L2.St} {i : Nat} {v : V}, sl σ i = some v -> σ[i]? = some (some v)
 | [], _, _, h => by cases h
 | x :: _, 0, v, h => by
  have e : x = some v := h;rw [e]; rfl
 | _ :: r, n + 1, v, h => by
  have e := NF (σ := r) (i := n) (v := v) h
  simpa using e
def zX (i : Nat) : TE := fun σ H Q => match sl σ i with
 | some v => Q v H
 | none => False
theorem cv (i : Nat) {x : Str} {pos : Pos} (hN : X.N[i]? = some x := by rfl) (hv : Vis X.env.scope x := by first | exact tT rfl | exact oC (tT rfl) | exact oC (oC rfl)) (hd : (x == ("__debug__" : Str)) = false := by decide)
  (hcd : (x == ("__classdict__" : Str)) = false := by decide) : PE X (.Name x pos) (zX i) := cG (pe_var hN hv hd hcd) fun σ H Q h => by
 unfold zX at h;cases e : sl σ i with
 | none => rw [e] at h; exact h.elim
 | some v => rw [e] at h; exact ⟨v, NF e, h⟩
def cI0 (g : Int -> Int -> V) : R2 := fun x y H Q => match x, y with
 | .int i, .int j => Q (g i j) H
 | _, _ => False
def cI (C : Int -> Int -> Prop) (g : Int -> Int -> V) : R2 := fun x y H Q => match x, y with
 | .int i, .int j => C i j /\ Q (g i j) H
 | _, _ => False
theorem uR {g : Int -> Int -> V} : ∀ x y H Q, cI0 g x y H Q -> rI0 g x y H Q := fun x y H Q h => by
 cases x with
 | int i => cases y with
  | int j => exact ⟨i, j, rfl, rfl, h⟩
  | _ => exact h.elim
 | _ => exact h.elim
theorem En {C : Int -> Int -> Prop} {g : Int -> Int -> V} : ∀ x y H Q, cI C g x y H Q -> rI C g x y H Q := fun x y H Q h => by
 cases x with
 | int i => cases y with
  | int j => exact ⟨i, j, rfl, rfl, h.1, h.2⟩
  | _ => exact h.elim
 | _ => exact h.elim
def rAddI : R2 := fun x y H Q => match x, y with
 | .int i, .int j => Q (.int (i + j)) H
 | _, _ => False
def JN : R2 := fun x y H Q => match x, y with
 | .int i, .int j => Q (.int (i - j)) H
 | _, _ => False
def NM : R2 := fun x y H Q => match x, y with
 | .int i, .int j => IntMulOk i j /\ Q (.int (i * j)) H
 | _, _ => False
def NO : R2 := fun x y H Q => match x, y with
 | .int i, .int j => (0 < j) /\ Q (.int (i % j)) H
 | _, _ => False
def JQ : R2 := fun x y H Q => match x, y with
 | .int i, .int j => (CDiv i j) /\ Q (.int (i / j)) H
 | _, _ => False
def NL : R2 := fun x y H Q => match x, y with
 | .int i, .int j => (CPow i j) /\ Q (.int (i ^ j.toNat)) H
 | _, _ => False
def rLtC : R2 := fun x y H Q => match x, y with
 | .int i, .int j => Q (.bl (decide (i < j))) H
 | _, _ => False
def rLeC : R2 := fun x y H Q => match x, y with
 | .int i, .int j => Q (.bl (decide (i <= j))) H
 | _, _ => False
def rGtC : R2 := fun x y H Q => match x, y with
 | .int i, .int j => Q (.bl (decide (j < i))) H
 | _, _ => False
def rGeC : R2 := fun x y H Q => match x, y with
 | .int i, .int j => Q (.bl (decide (j <= i))) H
 | _, _ => False
def N6 (K : aC) : R2 := fun x y H Q => match x, y with
 | .int i, .int j => Q (.int (i + j)) H
 | .str a, .str b => a.length + b.length <= sizeLine /\ Q (.str (a ++ b)) H
 | .ref _, .ref _ => rCat x y H Q \/ rCatA K x y H Q
 | _, _ => False
theorem bX : OpR X (binaryOp .Add) (N6 X.K) := by
 refine fT (OpR.or (X := X) op_add (OpR.or op_add_str (OpR.or op_cat op_catA))) fun x y H Q h => ?_
 cases x with
 | int i => cases y with
  | int j => exact .inl ⟨i, j, rfl, rfl, h⟩
  | _ => exact h.elim
 | str i => cases y with
  | str j => exact .inr (.inl ⟨i, j, rfl, rfl, h.1, h.2⟩)
  | _ => exact h.elim
 | ref i => cases y with
  | ref j => exact .inr (.inr h)
  | _ => exact h.elim
 | _ => exact h.elim
theorem fR : OpR X (binaryOp .Sub) JN := fT op_sub fun x y H Q h => uR (g := fun i j => .int (i - j)) x y H Q h
theorem Lk : OpR X (binaryOp .Mult) (rI IntMulOk fun i j => .int (i * j)) := opI fun _ _ _ _ _ _ _ hc q => mul_int q hc
theorem lR : OpR X (binaryOp .Mult) NM := fT Lk fun x y H Q h => En (C := IntMulOk) (g := fun i j => .int (i * j)) x y H Q h
theorem mulL {i j : Int} (h1 : -(2 ^ 64) < i) (h2 : i < 2 ^ 64) : IntMulOk i j := CMul.ok (.inl ⟨h1, h2⟩)
theorem mulR {i j : Int} (h1 : -(2 ^ 64) < j) (h2 : j < 2 ^ 64) : IntMulOk i j := CMul.ok (.inr ⟨h1, h2⟩)
theorem iC : OpR X (binaryOp .Mod) NO := fT op_mod fun x y H Q h => En (C := fun _ j => 0 < j) (g := fun i j => .int (i % j)) x y H Q h
theorem sE : OpR X (binaryOp .FloorDiv) JQ := fT op_fdiv fun x y H Q h => En (C := CDiv) (g := fun i j => .int (i / j)) x y H Q h
theorem Lj : OpR X (binaryOp .Pow) NL := fT op_pow fun x y H Q h => En (C := CPow) (g := fun i j => .int (i ^ j.toNat)) x y H Q h
theorem hI : OpR X (compareOp .Lt) rLtC := fT op_lt fun x y H Q h => uR (g := fun i j => .bl (decide (i < j))) x y H Q h
theorem nP : OpR X (compareOp .LtE) rLeC := fT op_le fun x y H Q h => uR (g := fun i j => .bl (decide (i <= j))) x y H Q h
theorem mO : OpR X (compareOp .Gt) rGtC := fT op_gt fun x y H Q h => uR (g := fun i j => .bl (decide (j < i))) x y H Q h
theorem FU : OpR X (compareOp .GtE) rGeC := fT op_ge fun x y H Q h => uR (g := fun i j => .bl (decide (j <= i))) x y H Q h
def cNeg : V -> Hp -> VK -> Prop := fun x H Q => match x with
 | .int i => Q (.int (-i)) H
 | _ => False
theorem LD : UnR X (unaryOp .USub) cNeg := fun pins s σ H x v Q I rx h => un_neg pins s σ H x v Q I rx (by
 cases x with
 | int i => exact ⟨i, rfl, h⟩
 | _ => exact h.elim)
def cEq (K : aC) : R2 := fun x y H Q => match x, y with
 | .int i, .int j => Q (.bl (decide (i = j))) H
 | .str i, .str j => Q (.bl (decide (i = j))) H
 | _, _ => rEqD K x y H Q
def cNe (K : aC) : R2 := fun x y H Q => match x, y with
 | .int i, .int j => Q (.bl (!decide (i = j))) H
 | .str i, .str j => Q (.bl (!decide (i = j))) H
 | _, _ => rNeD K x y H Q
theorem dI {i j : Int} : decide (V.int i = V.int j) = decide (i = j) := by
 by_cases h : i = j
 ·rw [decide_eq_true h, h, decide_eq_true rfl]
 ·rw [decide_eq_false h, decide_eq_false fun e => h (V.int.inj e)]
theorem dS {i j : Str} : decide (V.str i = V.str j) = decide (i = j) := by
 by_cases h : i = j
 ·rw [decide_eq_true h, h, decide_eq_true rfl]
 ·rw [decide_eq_false h, decide_eq_false fun e => h (V.str.inj e)]
theorem bI (hu : X.A.units + 64 < cLine) : OpR X (compareOp .Eq) (cEq X.K) := by
 refine fT (OpR.or (X := X) op_eq (op_eqD hu)) fun x y H Q h => ?_
 cases x with
 | int i => cases y with
  | int j => exact .inl ⟨rfl, by rw [dI]; exact h⟩
  | _ => exact .inr h
 | str i => cases y with
  | str j => exact .inl ⟨rfl, by rw [dS]; exact h⟩
  | _ => exact .inr h
 | _ => exact .inr h
theorem iS (hu : X.A.units + 64 < cLine) : OpR X (compareOp .NotEq) (cNe X.K) := by
 refine fT (OpR.or (X := X) op_ne (op_neD hu)) fun x y H Q h => ?_
 cases x with
 | int i => cases y with
  | int j => exact .inl ⟨rfl, by rw [dI]; exact h⟩
  | _ => exact .inr h
 | str i => cases y with
  | str j => exact .inl ⟨rfl, by rw [dS]; exact h⟩
  | _ => exact .inr h
 | _ => exact .inr h
variable {a b c : Expr} {ta tb tc : TE} {pos : Pos}
def cT (K : aC) : V -> Hp -> (Bool -> Hp -> Prop) -> Prop := fun x H Q => match x with
 | .bl k => Q k H
 | .non => Q false H
 | .int i => Q (i != 0) H
 | x => ∃ k, TruV K x H k /\ Q k H
def cTest (K : aC) (t : TE) : TT := fun σ H Q => t σ H fun x H' => cT K x H' Q
theorem Ks {K : aC} : ∀ x H Q, cT K x H Q -> ∃ k, TruV K x H k /\ Q k H := fun x H Q h => by
 cases x with
 | bl k => exact ⟨k, rfl, h⟩
 | non => exact ⟨false, rfl, h⟩
 | int i => exact ⟨_, rfl, h⟩
 | _ => exact h
theorem t_val (ha : PE X a ta) (he : ∀ whole, isTrue a X.env whole = (do let v <- whole; standAt a.pos; holding [v] (truthy v)) := by intro _; rfl) : PT X a (cTest X.K ta) := by
 refine ⟨fun pins s σ H Q I h => ?_⟩
 exact isTrue_plain (thn (ha.run pins s σ H _ I h) fun v s1 ⟨x, H1, I1, r1, q1⟩ => tru_ok pins s1 σ H1 x v Q I1 r1 (Ks x H1 Q q1)) (he _)
def cB (t : TE) : TT := fun σ H Q => t σ H fun x H' => match x with
 | .bl k => Q k H'
 | _ => False
theorem ND {op : CmpOp} {r : R2} (ho : OpR X (compareOp op) r) (ha : PE X a ta) (hb : PE X b tb) (hm : behindInMarks op b = false := by rfl) : PT X (.Compare a [op] [b] pos) (cB (tOp r ta tb)) := by
 refine ⟨fun pins s σ H Q I h => ?_⟩
 have h' : ta σ H fun x H1 => tb σ H1 fun y H2 => r x y H2 fun z H3 => (match z with | .bl k => Q k H3 | _ => False) := h
 refine wpAny_isTrue_Compare1 (thn (ha.run pins s σ H _ I h') fun v s1 ⟨x, H1, I1, r1, q1⟩ => thn (hb.run pins s1 σ H1 _ I1 q1) fun u s2 ⟨y, H2, I2, r2, q2⟩ => thn (ho pins s2 σ H2 x y v u _ I2 r1 r2 q2) fun d s3 hz => ?_) hm
 obtain ⟨z, H3, I3, r3, q3⟩ := hz;cases z with
 | bl k => cases r3; exact wpAny_truthy_bool ⟨H3, I3, q3⟩
 | _ => exact q3.elim
theorem e_cmp {op : CmpOp} {r : R2} (ho : OpR X (compareOp op) r) (ha : PE X a ta) (hb : PE X b tb) (hm : behindInMarks op b = false := by rfl) : PE X (.Compare a [op] [b] pos) (tOp r ta tb) := pe_cmpR ho ha hb hm
end
section
variable {X : Cx} {a b c : Expr} {ta tb tc : TE} {pos : Pos}
variable {rest : List Expr}
def cAndV (ta tb : TE) : TE := fun σ H Q => ta σ H fun x H1 => match x with
 | .bl c => if c = true then tb σ H1 Q else Q (.bl false) H1
 | _ => False
def cNotV (K : aC) (ta : TE) : TE := fun σ H Q => ta σ H fun x H1 => cT K x H1 fun k H2 => Q (.bl (!k)) H2
theorem e_and (ha : PE X a ta) (hb : PE X (.BoolOp .And (b :: rest) pos) tb) : PE X (.BoolOp .And (a :: b :: rest) pos) (cAndV ta tb) := by
 refine ⟨fun pins s σ H Q I h => ?_⟩
 refine BoolOp_and (thn (ha.run pins s σ H _ I h) fun v s1 hq => ?_)
 obtain ⟨x, H1, I1, r1, q1⟩ := hq;cases x with
 | bl c =>
  cases r1;refine wpAny_truthy_bool ?_
  cases c with
  | true => exact hb.run pins s1 σ H1 Q I1 q1
  | false => exact ⟨.bl false, H1, I1, rfl, q1⟩
 | _ => exact q1.elim
theorem e_not (ha : PE X a ta) : PE X (.UnaryOp .Not a pos) (cNotV X.K ta) := by
 refine ⟨fun pins s σ H Q I h => ?_⟩
 refine UnaryOp_ (thn (ha.run pins s σ H _ I h) fun v s1 hq => ?_)
 obtain ⟨x, H1, I1, r1, q1⟩ := hq;exact not_of (thn (tru_ok pins s1 σ H1 x v (fun c H2 => Q (.bl (!c)) H2) I1 r1 (Ks x H1 _ q1)) fun c s2 ⟨H2, I2, q2⟩ => ⟨.bl (!c), H2, I2, rfl, q2⟩)
def DQ (r r' : R2) (ta tb tc : TE) : TE := fun σ H Q => ta σ H fun x H1 => tb σ H1 fun y H2 => r x y H2 fun z H3 => match z with
 | .bl k => if k = true then tc σ H3 fun w' H4 => r' y w' H4 Q else Q (.bl false) H3
 | _ => False
theorem N0 {op op' : CmpOp} {r r' : R2} (ho : OpR X (compareOp op) r) (ho' : OpR X (compareOp op') r') (ha : PE X a ta) (hb : PE X b tb) (hc : PE X c tc)
  (hm : lastMarks [op, op'] [b, c] = false := by with_unfolding_all rfl) : PE X (.Compare a [op, op'] [b, c] pos) (DQ r r' ta tb tc) := by
 refine ⟨fun pins s σ H Q I h => ?_⟩
 refine Compare_chain (thn (ha.run pins s σ H _ I h) fun v s1 ⟨x, H1, I1, r1, q1⟩ => chain_link (thn (hb.run pins s1 σ H1 _ I1 q1) fun u s2 ⟨y, H2, I2, r2, q2⟩ =>
  thn (ho pins s2 σ H2 x y v u _ I2 r1 r2 q2) fun d s3 hz => ?_)) hm
 obtain ⟨z, H3, I3, r3, q3⟩ := hz;cases z with
 | bl k =>
  cases r3;refine wpAny_truthy_bool ?_
  cases k with
  | false => exact ite_ff ⟨.bl false, H3, I3, rfl, q3⟩
  | true => exact ite_tt (chain_last (thn (hc.run pins s3 σ H3 _ I3 q3) fun w' s4 ⟨z', H4, I4, r4, q4⟩ => ho' pins s4 σ H4 y z' u w' Q I4 r2 r4 q4))
 | _ => exact q3.elim
theorem LK {op op' : CmpOp} {r r' : R2} (ho : OpR X (compareOp op) r) (ho' : OpR X (compareOp op') r') (ha : PE X a ta) (hb : PE X b tb) (hc : PE X c tc)
  (hm : lastMarks [op, op'] [b, c] = false := by with_unfolding_all rfl) : PT X (.Compare a [op, op'] [b, c] pos) (cB (DQ r r' ta tb tc)) := by
 refine ⟨fun pins s σ H Q I h => ?_⟩
 refine isTrue_chain (thn (ha.run pins s σ H _ I h) fun v s1 ⟨x, H1, I1, r1, q1⟩ => test_link (thn (hb.run pins s1 σ H1 _ I1 q1) fun u s2 ⟨y, H2, I2, r2, q2⟩ =>
  thn (ho pins s2 σ H2 x y v u _ I2 r1 r2 q2) fun d s3 hz => ?_)) hm
 obtain ⟨z, H3, I3, r3, q3⟩ := hz;cases z with
 | bl k =>
  cases r3;refine wpAny_truthy_bool ?_
  cases k with
  | false => exact ite_ff ⟨H3, I3, q3⟩
  | true =>
   refine ite_tt (test_last (thn (hc.run pins s3 σ H3 _ I3 q3) fun w' s4 ⟨z', H4, I4, r4, q4⟩ => thn (ho' pins s4 σ H4 y z' u w' _ I4 r2 r4 q4) fun d' s5 hz2 => ?_))
   obtain ⟨z2, H5, I5, r5, q5⟩ := hz2;cases z2 with
   | bl k2 => cases r5; exact wpAny_truthy_bool ⟨H5, I5, q5⟩
   | _ => exact q5.elim
 | _ => exact q3.elim
def cIx (K : aC) : R2 := fun x y H Q => match x, y with
 | .ref p, .int i => ∃ xs v, (SqL K H p xs \/ SqT K H p xs) /\ atI xs i = some v /\ Q v H
 | .str z, .int i => z.length <= sizeLine /\ ∃ c, atI z.cps.toList i = some c /\ Q (.str ⟨#[c]⟩) H
 | _, _ => False
theorem ix_C : IxR X (cIx X.K) := HR ix_seq fun x y H Q h => by
 cases x with
 | ref p => cases y with
  | int i =>
   obtain ⟨xs, v, h1 | h1, h2, q⟩ := h
   ·exact .inl ⟨p, xs, i, v, rfl, rfl, h1, h2, q⟩
   ·exact .inr (.inl ⟨p, xs, i, v, rfl, rfl, h1, h2, q⟩)
  | _ => exact h.elim
 | str z => cases y with
  | int i =>
   obtain ⟨h1, c, h2, q⟩ := h;exact .inr (.inr ⟨z, i, c, rfl, rfl, h1, h2, q⟩)
  | _ => exact h.elim
 | _ => exact h.elim
theorem Pj (ha : PE X a ta) (hb : PE X b tb) (hs : PlainIx b := by intro _ _; rfl) : PE X (.Subscript a b pos) (tOp (cIx X.K) ta tb) := pe_ix ix_C ha hb hs
def cLen (K : aC) : V -> Hp -> VK -> Prop := fun x H Q => match x with
 | .str z => z.length <= sizeLine /\ Q (.int z.length) H
 | .ref p => ∃ ys, (SqL K H p ys \/ SqT K H p ys) /\ Q (.int ys.length) H
 | _ => False
def c1 (r : V -> Hp -> VK -> Prop) : List V -> Hp -> VK -> Prop := fun xs H Q => match xs with
 | [x] => r x H Q
 | _ => False
theorem e_len {p : Pos} (hm : X.mg "len" = none) (ha : PE X a ta) (hg : Gl X "len" := by rfl) (hs : starEach [a] X.env = [(false, eval a X.env)] := by rfl) : PE X (.Call (.Name "len" p) [a] [] pos) (tCB (c1 (cLen X.K)) (tCons ta tNil)) :=
 pe_callB (jQ (CallR.or call_len_seq call_len_str) fun xs H Q h => by
  match xs, h with
  | [x], h =>
   cases x with
   | str z => exact .inr ⟨z, rfl, h.1, h.2⟩
   | ref p =>
    obtain ⟨ys, h1, q⟩ := h;exact .inl ⟨p, ys, rfl, h1, q⟩
   | _ => exact h.elim) hg hm boot_len (pa_cons ha pa_nil hs) (he := hs)
def cInt : V -> Hp -> VK -> Prop := fun x H Q => match x with
 | .int i => Q (.int i) H
 | .bl k => Q (.int (if k then 1 else 0)) H
 | _ => False
theorem e_int {p : Pos} (hm : X.mg "int" = none) (ha : PE X a ta) (hg : Gl X "int" := by rfl) (hs : starEach [a] X.env = [(false, eval a X.env)] := by rfl) : PE X (.Call (.Name "int" p) [a] [] pos) (tCB (c1 cInt) (tCons ta tNil)) :=
 pe_callTy (jQ call_int1 fun xs H Q h => by
  match xs, h with
  | [x], h =>
   cases x with
   | int i => exact .inl ⟨i, rfl, h⟩
   | bl k => exact .inr ⟨k, rfl, h⟩
   | _ => exact h.elim) hg hm boot_int (pa_cons ha pa_nil hs) (he := hs)
def isTy (T n : String) : Bool := n == T || (n == "bool" && T == "int")
def kinds : List String := ["NoneType", "bool", "int", "str", "list", "tuple", "dict"]
def targets : List String := ["int", "bool", "str", "list", "tuple", "dict"]
theorem Lu (K : aC) : (kinds.all fun n => targets.all fun T => decide (eJ K (.type n) (.type T) = some (isTy T n))) = true := by kernel_rfl
theorem Fk {K : aC} {n T : String} (hn : n ∈ kinds) (hT : T ∈ targets) : eJ K (.type n) (.type T) = some (isTy T n) :=
 of_decide_eq_true (bA.mp (bA.mp (Lu K) n hn) T hT)
def BO (K : aC) (H : Hp) (a : Addr) (n : String) : Prop := n ∈ ["list", "tuple", "dict"] /\ TyX K H (.ref a) (.type n)
def IZ (K : aC) (T : String) : V -> Hp -> VK -> Prop := fun x H Q => match x with
 | .non => Q (.bl false) H
 | .bl _ => Q (.bl (T == "bool" || T == "int")) H
 | .int _ => Q (.bl (T == "int")) H
 | .str _ => Q (.bl (T == "str")) H
 | .ref a => ∃ n, BO K H a n /\ Q (.bl (n == T)) H
 | _ => False
def Np (K : aC) (T : String) : List V -> Hp -> VK -> Prop := fun xs H Q => match xs with
 | [x, .ty n] => if n = T then IZ K T x H Q else False
 | _ => False
theorem CS {T : String} (hT : T ∈ targets) : CallR X (.builtin "isinstance") (Np X.K T) := jQ call_isi fun xs H Q h => by
 match xs, h with
 | [x, .ty n], h =>
  have h0 : if n = T then IZ X.K T x H Q else False := h
  by_cases e : n = T
  case neg => rw [if_neg e] at h0; exact h0.elim
  rw [if_pos e] at h0
  replace h := h0
  subst e;have go : ∀ (k : String) (b : Bool), k ∈ kinds -> TyX X.K H x (.type k) -> b = isTy n k -> Q (.bl b) H -> rIsi X.K [x, .ty n] H Q := fun k b hk ty e q => ⟨x, .ty n, .type k, .type n, isTy n k, rfl, .ty n, ty, Fk hk hT, by rw [<- e]; exact q⟩
  have h6 : n = "int" \/ n = "bool" \/ n = "str" \/ n = "list" \/ n = "tuple" \/ n = "dict" := by simpa [targets] using hT
  cases x with
  | non => exact go "NoneType" false (by decide) (.base .non) (by rcases h6 with e | e | e | e | e | e <;> subst e <;> decide) h
  | bl b => exact go "bool" _ (by decide) (.base (.bl b)) (by rcases h6 with e | e | e | e | e | e <;> subst e <;> decide) h
  | int b => exact go "int" _ (by decide) (.base (.int b)) (by rcases h6 with e | e | e | e | e | e <;> subst e <;> decide) h
  | str b => exact go "str" _ (by decide) (.base (.str b)) (by rcases h6 with e | e | e | e | e | e <;> subst e <;> decide) h
  | ref a =>
   obtain ⟨k, ⟨hk, ty⟩, q⟩ := h;have h3 : k = "list" \/ k = "tuple" \/ k = "dict" := by simpa using hk
   exact go k _ (by rcases h3 with e | e | e <;> subst e <;> decide) ty (by rcases h6 with e | e | e | e | e | e <;> rcases h3 with e' | e' | e' <;> subst e <;> subst e' <;> decide) q
  | _ => exact h.elim
def cIsE (K : aC) (T : String) (ta : TE) : TE := fun σ H Q => ta σ H fun x H1 => IZ K T x H1 Q
theorem e_isi {p q : Pos} {T : String} {y : Str} (hm : X.mg "isinstance" = none) (hmT : X.mg y = none) (ha : PE X a ta) (hT : T ∈ targets := by decide) (hv : bootBuiltins y = some (.type T) := by decide +kernel)
  (hg : Gl X "isinstance" := by rfl) (hgT : Gl X y := by rfl) (hn : y ≠ "__name__" := by decide) (hd : (y == ("__debug__" : Str)) = false := by decide) (hs : starEach [a, .Name y q] X.env = (false, eval a X.env) :: starEach [.Name y q] X.env := by rfl) :
  PE X (.Call (.Name "isinstance" p) [a, .Name y q] [] pos) (cIsE X.K T ta) :=
 cG (pe_callB (CS hT) hg hm boot_isinstance (pa_cons ha (pa_cons (pe_bltn (v := .ty T) hgT hmT hv rfl hn hd) pa_nil) hs) (he := hs)) fun σ H Q h => by
  show ta σ H fun x H1 => if T = T then IZ X.K T x H1 Q else False
  simp only [if_true];exact h
def cAll (K : aC) : V -> Hp -> VK -> Prop := fun x H Q => match x with
 | .ref p => ∃ bs : List Bool, SqL K H p (bs.map V.bl) /\ Q (.bl (bs.all id)) H
 | _ => False
theorem e_all {p : Pos} (hm : X.mg "all" = none) (ha : PE X a ta) (hc : X.calm = true := by rfl) (hg : Gl X "all" := by rfl) (hs : starEach [a] X.env = [(false, eval a X.env)] := by rfl) : PE X (.Call (.Name "all" p) [a] [] pos) (tCB (c1 (cAll X.K)) (tCons ta tNil)) :=
 pe_callB (jQ (cr_all hc) fun xs H Q h => by
  match xs, h with
  | [x], h =>
   cases x with
   | ref p =>
    obtain ⟨bs, h1, q⟩ := h;exact ⟨p, bs, rfl, h1, q⟩
   | _ => exact h.elim) hg hm boot_all (pa_cons ha pa_nil hs) (he := hs)
def Kt (K : aC) : V -> Hp -> VK -> Prop := fun x H Q => match x with
 | .ref p => ∃ ys, (SqL K H p ys \/ SqT K H p ys) /\ ∀ l, H l = none -> Q (.ref l) (upd H l (.lst ys))
 | _ => False
theorem Kn {p : Pos} (hm : X.mg "list" = none) (ha : PE X a ta) (hg : Gl X "list" := by rfl) (hs : starEach [a] X.env = [(false, eval a X.env)] := by rfl) : PE X (.Call (.Name "list" p) [a] [] pos) (tCB (c1 (Kt X.K)) (tCons ta tNil)) :=
 pe_callTy (jQ call_list_of fun xs H Q h => by
  match xs, h with
  | [x], h =>
   cases x with
   | ref p =>
    obtain ⟨bs, h1, q⟩ := h;exact ⟨p, bs, rfl, h1, q⟩
   | _ => exact h.elim) hg hm boot_list (pa_cons ha pa_nil hs) (he := hs)
def Kr (K : aC) : V -> Hp -> VK -> Prop := fun x H Q => match x with
 | .ref p => ∃ ys, SqL K H p ys /\ ∀ l, H l = none -> Q (.ref l) (upd H l (.tup ys))
 | _ => False
theorem Mz {p : Pos} (hm : X.mg "tuple" = none) (ha : PE X a ta) (hg : Gl X "tuple" := by rfl) (hs : starEach [a] X.env = [(false, eval a X.env)] := by rfl) : PE X (.Call (.Name "tuple" p) [a] [] pos) (tCB (c1 (Kr X.K)) (tCons ta tNil)) :=
 pe_callTy (jQ call_tuple_of fun xs H Q h => by
  match xs, h with
  | [x], h =>
   cases x with
   | ref p =>
    obtain ⟨ys, h1, q⟩ := h;exact ⟨p, ys, rfl, .inl ⟨h1, q⟩⟩
   | _ => exact h.elim) hg hm boot_tuple (pa_cons ha pa_nil hs) (he := hs)
end
def Ok (P : Program) (w : World) (K : aC) (mg : Str -> Option Value) (base : Heap) (k : Nat) (x : Str) (ps : List Str) (sp : Sp) : Prop :=
 ∃ fd, FnOk P w K mg base CX0 k (He.ga K x) fd ps sp /\ mg x = some (.ref (He.ga K x)) /\ nY K (.ref (He.ga K x)) = true /\ Binds K fd ps [] /\ ∃ oc od osl, K.lookup (He.ga K x) = some ⟨oc, od, .func fd, osl⟩
section
variable {P : Program} {w : World} {K : aC} {mg : Str -> Option Value} {base : Heap}
abbrev mJ (K : aC) (x : Str) (st : Stmt) : Prop := ∃ fd, FunD K x x (defArgs st) (defBody st) (defScope st) [] [] (He.ga K x) fd
end
section
variable {X : Cx} {o i e : Expr} {to ti te : TE} {pos tpos : Pos}
def HH : V -> V -> Hp -> VK -> Prop := fun x y H Q => match x, y with
 | .ref p, .int i => ∃ xs v, H p = some (.lst xs) /\ 0 <= i /\ xs[i.toNat]? = some v /\ Q v H
 | _, _ => False
theorem IE : PGet X HH := by
 intro pins s σ H o i ov iv Q I ro ri h;cases o with
 | ref p => cases i with
  | int k =>
   obtain ⟨xs, v, hp, h0, hx, q⟩ := h;cases ro;obtain ⟨t, rfl⟩ := ri;obtain ⟨its, r, pl, hz⟩ := I.list (.inl (.inl hp));obtain ⟨w, ew, rw'⟩ := r.get hx;have hl := r.length;have hn := line63;have hlt : k.toNat < xs.length := (aI.mp hx).1;exact wpAny_getItem_list pl.isList h0 (by omega) (by simpa using ew) ⟨v, H, I, rw', q⟩
  | _ => exact h.elim
 | _ => exact h.elim
def HG : V -> V -> V -> Hp -> (Hp -> Prop) -> Prop := fun o i v H Q => match o, i with
 | .ref p, .int k => ∃ xs, H p = some (.lst xs) /\ 0 <= k /\ k.toNat < xs.length /\ Q (upd H p (.lst (xs.set k.toNat v)))
 | _, _ => False
theorem Bo : PSet X HG := by
 intro pins s σ H o i v ov iv u Q I ro ri rv h;refine set_list pins s σ H o i v ov iv u Q I ro ri rv ?_
 cases o with
 | ref p => cases i with
  | int k =>
   obtain ⟨xs, hp, h0, hk, q⟩ := h;exact ⟨p, xs, k, k.toNat, rfl, rfl, hp, by unfold ixN; rw [if_pos h0, if_pos (by omega)], q⟩
  | _ => exact h.elim
 | _ => exact h.elim
def cIp (r : R2) : TIp := fun x y H Q => r x y H Q
theorem Gn : PIp X .Add (cIp rAddI) := fun pins s σ H x y v u Q I r1 r2 h => ip_add pins s σ H x y v u Q I r1 r2 (uR (g := fun i j => .int (i + j)) x y H Q h)
theorem M5 : PIp X .Sub (cIp JN) := fun pins s σ H x y v u Q I r1 r2 h => ip_sub pins s σ H x y v u Q I r1 r2 (uR (g := fun i j => .int (i - j)) x y H Q h)
theorem JK {op : Operator} {tip : TIp} (ho : PE X o to) (hi : PE X i ti) (he : PE X e te) (hp : PIp X op tip)
  (ha : ∀ ov iv new, augStore i ov iv new = (do holding [new, ov, iv] (setItem ov iv new); release [new, ov, iv] []; pure .next) := by intros; rfl) : PS X (.AugAssign (.Subscript o i tpos) op e pos) (tAugS to ti te HH tip HG) :=
 ps_augS ho hi IE he hp Bo ha
end
section
variable {X : Cx} {tg e : Expr} {te : TE} {pos p : Pos}
def NP : R2 := fun x y H Q => match y with
 | .non => Q (.bl (decide (x = .non))) H
 | _ => False
def JP : R2 := fun x y H Q => match y with
 | .non => Q (.bl (!decide (x = .non))) H
 | _ => False
theorem Gc : OpR X (compareOp .Is) NP := fT op_isN fun x y H Q h => by
 cases y with
 | non => exact ⟨rfl, h⟩
 | _ => exact h.elim
theorem Ad : OpR X (compareOp .IsNot) JP := fT op_notN fun x y H Q h => by
 cases y with
 | non => exact ⟨rfl, h⟩
 | _ => exact h.elim
def cPart (t : TE) : TO := fun σ H Q => t σ H fun x H1 => match x with
 | .int i => Q (some i) H1
 | _ => False
theorem JS (h : PE X e te) : PO X (some e) (cPart te) := by
 refine ⟨fun pins s σ H Q I hw => ?_⟩
 rw [evalPart_some];refine thn (h.run pins s σ H _ I hw) fun u s1 hq => ?_
 obtain ⟨x, H1, I1, r1, q1⟩ := hq;cases x with
 | int i =>
  obtain ⟨t, rfl⟩ := r1;exact ⟨some i, H1, I1, .int i t, q1⟩
 | _ => exact q1.elim
theorem NA {r u : V -> Option Int -> Option Int -> Hp -> VK -> Prop} (h : SlR X r) (i : ∀ x lo hi H Q, u x lo hi H Q -> r x lo hi H Q) : SlR X u := by
 intro pins s σ H x v vl vu lo hi sl Q I rx hs pl pu q;exact h pins s σ H x v vl vu lo hi sl Q I rx hs pl pu (i x lo hi H Q q)
def cSl (K : aC) : V -> Option Int -> Option Int -> Hp -> VK -> Prop := fun x lo hi H Q => match x with
 | .ref a => (∃ xs, SqL K H a xs /\ ∀ p, H p = none -> Q (.ref p) (upd H p (.lst (cutV xs lo hi)))) \/ (∃ xs, SqT K H a xs /\
  (HT.sIx xs.length 0 lo = 0 /\ HT.sIx xs.length xs.length hi = xs.length -> Q (.ref a) H) /\ (¬ (HT.sIx xs.length 0 lo = 0 /\ HT.sIx xs.length xs.length hi = xs.length) -> ∀ p, H p = none -> Q (.ref p) (upd H p (.tup (cutV xs lo hi)))))
 | .str z => z.length <= sizeLine /\ Q (.str (cutS z lo hi)) H
 | _ => False
theorem sl_C : SlR X (cSl X.K) := NA (SlR.or sl_list (SlR.or sl_tupA sl_str)) fun x lo hi H Q h => by
 cases x with
 | ref a =>
  rcases h with ⟨xs, h1, q⟩ | ⟨xs, h1, q⟩
  ·exact .inl ⟨a, xs, rfl, h1, q⟩
  ·exact .inr (.inl ⟨a, xs, rfl, h1, q⟩)
 | str z => exact .inr (.inr ⟨z, rfl, h⟩)
 | _ => exact h.elim
def Od (K : aC) (tl : TE) : TI := fun σ H R => tl σ H fun x H1 => match x with
 | .ref a => ((∃ xs, SqL K H1 a xs) /\ R (Itl K a) H1) \/ ((∃ xs, SqT K H1 a xs) /\ R (Itt K a) H1)
 | _ => False
theorem FQ (hl : PE X e te) : PI X tg e (Od X.K te) := by
 refine ⟨fun pins s σ H R I h => ?_⟩
 refine thn (hl.run pins s σ H _ I h) fun v s1 hq => ?_
 obtain ⟨x, H1, I1, r1, q1⟩ := hq;cases x with
 | ref a =>
  rcases q1 with ⟨h1, q⟩ | ⟨h1, q⟩
  ·cases r1
   obtain ⟨xs, hq⟩ := h1;obtain ⟨its, rv, p, hz⟩ := I1.list hq;refine wpAny_pyIter_list p.isList ?_
   refine ⟨s1.heap.objs.size, [s1.heap.objs.size], _, _, H1, rfl, I1.kept (t' := s1.toks) fun b o e => Heap.get?_push_of_some _ e, turn_list a _, ⟨_, Heap.get?_push_size _ rfl, rfl, rfl⟩, fun b hb => ?_, q⟩
   have e : b = s1.heap.objs.size := by simpa using hb
   subst e;exact I1.fpOk (bH _) (I1.hok.fresh (bH _))
  ·cases r1
   obtain ⟨xs, hq⟩ := h1;obtain ⟨its, rv, p, hz⟩ := I1.tuple hq;refine wpAny_pyIter_tuple (show s1.heap.IsTuple a its.toArray from p) ?_
   refine ⟨s1.heap.objs.size, [s1.heap.objs.size], _, _, H1, rfl, I1.kept (t' := s1.toks) fun b o e => Heap.get?_push_of_some _ e, turn_tuple a _, ⟨_, Heap.get?_push_size _ rfl, rfl, rfl⟩, fun b hb => ?_, q⟩
   have e : b = s1.heap.objs.size := by simpa using hb
   subst e;exact I1.fpOk (bH _) (I1.hok.fresh (bH _))
 | _ => exact q1.elim
def HI : V -> List V -> Hp -> VK -> Prop := fun x vs H Q => match x, vs with
 | .ref l, [y] => ∃ xs, H l = some (.lst xs) /\ xs.length < sizeLine /\ Q .non (upd H l (.lst (xs ++ [y])))
 | _, _ => False
theorem Ai : MtR X "list.append" HI := fun pins s σ H x xs v us Q I rx r h => mt_append pins s σ H x xs v us Q I rx r (by
 match x, xs, h with
 | .ref l, [y], ⟨xs, h1, h2, q⟩ => exact ⟨l, xs, y, rfl, rfl, h1, h2, q⟩)
theorem Pm {x : Str} {i : Int} (h : ∃ t, X.mg x = some (.int i t)) (hg : Gl X x := by rfl) (hd : (x == ("__debug__" : Str)) = false := by decide) : PE X (.Name x pos) (tC (.int i)) := by
 obtain ⟨t, h⟩ := h;exact pe_glob hg h ⟨t, rfl⟩ hd
def Nr (K : aC) (d : Addr) (neg : Bool) : R2 := fun x y H Q => match x, y with
 | .str z, .ref a => a = d /\ ∃ r, iR K d z = some r /\ Q (.bl (if neg then !r.isSome else r.isSome)) H
 | _, _ => False
theorem Cv {d : Addr} (D : ∃ es n, KDict X.K X.w d es n) : OpR X (compareOp .NotIn) (Nr X.K d true) := by
 obtain ⟨es, n, D⟩ := D;refine fT (op_notIn_kd D) fun x y H Q h => ?_
 match x, y, h with
 | .str z, .ref a, ⟨e, r, h1, q⟩ => exact ⟨z, r, rfl, by rw [e], h1, q⟩
def cIxKd (K : aC) (d : Addr) : R2 := fun x y H Q => match x, y with
 | .ref a, .str z => a = d /\ ∃ u v, iR K d z = some (some u) /\ RelV v u /\ Q v H
 | _, _ => False
theorem OX {d : Addr} (D : ∃ es n, KDict X.K X.w d es n) : IxR X (cIxKd X.K d) := by
 obtain ⟨es, n, D⟩ := D;refine HR ix_kdict fun x y H Q h => ?_
 match x, y, h with
 | .ref a, .str z, ⟨e, u, v, h1, h2, q⟩ => exact ⟨d, z, v, by rw [e], rfl, ⟨es, n, u, D.at_, D.lit, h1, h2⟩, q⟩
end
structure XcF (K : aC) (mg : Str -> Option Value) (x : Str) : Prop where
 exc : PySem.W.excIn K (He.ga K x) veL "ValueError.__new__" = true
 glo : mg x = some (.ref (He.ga K x))
 kp : nY K (.ref (He.ga K x)) = true
 sub : uT K (.ref (He.ga K x)) (.type "BaseException") = some true
 ty : kX K (.ref (He.ga K x)) = some (.type "type")
theorem J0 {K : aC} {mg : Str -> Option Value} {x : Str} (h : xcB K x = true) (g : mg x = some (.ref (He.ga K x))) : XcF K mg x := by
 obtain ⟨h1, h2⟩ := He.ba h;obtain ⟨h3, h4⟩ := He.ba h2;obtain ⟨h5, h6⟩ := He.ba h4;exact ⟨h1, g, h3, of_decide_eq_true h5, of_decide_eq_true h6⟩
section
variable {X : Cx} {x : Str} {p pos pos' : Pos} {W : WX} {e : Expr} {es : List Expr} {t : TA} {ps : List Str} {sp : Sp} {k j : Nat} {E : XK}
def Nz (cls : Value) (W : WX) : TS := fun _ σ H => W cls none σ H
theorem JT (F : XcF X.K X.mg x) (hg : Gl X x) (hdb : (x == ("__debug__" : Str)) = false) : PMk X (.Call (.Name x p) [] [] pos) (fun _ H Q => Q (.ref (He.ga X.K x)) none H) := by
 intro pins s σ H Q I q;refine wpAny_Call_Name_kw (ld_glob I hg F.glo ?_ hdb)
 refine GH I.kIn F.kp ?_
 show wpAny _ _ (call (.ref (He.ga X.K x)) []) _ _ _
 obtain ⟨_, _, _, _, _, _, _, _, _, _, _, _, _, _, _, _, _, c1, c2, c3, T⟩ := exc_obj I.kIn F.exc;exact wpAny_call_exc_subT PySem.F.excBase_ValueError T c1 c2 c3 (fun _ _ m => mk_of I m (raises_own F.sub F.ty) q (I.hok.gone m.new)) (nI _)
theorem Li (F : XcF X.K X.mg x) (tk : Takes X W) (hc : X.calm = true := by rfl) (hg : Gl X x := by rfl) (hdb : (x == ("__debug__" : Str)) = false := by decide) : PS X (.Raise (some (.Call (.Name x p) [] [] pos)) none pos') (Nz (.ref (He.ga X.K x)) W) :=
 ps_raise hc tk (JT F hg hdb)
end
def kW (P : Program) (w : World) (K : aC) (mg : Str -> Option Value) (base : Heap) (k : Nat) (x : Str) (ps : List Str) (sp : Sp) : Prop :=
 ∃ fd, FnOk P w K mg base (L2.CX P w) k (He.ga K x) fd ps sp /\ mg x = some (.ref (He.ga K x)) /\ nY K (.ref (He.ga K x)) = true /\ Binds K fd ps []
section
variable {P : Program} {w : World} {K : aC} {mg : Str -> Option Value} {base : Heap}
theorem JZ {x : Str} {st : Stmt} {N ps : List Str} {k : Nat} {sp : Sp} (F : mJ K x st) (g : mg x = some (.ref (He.ga K x))) (S : FnScope N ps (defScope st)) (len : ∀ vs H Q E, sp vs H Q E -> vs.length = ps.length)
  (bnd : ∀ (kV doc pm : Value) (an : Option Addr) (cdv ct : Value) (us : List Value), us.length = ps.length -> bindArgs (gP x x (defArgs st) (defBody st) (defScope st) .none kV doc pm an cdv ct) ⟨us, []⟩ = pure (ps.zip us))
  (hbody : ∀ (cdv : Value) (A : Around) (outer : List Env) (s : Shared) (H : Hp) (vs : List V) (Q : VK) (E : XK), Room k (A.deeper (envOfC x (defScope st) s.heap.objs.size (He.ga K x) cdv)) -> sp vs H Q E ->
   ∃ t, PSs (cxOf (L2.CX P w) P w K mg base N x (defScope st) (He.ga K x) cdv A outer s H E) (defBody st) t /\ t { nx := fun _ H' => Q .non H', rt := Q } (start N vs) H) : kW P w K mg base (k + 1) x ps sp := by
 obtain ⟨fd, F⟩ := F;refine ⟨fd, ?_, g, F.kp, F.bindsN bnd⟩
 obtain ⟨oc, od, dV, kV, doc, pm, an, cdv, ct, osl, e, lk, hc⟩ := F.ex;subst e;exact fn_of lk hc.1 S len fun A outer s H vs Q E hr hsp => hbody cdv A outer s H vs Q E hr hsp
end
def wNo : WX := fun _ _ _ _ => False
def Nq (K : aC) (T U : String) : V -> Hp -> (Bool -> Prop) -> Prop := fun x H Q => match x with
 | .non => Q false
 | .bl _ => Q (isTy T "bool" || isTy U "bool")
 | .int _ => Q (isTy T "int" || isTy U "int")
 | .str _ => Q (isTy T "str" || isTy U "str")
 | .ref a => ∃ n, BO K H a n /\ Q (isTy T n || isTy U n)
 | _ => False
def G9 (K : aC) (T U : String) : List V -> Hp -> VK -> Prop := fun xs H Q => match xs with
 | [x, .ref tp] => H tp = some (.tup [.ty T, .ty U]) /\ Nq K T U x H fun b => Q (.bl b) H
 | _ => False
def cIsE2 (K : aC) (T U : String) (ta : TE) : TE := tCB (G9 K T U) (tCons ta (tCons (tTup (tCons (tC (.ty T)) (tCons (tC (.ty U)) tNil))) tNil))
section
variable {X : Cx} {a : Expr} {ta : TE} {pos p : Pos}
theorem Lv {K : aC} {n T U : String} (hn : n ∈ kinds) (hT : T ∈ targets) (hU : U ∈ targets) : PySem.W.kitAny K (.type n) [.type T, .type U] = some (isTy T n || isTy U n) := by
 have h1 := Fk (K := K) hn hT;have h2 := Fk (K := K) hn hU;cases e1 : isTy T n with
 | true =>
  rw [e1] at h1;exact kitAny_cons h1 (fun z => by cases z) fun _ => rfl
 | false =>
  rw [e1] at h1;refine kitAny_cons h1 (fun _ => ?_) (fun z => by cases z)
  cases e2 : isTy U n with
  | true =>
   rw [e2] at h2;exact kitAny_cons h2 (fun z => by cases z) fun _ => rfl
  | false =>
   rw [e2] at h2;exact kitAny_cons h2 (fun _ => rfl) (fun z => by cases z)
theorem CT {T U : String} (hT : T ∈ targets) (hU : U ∈ targets) : CallR X (.builtin "isinstance") (G9 X.K T U) := jQ call_isiT fun xs H Q h => by
 match xs, h with
 | [x, .ref tp], ⟨ht, h⟩ =>
  have go : ∀ (k : String) (b : Bool), k ∈ kinds -> TyX X.K H x (.type k) -> b = (isTy T k || isTy U k) -> Q (.bl b) H -> rIsiT X.K [x, .ref tp] H Q := fun k b hk ty e q => ⟨x, tp, _, .type k, [.type T, .type U], _, rfl, ht, .cons (.ty T) (.cons (.ty U) .nil), ty, Lv hk hT hU, by rw [<- e]; exact q⟩
  cases x with
  | non =>
   refine go "NoneType" false (by decide) (.base .non) ?_ h
   have : ∀ T ∈ targets, isTy T "NoneType" = false := by decide
   rw [this T hT, this U hU];rfl
  | bl b => exact go "bool" _ (by decide) (.base (.bl b)) rfl h
  | int b => exact go "int" _ (by decide) (.base (.int b)) rfl h
  | str b => exact go "str" _ (by decide) (.base (.str b)) rfl h
  | ref a =>
   obtain ⟨k, ⟨hk, ty⟩, q⟩ := h;have h3 : k = "list" \/ k = "tuple" \/ k = "dict" := by simpa using hk
   exact go k _ (by rcases h3 with e | e | e <;> subst e <;> decide) ty rfl q
  | _ => exact h.elim
theorem Pk {q1 q2 tpos : Pos} {j : Nat} {T U : String} {y z : Str} (hm : X.mg "isinstance" = none) (hmT : X.mg y = none) (hmU : X.mg z = none) (ha : PE X a ta) (hT : T ∈ targets := by decide) (hU : U ∈ targets := by decide)
  (hv : bootBuiltins y = some (.type T) := by decide +kernel) (hw : bootBuiltins z = some (.type U) := by decide +kernel) (hg : Gl X "isinstance" := by rfl) (hgT : Gl X y := by rfl) (hgU : Gl X z := by rfl) (hn : y ≠ "__name__" := by decide) (hd : (y == ("__debug__" : Str)) = false := by decide) (hn2 : z ≠ "__name__" := by decide) (hd2 : (z == ("__debug__" : Str)) = false := by decide)
  (hs : starEach [a, .Tuple [.Name y q1, .Name z q2] j tpos] X.env = (false, eval a X.env) :: starEach [.Tuple [.Name y q1, .Name z q2] j tpos] X.env := by rfl) :
  PE X (.Call (.Name "isinstance" p) [a, .Tuple [.Name y q1, .Name z q2] j tpos] [] pos) (cIsE2 X.K T U ta) :=
 pe_callB (CT hT hU) hg hm boot_isinstance (pa_cons ha (pa_cons (pe_tup (pa_cons (pe_bltn (v := .ty T) hgT hmT hv rfl hn hd) (pa_cons (pe_bltn (v := .ty U) hgU hmU hw rfl hn2 hd2) pa_nil))) pa_nil) hs) (he := hs)
end
structure OkMX (P : Program) (w : World) (K : aC) (mg : Str -> Option Value) (base : Heap) (k : Nat) (C m : Str) (ps : List Str) (sp : Sp) : Prop where
 ex : ∃ fd, FnOk P w K mg base (L2.CX P w) k (He.ma K (He.ga K C) m) fd ps sp /\ Binds K fd ps []
 mt : Meth K (He.ga K C) m (He.ma K (He.ga K C) m)
section
variable {X : Cx} {o e : Expr} {es : List Expr} {t : TA} {ta : TE} {apos pos p : Pos} {C m x : Str} {ps : List Str} {sp : Sp} {k j : Nat} {E : XK} {W : WX}
def cMeth (C : Addr) (m : Str) (sp : Sp) (E : XK) (ta : TE) (t : TA) : TE := fun σ H Q => ta σ H fun x H1 => match x with
 | .ref a => ∃ dx fs, H1 a = some (.ins C dx fs) /\ fs.lookup m = none /\ t σ H1 fun vs H2 => sp (.ref a :: vs) H2 Q E
 | _ => False
def cFld (C : Addr) (f : Str) (ta : TE) : TE := fun σ H Q => ta σ H fun x H1 => match x with
 | .ref a => ∃ dx fs v, H1 a = some (.ins C dx fs) /\ fs.lookup f = some v /\ Q v H1
 | _ => False
theorem e_fld {C : Addr} {f : Str} (c : Cls X.K C) (n : NoAttr X.K C f) (he : PE X e ta) (hb : attributeBase e f X.env (eval e X.env) = eval e X.env := by rfl) : PE X (.Attribute e f pos) (cFld C f ta) := by
 refine ⟨fun pins s σ H Q I h => ?_⟩
 refine attr_of hb (thn (he.run pins s σ H _ I h) fun u s1 hh => ?_)
 obtain ⟨x, H1, I1, rx, hq⟩ := hh;cases x with
 | ref a =>
  obtain ⟨dx, fs, v, ea, l, q⟩ := hq;obtain rfl : u = Value.ref a := rx;exact getattr_ok I1 ea c n l fun _ _ I2 ru => ⟨v, H1, I2, ru, q⟩
 | _ => exact hq.elim
def cSetF (C : Addr) (f : Str) (ta tv : TE) : TS := fun D σ H => tv σ H fun y H1 => ta σ H1 fun x H2 => match x with
 | .ref a => ∃ dx fs, H2 a = some (.ins C dx fs) /\ fs.length < 1000 /\ D.nx σ (upd H2 a (.ins C dx (putF f y fs)))
 | _ => False
theorem O5 {C : Addr} {f : Str} {value : Expr} {tv : TE} {pos' : Pos} (c : Cls X.K C) (n : NoAttr X.K C f) (ha : PE X o ta) (hv : PE X value tv) (hs : swapsWith value (some (.Attribute o f pos')) pos.line X.env = pure false := by rfl) : PS X (.Assign [.Attribute o f pos'] value pos) (cSetF C f ta tv) := by
 refine ⟨fun pins s σ H D I h => ?_⟩
 refine plainObj_wpAny_Assign_Attribute (thn (hv.run pins s σ H _ I h) fun u s1 hh => ?_) hs
 obtain ⟨y, H1, I1, ry, q⟩ := hh;refine thn (ha.run pins s1 σ H1 _ I1 q) fun ov s2 hh => ?_
 obtain ⟨x, H2, I2, rx, hq⟩ := hh;cases x with
 | ref a =>
  obtain ⟨dx, fs, ea, l, q2⟩ := hq;obtain rfl : ov = Value.ref a := rx;exact setattr_ok I2 ea c n l ry fun _ I3 => ⟨σ, _, I3, q2⟩
 | _ => exact hq.elim
structure ClF (K : aC) (mg : Str -> Option Value) (C : Str) : Prop where
 cls : Cls K (He.ga K C)
 mak : Mk K (He.ga K C) (He.ma K (He.ga K C) "__init__")
 glo : mg C = some (.ref (He.ga K C))
def rLenO (C : Addr) (sp : Sp) (E : XK) : V -> Hp -> VK -> Prop := fun x H Q => match x with
 | .ref a => ∃ dx fs, H a = some (.ins C dx fs) /\ sp [.ref a] H (fun v H' => match v with | .int n => (0 <= n /\ n < 2 ^ 62) /\ Q (.int n) H' | _ => False) E
 | _ => False
structure IsF (K : aC) (C : Str) : Prop where
 cl : Cls K (He.ga K C)
 ha : dW K (.ref (He.ga K C)) "__class__" = some (some (.builtin "object.__class__"))
 hn : xC K (.builtin "object.__class__") "__get__" = some (some (.builtin "getset_descriptor.__get__"))
 htk : AD K (.builtin "object.__class__") = some true
 hm : Cc K (He.ga K C) (.type "object") = some true
end
abbrev HS (K : aC) (C m q : Str) (st : Stmt) : Prop := ∃ fd, FunD K m q (defArgs st) (defBody st) (defScope st) [] [] (He.ma K (He.ga K C) m) fd
section
variable {P : Program} {w : World} {K : aC} {mg : Str -> Option Value} {base : Heap}
theorem Ll {C m q : Str} {st : Stmt} {N ps : List Str} {k : Nat} {sp : Sp} (F : HS K C m q st) (g : Meth K (He.ga K C) m (He.ma K (He.ga K C) m)) (S : FnScope N ps (defScope st)) (len : ∀ vs H Q E, sp vs H Q E -> vs.length = ps.length)
  (bnd : ∀ (kV doc pm : Value) (an : Option Addr) (cdv ct : Value) (us : List Value), us.length = ps.length -> bindArgs (gP m q (defArgs st) (defBody st) (defScope st) .none kV doc pm an cdv ct) ⟨us, []⟩ = pure (ps.zip us))
  (hbody : ∀ (cdv : Value) (A : Around) (outer : List Env) (s : Shared) (H : Hp) (vs : List V) (Q : VK) (E : XK), Room k (A.deeper (envOfC q (defScope st) s.heap.objs.size (He.ma K (He.ga K C) m) cdv)) -> sp vs H Q E ->
   ∃ t, PSs (cxOf (L2.CX P w) P w K mg base N q (defScope st) (He.ma K (He.ga K C) m) cdv A outer s H E) (defBody st) t /\ t { nx := fun _ H' => Q .non H', rt := Q } (start N vs) H) : OkMX P w K mg base (k + 1) C m ps sp := by
 obtain ⟨fd, F⟩ := F;exact ⟨⟨fd, FunD.ok F S len fun cdv A outer s H vs Q E hr hsp => hbody cdv A outer s H vs Q E hr hsp, F.bindsN bnd⟩, g⟩
end
inductive D where
 | non | bl (b : Bool) | int (i : Int) | str (x : Str) | lst (xs : List D) | tup (xs : List D) | ins (C : Str) (ns : List Str) (xs : List D) | dct | opq (k : Option (Int × Int))
inductive TIt where
 | inl (d : D) | inr (n : Nat) | tup (xs : List TIt)
inductive Vl where
 | dat (d : D) | cel (n : Nat) | cels (ns : List Nat) | scr (ns : List Int) | tc (xs : List TIt)
inductive Cell where
 | dead | lst (xs : List D) | ins (C : Str) (fs : List (Str × Vl)) | dct (fs : List (Str × Vl)) | lv (xs : List Vl) | dki (ks : List Int) (xs : List Vl) | dkt (ks : List (Int × Int)) (xs : List Vl)
abbrev aL := List Cell
abbrev Ev := List (Option Vl)
structure Er where
 cls : Str
 ns : List Str := []
 xs : List D := []
inductive Res (α : Type) where
 | ok (a : α) (S : aL) | err (e : Er) (S : aL) | stuck
def Res.bind {α β : Type} (r : Res α) (k : α -> aL -> Res β) : Res β := match r with
 | .ok a S => k a S
 | .err e S => .err e S
 | .stuck => .stuck
def kU (φ : List Addr) (S : aL) (a : Addr) : Prop := ∃ (n : Nat) (c : Cell), S[n]? = some c /\ c ≠ .dead /\ φ[n]? = some a
def iW (B : Addr -> Prop) (φ : List Addr) (S : aL) (a : Addr) : Prop := B a \/ kU φ S a
mutual
/-- the tree d is at v -/
def Rep (K : aC) (Bk : Addr -> Prop) (H : Hp) : D -> V -> Prop
 | .non, v => v = .non
 | .bl b, v => v = .bl b
 | .int i, v => v = .int i
 | .str x, v => v = .str x
 | .lst ds, v => ∃ a vs, v = .ref a /\ ¬ Bk a /\ H a = some (.lst vs) /\ RepL K Bk H ds vs
 | .tup ds, v => ∃ a vs, v = .ref a /\ SqT K H a vs /\ RepL K Bk H ds vs
 | .ins C ns ds, v => ∃ a dx vs, v = .ref a /\ ¬ Bk a /\ H a = some (.ins (He.ga K C) dx (ns.zip vs)) /\ RepL K Bk H ds vs
 | .dct, v => ∃ a, v = .ref a /\ ¬ Bk a /\ H a = some (.dK [])
 | .opq none, v => ∃ a, v = .ref a
 | .opq (some k), v => ∃ a, v = .ref a /\ ¬ Bk a /\ H a = some (.tup [.int k.1, .int k.2])
def RepL (K : aC) (Bk : Addr -> Prop) (H : Hp) : List D -> List V -> Prop
 | [], vs => vs = []
 | d :: ds, vs => ∃ v ws, vs = v :: ws /\ Rep K Bk H d v /\ RepL K Bk H ds ws
end
structure Kp (Bk : Addr -> Prop) (H : Hp) (Bk' : Addr -> Prop) (H' : Hp) : Prop where
 old : ∀ b o, H b = some o -> ¬ Bk b -> H' b = some o /\ ¬ Bk' b
 tup : ∀ b u, Rd H b (.tup u) -> Rd H' b (.tup u)
theorem SqT.kp {K : aC} {H H' : Hp} {a : Addr} {vs : List V} (t : ∀ b u, Rd H b (.tup u) -> Rd H' b (.tup u)) (h : SqT K H a vs) : SqT K H' a vs := by
 rcases h with h | h
 ·exact .inl (t _ _ h)
 ·exact .inr h
mutual
theorem Rep.kp {K : aC} {Bk Bk' : Addr -> Prop} {H H' : Hp} (k' : Kp Bk H Bk' H') : ∀ (d : D) (v : V), Rep K Bk H d v -> Rep K Bk' H' d v
 | .non, v, h => h
 | .bl b, v, h => h
 | .int i, v, h => h
 | .str x, v, h => h
 | .lst ds, v, ⟨a, vs, e, nb, h, r⟩ => ⟨a, vs, e, (k'.old _ _ h nb).2, (k'.old _ _ h nb).1, RepL.kp k' ds vs r⟩
 | .tup ds, v, ⟨a, vs, e, h, r⟩ => ⟨a, vs, e, SqT.kp k'.tup h, RepL.kp k' ds vs r⟩
 | .ins C ns ds, v, ⟨a, dx, vs, e, nb, h, r⟩ => ⟨a, dx, vs, e, (k'.old _ _ h nb).2, (k'.old _ _ h nb).1, RepL.kp k' ds vs r⟩
 | .dct, v, ⟨a, e, nb, h⟩ => ⟨a, e, (k'.old _ _ h nb).2, (k'.old _ _ h nb).1⟩
 | .opq none, v, h => h
 | .opq (some k), v, ⟨a, e, nb, h⟩ => ⟨a, e, (k'.old _ _ h nb).2, (k'.old _ _ h nb).1⟩
theorem RepL.kp {K : aC} {Bk Bk' : Addr -> Prop} {H H' : Hp} (k : Kp Bk H Bk' H') : ∀ (ds : List D) (vs : List V), RepL K Bk H ds vs -> RepL K Bk' H' ds vs
 | [], vs, h => h
 | d :: ds, vs, ⟨v, ws, e, h1, h2⟩ => ⟨v, ws, e, Rep.kp k d v h1, RepL.kp k ds ws h2⟩
end
def ScrAt (K : aC) (H : Hp) (a : Addr) (vs : List V) : Prop := (∃ o, H a = some (.frz o (.lst vs))) \/ SqL K (fun _ => none) a vs
theorem ScrAt.sq {K : aC} {H : Hp} {a : Addr} {vs : List V} (h : ScrAt K H a vs) : SqL K H a vs := by
 rcases h with ⟨o, h⟩ | (h | ⟨o, h⟩) | h
 ·exact .inl (.inr ⟨o, h⟩)
 ·cases h
 ·cases h
 ·exact .inr h
theorem ScrAt.keep {K : aC} {H H' : Hp} {a : Addr} {vs : List V} (h : ScrAt K H a vs) (k : ∀ o u, H a = some (.frz o u) -> H' a = some (.frz o u)) : ScrAt K H' a vs := by
 rcases h with ⟨o, h⟩ | h
 ·exact .inl ⟨o, k _ _ h⟩
 ·exact .inr h
mutual
/-- an item of a tuple that holds cells -/
def RepI (K : aC) (Bk : Addr -> Prop) (φ : List Addr) (H : Hp) : TIt -> V -> Prop
 | .inl d, v => Rep K Bk H d v
 | .inr n, v => ∃ a, v = .ref a /\ φ[n]? = some a
 | .tup xs, v => ∃ a vs, v = .ref a /\ SqT K H a vs /\ RepIs K Bk φ H xs vs
def RepIs (K : aC) (Bk : Addr -> Prop) (φ : List Addr) (H : Hp) : List TIt -> List V -> Prop
 | [], vs => vs = []
 | x :: xs, vs => ∃ v ws, vs = v :: ws /\ RepI K Bk φ H x v /\ RepIs K Bk φ H xs ws
end
mutual
theorem RepI.kp {K : aC} {Bk Bk' : Addr -> Prop} {φ φ' : List Addr} {H H' : Hp} (k : Kp Bk H Bk' H') (hφ : ∀ (n : Nat) (a : Addr), φ[n]? = some a -> φ'[n]? = some a) : ∀ {x : TIt} {v : V}, RepI K Bk φ H x v -> RepI K Bk' φ' H' x v
 | .inl d, v, h => Rep.kp k d v h
 | .inr n, v, ⟨a, h1, h2⟩ => ⟨a, h1, hφ _ _ h2⟩
 | .tup xs, v, ⟨a, vs, h1, h2, h3⟩ => ⟨a, vs, h1, SqT.kp k.tup h2, RepIs.kp k hφ h3⟩
theorem RepIs.kp {K : aC} {Bk Bk' : Addr -> Prop} {φ φ' : List Addr} {H H' : Hp} (k : Kp Bk H Bk' H') (hφ : ∀ (n : Nat) (a : Addr), φ[n]? = some a -> φ'[n]? = some a) : ∀ {xs : List TIt} {vs : List V}, RepIs K Bk φ H xs vs -> RepIs K Bk' φ' H' xs vs
 | [], vs, h => h
 | x :: xs, vs, ⟨v, ws, e, h1, h2⟩ => ⟨v, ws, e, RepI.kp k hφ h1, RepIs.kp k hφ h2⟩
end
def RepV (K : aC) (B : Addr -> Prop) (φ : List Addr) (S : aL) (H : Hp) : Vl -> V -> Prop
 | .dat d, v => Rep K (iW B φ S) H d v
 | .cel n, v => ∃ a, v = .ref a /\ φ[n]? = some a
 | .cels ns, v => ∃ (a : Addr) (as : List Addr), v = .ref a /\ ¬ iW B φ S a /\ H a = some (.lst (as.map V.ref)) /\ ns.map (fun n => φ[n]?) = as.map some
 | .scr ns, v => ∃ a, v = .ref a /\ ScrAt K H a (ns.map V.int)
 | .tc xs, v => ∃ a vs, v = .ref a /\ SqT K H a vs /\ RepIs K (iW B φ S) φ H xs vs
def RepVs (K : aC) (B : Addr -> Prop) (φ : List Addr) (S : aL) (H : Hp) : List Vl -> List V -> Prop
 | [], vs => vs = []
 | d :: ds, vs => ∃ v ws, vs = v :: ws /\ RepV K B φ S H d v /\ RepVs K B φ S H ds ws
def RepF (K : aC) (B : Addr -> Prop) (φ : List Addr) (S : aL) (H : Hp) : List (Str × Vl) -> List (Str × V) -> Prop
 | [], vs => vs = []
 | d :: ds, vs => ∃ v ws, vs = (d.1, v) :: ws /\ RepV K B φ S H d.2 v /\ RepF K B φ S H ds ws
def kvOf (fs : List (Str × V)) : List (Key × V) := fs.map fun p => (Sum.inr p.1, p.2)
def kvI (ks : List Int) (vs : List V) : List (Key × V) := (ks.map Sum.inl).zip vs
def kvT (ks : List (Int × Int)) (vs : List V) : List (List Key × V) := (ks.map fun p => [Sum.inl p.1, Sum.inl p.2]).zip vs
def GG (K : aC) (B : Addr -> Prop) (φ : List Addr) (S : aL) (H : Hp) : Cell -> Addr -> Prop
 | .dead, _ => True
 | .lst ds, a => ∃ vs, H a = some (.lst vs) /\ RepL K (iW B φ S) H ds vs
 | .ins C fs, a => ∃ dx vfs, H a = some (.ins (He.ga K C) dx vfs) /\ RepF K B φ S H fs vfs
 | .dct fs, a => ∃ vfs, H a = some (.dK (kvOf vfs)) /\ RepF K B φ S H fs vfs
 | .lv xs, a => ∃ vs, H a = some (.lst vs) /\ RepVs K B φ S H xs vs
 | .dki ks xs, a => ∃ vs, H a = some (.dK (kvI ks vs)) /\ RepVs K B φ S H xs vs
 | .dkt ks xs, a => ∃ vs, H a = some (.dT (kvT ks vs)) /\ RepVs K B φ S H xs vs
structure GInv (K : aC) (B : Addr -> Prop) (φ : List Addr) (S : aL) (H : Hp) : Prop where
 len : φ.length = S.length
 ok : ∀ (n : Nat) (c : Cell) (a : Addr), S[n]? = some c -> φ[n]? = some a -> GG K B φ S H c a
 inj : ∀ (n m : Nat) (c c' : Cell) (a : Addr), S[n]? = some c -> c ≠ .dead -> S[m]? = some c' -> c' ≠ .dead -> φ[n]? = some a -> φ[m]? = some a -> n = m
 blk : ∀ a, kU φ S a -> ¬ B a
 btr : ∀ a, B a -> ∃ o, H a = some o
structure Ext (φ : List Addr) (S : aL) (H : Hp) (φ' : List Addr) (S' : aL) (H' : Hp) : Prop where
 old : ∀ b o, H b = some o -> ¬ kU φ S b -> H' b = some o /\ ¬ kU φ' S' b
 ids : ∀ (n : Nat) (a : Addr), φ[n]? = some a -> φ'[n]? = some a
section
variable {K : aC} {B : Addr -> Prop} {φ φ' φ₂ : List Addr} {S S' S₂ : aL} {H H' H₂ : Hp}
theorem Ext.refl : Ext φ S H φ S H := ⟨fun _ _ h n => ⟨h, n⟩, fun _ _ h => h⟩
theorem Ext.trans (a : Ext φ S H φ' S' H') (b : Ext φ' S' H' φ₂ S₂ H₂) : Ext φ S H φ₂ S₂ H₂ :=
 ⟨fun c o h n => b.old c o (a.old c o h n).1 (a.old c o h n).2, fun n x h => b.ids n x (a.ids n x h)⟩
theorem GInv.at_ (I : GInv K B φ S H) {a : Addr} (h : kU φ S a) : (∃ vs, H a = some (.lst vs)) \/ (∃ C dx fs, H a = some (.ins C dx fs)) \/ (∃ kvs, H a = some (.dK kvs)) \/ ∃ kvs, H a = some (.dT kvs) := by
 obtain ⟨n, c, h1, h2, h3⟩ := h;have q := I.ok n c a h1 h3;cases c with
 | dead => exact absurd rfl h2
 | lst ds => obtain ⟨vs, e, _⟩ := q; exact .inl ⟨vs, e⟩
 | ins C fs => obtain ⟨dx, vs, e, _⟩ := q; exact .inr (.inl ⟨_, dx, vs, e⟩)
 | dct fs => obtain ⟨vs, e, _⟩ := q; exact .inr (.inr (.inl ⟨_, e⟩))
 | lv xs => obtain ⟨vs, e, _⟩ := q; exact .inl ⟨vs, e⟩
 | dki ks xs => obtain ⟨vs, e, _⟩ := q; exact .inr (.inr (.inl ⟨_, e⟩))
 | dkt ks xs => obtain ⟨vs, e, _⟩ := q; exact .inr (.inr (.inr ⟨_, e⟩))
theorem GInv.some_ (I : GInv K B φ S H) {a : Addr} (h : kU φ S a) : H a ≠ none := by
 rcases I.at_ h with ⟨_, e⟩ | ⟨_, _, _, e⟩ | ⟨_, e⟩ | ⟨_, e⟩ <;> rw [e] <;> simp
theorem GInv.fresh (I : GInv K B φ S H) {a : Addr} (h : H a = none) : ¬ kU φ S a := fun q => I.some_ q h
theorem GInv.nblk (I : GInv K B φ S H) {a : Addr} (h : H a = none) : ¬ iW B φ S a := fun q => by
 rcases q with q | q
 ·obtain ⟨u, e⟩ := I.btr a q; rw [h] at e; cases e
 ·exact I.fresh h q
theorem GInv.ntup (I : GInv K B φ S H) {a : Addr} {xs : List V} (h : H a = some (.tup xs)) : ¬ kU φ S a := fun q => by
 rcases I.at_ q with ⟨_, e⟩ | ⟨_, _, _, e⟩ | ⟨_, e⟩ | ⟨_, e⟩ <;> rw [h] at e <;> cases e
theorem GInv.nfrz (I : GInv K B φ S H) {a : Addr} {o : Obj} {u : HO} (h : H a = some (.frz o u)) : ¬ kU φ S a := fun q => by
 rcases I.at_ q with ⟨_, e⟩ | ⟨_, _, _, e⟩ | ⟨_, e⟩ | ⟨_, e⟩ <;> rw [h] at e <;> cases e
theorem Ext.kp (e : Ext φ S H φ' S' H') (I : GInv K B φ S H) : Kp (iW B φ S) H (iW B φ' S') H' where
 old := fun b o h n => by
  obtain ⟨h1, h2⟩ := e.old b o h (fun q => n (.inr q))
  exact ⟨h1, fun q => by
   rcases q with q | q
   ·exact n (.inl q)
   ·exact h2 q⟩
 tup := fun b u h => by
  rcases h with h | ⟨o, h⟩
  ·exact .inl (e.old _ _ h (I.ntup h)).1
  ·exact .inr ⟨o, (e.old _ _ h (I.nfrz h)).1⟩
theorem A3 (e : ∀ (n : Nat) (a : Addr), φ[n]? = some a -> φ'[n]? = some a) : ∀ (ns : List Nat) (as : List Addr), ns.map (fun n => φ[n]?) = as.map some -> ns.map (fun n => φ'[n]?) = as.map some
 | [], as, h => h
 | n :: ns, [], h => by simp at h
 | n :: ns, a :: as, h => by
  simp only [aU, List.cons.injEq] at h ⊢;exact ⟨e _ _ h.1, A3 e ns as h.2⟩
theorem RepV.ext (e : Ext φ S H φ' S' H') (I : GInv K B φ S H) : ∀ {d : Vl} {v : V}, RepV K B φ S H d v -> RepV K B φ' S' H' d v
 | .dat d, v, h => Rep.kp (e.kp I) d v h
 | .cel n, v, ⟨a, h1, h2⟩ => ⟨a, h1, e.ids _ _ h2⟩
 | .cels ns, v, ⟨a, as, h1, h2, h3, h4⟩ => ⟨a, as, h1, ((e.kp I).old _ _ h3 h2).2, ((e.kp I).old _ _ h3 h2).1, A3 e.ids ns as h4⟩
 | .scr ns, v, ⟨a, h1, h2⟩ => ⟨a, h1, h2.keep fun o u h => (e.old _ _ h (I.nfrz h)).1⟩
 | .tc xs, v, ⟨a, vs, h1, h2, h3⟩ => ⟨a, vs, h1, SqT.kp (e.kp I).tup h2, h3.kp (e.kp I) e.ids⟩
theorem RepVs.ext (e : Ext φ S H φ' S' H') (I : GInv K B φ S H) : ∀ {ds : List Vl} {vs : List V}, RepVs K B φ S H ds vs -> RepVs K B φ' S' H' ds vs
 | [], vs, h => h
 | d :: ds, vs, ⟨v, ws, e1, h1, h2⟩ => ⟨v, ws, e1, h1.ext e I, RepVs.ext e I h2⟩
theorem RepF.ext (e : Ext φ S H φ' S' H') (I : GInv K B φ S H) : ∀ {ds : List (Str × Vl)} {vs : List (Str × V)}, RepF K B φ S H ds vs -> RepF K B φ' S' H' ds vs
 | [], vs, h => h
 | d :: ds, vs, ⟨v, ws, e1, h1, h2⟩ => ⟨v, ws, e1, h1.ext e I, RepF.ext e I h2⟩
theorem Ext.repL (e : Ext φ S H φ' S' H') (I : GInv K B φ S H) {ds : List D} {vs : List V} (h : RepL K (iW B φ S) H ds vs) : RepL K (iW B φ' S') H' ds vs := RepL.kp (e.kp I) ds vs h
theorem cW {B' : Addr -> Prop} (hV : ∀ {d : Vl} {v : V}, RepV K B φ S H d v -> RepV K B' φ' S' H' d v) : ∀ {ds : List Vl} {vs : List V}, RepVs K B φ S H ds vs -> RepVs K B' φ' S' H' ds vs
 | [], vs, h => h
 | d :: ds, vs, ⟨v, ws, e1, h1, h2⟩ => ⟨v, ws, e1, hV h1, cW hV h2⟩
def RepE (K : aC) (B : Addr -> Prop) (φ : List Addr) (S : aL) (H : Hp) (ρ : Ev) (σ : L2.St) : Prop :=
 ρ.length = σ.length /\ ∀ (i : Nat) (d : Vl), ρ[i]? = some (some d) -> ∃ v, σ[i]? = some (some v) /\ RepV K B φ S H d v
theorem RepE.ext {ρ : Ev} {σ : L2.St} (e : Ext φ S H φ' S' H') (I : GInv K B φ S H) (h : RepE K B φ S H ρ σ) : RepE K B φ' S' H' ρ σ :=
 ⟨h.1, fun i d q => by
  obtain ⟨v, h1, h2⟩ := h.2 i d q;exact ⟨v, h1, h2.ext e I⟩⟩
theorem RepE.set {ρ : Ev} {σ : L2.St} {d : Vl} {v : V} (h : RepE K B φ S H ρ σ) (r : RepV K B φ S H d v) (i : Nat) : RepE K B φ S H (ρ.set i (some d)) (σ.set i (some v)) := by
 refine ⟨by simp [h.1], fun j d' q => ?_⟩
 rw [bC] at q ⊢
 by_cases e : i = j
 ·subst e
  rw [if_pos rfl] at q ⊢
  by_cases hl : i < ρ.length
  ·rw [if_pos hl] at q
   cases q;rw [if_pos (by rw [<- h.1]; exact hl)]
   exact ⟨v, rfl, r⟩
  ·rw [if_neg hl] at q; cases q
 ·rw [if_neg e] at q ⊢
  exact h.2 j d' q
theorem RepE.forget {ρ : Ev} {σ : L2.St} (h : RepE K B φ S H ρ σ) (i : Nat) : RepE K B φ S H (ρ.set i none) σ := by
 refine ⟨by simp [h.1], fun j d' q => ?_⟩
 rw [bC] at q
 by_cases e : i = j
 ·subst e
  rw [if_pos rfl] at q
  by_cases hl : i < ρ.length
  ·rw [if_pos hl] at q; cases q
  ·rw [if_neg hl] at q; cases q
 ·rw [if_neg e] at q
  exact h.2 j d' q
theorem jP {x : Cell} {p a : Addr} (hl : φ.length = S.length) : kU (φ ++ [p]) (S ++ [x]) a ↔ kU φ S a \/ (x ≠ .dead /\ a = p) := by
 constructor
 ·rintro ⟨n, c, h1, h2, h3⟩
  by_cases hn : n < S.length
  ·rw [aK hn] at h1
   rw [aK (by omega)] at h3
   exact .inl ⟨n, c, h1, h2, h3⟩
  ·have e : n = S.length := by
    have := (aI.mp h1).1;simp at this;omega
   subst e;rw [cA (bH _)] at h1;rw [<- hl, cA (bH _)] at h3;simp at h1 h3;subst h1;exact .inr ⟨h2, h3.symm⟩
 ·rintro (⟨n, c, h1, h2, h3⟩ | ⟨h, rfl⟩)
  ·exact ⟨n, c, by rw [aK (aI.mp h1).1]; exact h1, h2, by rw [aK (aI.mp h3).1]; exact h3⟩
  ·exact ⟨S.length, x, by simp, h, by rw [<- hl]; simp⟩
theorem Ext.new {p : Addr} {o : HO} (I : GInv K B φ S H) (hp : H p = none) : Ext φ S H φ S (upd H p o) :=
 ⟨fun b u h n => ⟨by rw [upd_ne (ne_of_none h hp)]; exact h, n⟩, fun _ _ h => h⟩
theorem GInv.mono {o : Ext φ S H φ S H'} (I : GInv K B φ S H) (h : ∀ (n : Nat) (c : Cell) (a : Addr), S[n]? = some c -> c ≠ .dead -> φ[n]? = some a -> H' a = H a) : GInv K B φ S H' where
 len := I.len
 ok := fun n c a h1 h2 => by
  have q := I.ok n c a h1 h2;cases c with
  | dead => trivial
  | lst ds => obtain ⟨vs, e, r⟩ := q; exact ⟨vs, by rw [h n _ a h1 (by simp) h2]; exact e, o.repL I r⟩
  | ins C fs => obtain ⟨dx, vs, e, r⟩ := q; exact ⟨dx, vs, by rw [h n _ a h1 (by simp) h2]; exact e, r.ext o I⟩
  | dct fs => obtain ⟨vs, e, r⟩ := q; exact ⟨vs, by rw [h n _ a h1 (by simp) h2]; exact e, r.ext o I⟩
  | lv xs => obtain ⟨vs, e, r⟩ := q; exact ⟨vs, by rw [h n _ a h1 (by simp) h2]; exact e, r.ext o I⟩
  | dki ks xs => obtain ⟨vs, e, r⟩ := q; exact ⟨vs, by rw [h n _ a h1 (by simp) h2]; exact e, r.ext o I⟩
  | dkt ks xs => obtain ⟨vs, e, r⟩ := q; exact ⟨vs, by rw [h n _ a h1 (by simp) h2]; exact e, r.ext o I⟩
 inj := I.inj
 blk := I.blk
 btr := fun a h => by
  obtain ⟨u, e⟩ := I.btr a h;exact ⟨u, (o.old a u e fun q => I.blk a q h).1⟩
theorem GInv.new {p : Addr} {o : HO} (I : GInv K B φ S H) (hp : H p = none) : GInv K B φ S (upd H p o) :=
 GInv.mono (o := Ext.new I hp) I fun n c a h1 h2 h3 => by
  rw [upd_ne];intro e;subst e;exact I.fresh hp ⟨n, c, h1, h2, h3⟩
theorem Ext.newC {p : Addr} {o : HO} {x : Cell} (I : GInv K B φ S H) (hp : H p = none) : Ext φ S H (φ ++ [p]) (S ++ [x]) (upd H p o) where
 old := fun b u h n => by
  have hb : b ≠ p := ne_of_none h hp;exact ⟨by rw [upd_ne hb]; exact h, fun q => by
   rcases (jP I.len).mp q with q | ⟨_, q⟩
   ·exact n q
   ·exact hb q⟩
 ids := fun n a h => by rw [aK (aI.mp h).1]; exact h
theorem GInv.newC {p : Addr} {o : HO} {x : Cell} (I : GInv K B φ S H) (hp : H p = none) (hx : x ≠ .dead -> GG K B (φ ++ [p]) (S ++ [x]) (upd H p o) x p) : GInv K B (φ ++ [p]) (S ++ [x]) (upd H p o) where
 len := by simp [I.len]
 ok := fun n c a h1 h2 => by
  by_cases hn : n < S.length
  ·rw [aK hn] at h1
   rw [aK (by rw [I.len]; exact hn)] at h2
   have q := I.ok n c a h1 h2;have ex := Ext.newC (o := o) (x := x) I hp;have ha : c ≠ .dead -> upd H p o a = H a := fun hc => by
    rw [upd_ne];intro e;subst e;exact I.fresh hp ⟨n, c, h1, hc, h2⟩
   cases c with
   | dead => trivial
   | lst ds => obtain ⟨vs, e, r⟩ := q; exact ⟨vs, by rw [ha (by simp)]; exact e, ex.repL I r⟩
   | ins C fs => obtain ⟨dx, vs, e, r⟩ := q; exact ⟨dx, vs, by rw [ha (by simp)]; exact e, r.ext ex I⟩
   | dct fs => obtain ⟨vs, e, r⟩ := q; exact ⟨vs, by rw [ha (by simp)]; exact e, r.ext ex I⟩
   | lv xs => obtain ⟨vs, e, r⟩ := q; exact ⟨vs, by rw [ha (by simp)]; exact e, r.ext ex I⟩
   | dki ks xs => obtain ⟨vs, e, r⟩ := q; exact ⟨vs, by rw [ha (by simp)]; exact e, r.ext ex I⟩
   | dkt ks xs => obtain ⟨vs, e, r⟩ := q; exact ⟨vs, by rw [ha (by simp)]; exact e, r.ext ex I⟩
  ·have e : n = S.length := by
    have := (aI.mp h1).1;simp at this;omega
   subst e;rw [cA (bH _)] at h1;rw [<- I.len, cA (bH _)] at h2;simp at h1 h2;subst h1 h2;cases x with
   | dead => trivial
   | _ => exact hx (by simp)
 inj := fun n m c c' a h1 h2 h3 h4 h5 h6 => by
  have key : ∀ (n : Nat) (c : Cell), (S ++ [x])[n]? = some c -> (n < S.length /\ S[n]? = some c) \/ n = S.length := fun n c h => by
   by_cases hn : n < S.length
   ·rw [aK hn] at h; exact .inl ⟨hn, h⟩
   ·have := (aI.mp h).1
    simp at this;exact .inr (by omega)
  have kφ : ∀ n : Nat, n < S.length -> (φ ++ [p])[n]? = φ[n]? := fun n hn => aK (by rw [I.len]; exact hn)
  have kp : (φ ++ [p])[S.length]? = some p := by rw [<- I.len]; simp
  rcases key n c h1 with ⟨hn, e1⟩ | e1 <;> rcases key m c' h3 with ⟨hm, e2⟩ | e2
  ·rw [kφ n hn] at h5
   rw [kφ m hm] at h6;exact I.inj n m c c' a e1 h2 e2 h4 h5 h6
  ·subst e2
   rw [kp] at h6;cases h6;rw [kφ n hn] at h5;exact absurd ⟨n, c, e1, h2, h5⟩ (I.fresh hp)
  ·subst e1
   rw [kp] at h5;cases h5;rw [kφ m hm] at h6;exact absurd ⟨m, c', e2, h4, h6⟩ (I.fresh hp)
  ·omega
 blk := fun a h => by
  rcases (jP I.len).mp h with h | ⟨_, h⟩
  ·exact I.blk a h
  ·rw [h]; intro q; obtain ⟨u, e⟩ := I.btr p q; rw [hp] at e; cases e
 btr := fun a h => by
  obtain ⟨u, e⟩ := I.btr a h;exact ⟨u, by rw [upd_ne (ne_of_none e hp)]; exact e⟩
theorem Cb {n : Nat} {c x : Cell} {a : Addr} (h : S[n]? = some c) (hc : c ≠ .dead) (hx : x ≠ .dead) : kU φ (S.set n x) a ↔ kU φ S a := by
 constructor
 ·rintro ⟨m, c', h1, h2, h3⟩
  rw [bC] at h1
  by_cases e : n = m
  ·subst e
   exact ⟨n, c, h, hc, h3⟩
  ·rw [if_neg e] at h1
   exact ⟨m, c', h1, h2, h3⟩
 ·rintro ⟨m, c', h1, h2, h3⟩
  by_cases e : n = m
  ·subst e
   exact ⟨n, x, by rw [bC, if_pos rfl, if_pos (aI.mp h).1], hx, h3⟩
  ·exact ⟨m, c', by rw [bC, if_neg e]; exact h1, h2, h3⟩
theorem BK {n : Nat} {a : Addr} (h : kU φ (S.set n .dead) a) : kU φ S a := by
 obtain ⟨m, c', h1, h2, h3⟩ := h;rw [bC] at h1
 by_cases e : n = m
 ·rw [if_pos e] at h1
  by_cases hl : n < S.length
  ·rw [if_pos hl] at h1; cases h1; exact absurd rfl h2
  ·rw [if_neg hl] at h1; cases h1
 ·rw [if_neg e] at h1
  exact ⟨m, c', h1, h2, h3⟩
theorem Ext.put {n : Nat} {c x : Cell} {a : Addr} {o : HO} (hn : S[n]? = some c) (hc : c ≠ .dead) (ha : φ[n]? = some a) (hx : x ≠ .dead) : Ext φ S H φ (S.set n x) (upd H a o) where
 old := fun b u h nb => by
  have hb : b ≠ a := fun e => by subst e; exact nb ⟨n, c, hn, hc, ha⟩
  exact ⟨by rw [upd_ne hb]; exact h, fun q => nb ((Cb hn hc hx).mp q)⟩
 ids := fun _ _ h => h
theorem GInv.put {n : Nat} {c x : Cell} {a : Addr} {o : HO} (I : GInv K B φ S H) (hn : S[n]? = some c) (hc : c ≠ .dead) (ha : φ[n]? = some a) (hx : x ≠ .dead) (ok : GG K B φ (S.set n x) (upd H a o) x a) : GInv K B φ (S.set n x) (upd H a o) where
 len := by simp [I.len]
 ok := fun m c' b h1 h2 => by
  by_cases e : n = m
  ·subst e
   rw [bC, if_pos rfl, if_pos (aI.mp hn).1] at h1;cases h1;rw [ha] at h2;cases h2;exact ok
  ·rw [bC, if_neg e] at h1
   have q := I.ok m c' b h1 h2;have ex := Ext.put (H := H) (o := o) hn hc ha hx;have hb : c' ≠ .dead -> upd H a o b = H b := fun hc' => upd_ne fun e2 => by
    subst e2;exact e (I.inj n m c c' b hn hc h1 hc' ha h2)
   cases c' with
   | dead => trivial
   | lst ds => obtain ⟨vs, e, r⟩ := q; exact ⟨vs, by rw [hb (by simp)]; exact e, ex.repL I r⟩
   | ins C fs => obtain ⟨dx, vs, e, r⟩ := q; exact ⟨dx, vs, by rw [hb (by simp)]; exact e, r.ext ex I⟩
   | dct fs => obtain ⟨vs, e, r⟩ := q; exact ⟨vs, by rw [hb (by simp)]; exact e, r.ext ex I⟩
   | lv xs => obtain ⟨vs, e, r⟩ := q; exact ⟨vs, by rw [hb (by simp)]; exact e, r.ext ex I⟩
   | dki ks xs => obtain ⟨vs, e, r⟩ := q; exact ⟨vs, by rw [hb (by simp)]; exact e, r.ext ex I⟩
   | dkt ks xs => obtain ⟨vs, e, r⟩ := q; exact ⟨vs, by rw [hb (by simp)]; exact e, r.ext ex I⟩
 inj := fun i j d d' b h1 h2 h3 h4 h5 h6 => by
  have key : ∀ (i : Nat) (d : Cell), (S.set n x)[i]? = some d -> d ≠ .dead -> ∃ d0, S[i]? = some d0 /\ d0 ≠ .dead := fun i d h hd => by
   by_cases e : n = i
   ·subst e; exact ⟨c, hn, hc⟩
   ·rw [bC, if_neg e] at h; exact ⟨d, h, hd⟩
  obtain ⟨d0, e1, e2⟩ := key i d h1 h2;obtain ⟨d1, e3, e4⟩ := key j d' h3 h4;exact I.inj i j d0 d1 b e1 e2 e3 e4 h5 h6
 blk := fun b h => I.blk b ((Cb hn hc hx).mp h)
 btr := fun b h => by
  obtain ⟨u, e⟩ := I.btr b h;exact ⟨u, by rw [upd_ne]; exact e; intro q; subst q; exact I.blk b ⟨n, c, hn, hc, ha⟩ h⟩
theorem Ext.kill {n : Nat} : Ext φ S H φ (S.set n .dead) H := ⟨fun b o h nb => ⟨h, fun q => nb (BK q)⟩, fun _ _ h => h⟩
theorem GInv.kill {n : Nat} (I : GInv K B φ S H) : GInv K B φ (S.set n .dead) H where
 len := by simp [I.len]
 ok := fun m c' b h1 h2 => by
  by_cases e : n = m
  ·rw [bC, if_pos e] at h1
   by_cases hl : n < S.length
   ·rw [if_pos hl] at h1; cases h1; trivial
   ·rw [if_neg hl] at h1; cases h1
  ·rw [bC, if_neg e] at h1
   have q := I.ok m c' b h1 h2;have ex := Ext.kill (φ := φ) (S := S) (H := H) (n := n);cases c' with
   | dead => trivial
   | lst ds => obtain ⟨vs, e, r⟩ := q; exact ⟨vs, e, ex.repL I r⟩
   | ins C fs => obtain ⟨dx, vs, e, r⟩ := q; exact ⟨dx, vs, e, r.ext ex I⟩
   | dct fs => obtain ⟨vs, e, r⟩ := q; exact ⟨vs, e, r.ext ex I⟩
   | lv xs => obtain ⟨vs, e, r⟩ := q; exact ⟨vs, e, r.ext ex I⟩
   | dki ks xs => obtain ⟨vs, e, r⟩ := q; exact ⟨vs, e, r.ext ex I⟩
   | dkt ks xs => obtain ⟨vs, e, r⟩ := q; exact ⟨vs, e, r.ext ex I⟩
 inj := fun i j d d' b h1 h2 h3 h4 h5 h6 => by
  have key : ∀ (i : Nat) (d : Cell), (S.set n .dead)[i]? = some d -> d ≠ .dead -> S[i]? = some d := fun i d h hd => by
   rw [bC] at h
   by_cases e : n = i
   ·rw [if_pos e] at h
    by_cases hl : n < S.length
    ·rw [if_pos hl] at h; cases h; exact absurd rfl hd
    ·rw [if_neg hl] at h; cases h
   ·rw [if_neg e] at h; exact h
  exact I.inj i j d d' b (key i d h1 h2) h2 (key j d' h3 h4) h4 h5 h6
 blk := fun b h => I.blk b (BK h)
 btr := I.btr
theorem GInv.killed {n : Nat} {c : Cell} {a : Addr} (I : GInv K B φ S H) (hn : S[n]? = some c) (hc : c ≠ .dead) (ha : φ[n]? = some a) : ¬ iW B φ (S.set n .dead) a := fun q => by
 rcases q with q | ⟨m, c', h1, h2, h3⟩
 ·exact I.blk a ⟨n, c, hn, hc, ha⟩ q
 ·rw [bC] at h1
  by_cases e : n = m
  ·rw [if_pos e] at h1
   by_cases hl : n < S.length
   ·rw [if_pos hl] at h1; cases h1; exact h2 rfl
   ·rw [if_neg hl] at h1; cases h1
  ·rw [if_neg e] at h1
   exact e (I.inj n m c c' a hn hc h1 h2 ha h3)
end
abbrev FE := Ev -> aL -> Res Vl
abbrev FT := Ev -> aL -> Res Bool
abbrev FA := Ev -> aL -> Res (List Vl)
abbrev FO := Ev -> aL -> Res (Option Int)
abbrev Rl (α β : Type) := (Addr -> Prop) -> List Addr -> aL -> Hp -> α -> β -> Prop
def Pr (K : aC) (B : Addr -> Prop) (φ : List Addr) (S : aL) (H : Hp) (e : Er) (c : Value) (x : Option Addr) : Prop :=
 c = .ref (He.ga K e.cls) /\ ((e.ns = [] /\ x = none) \/ ∃ d vs, x = some d /\ H d = some (.xd (e.ns.zip vs)) /\ RepL K (iW B φ S) H e.xs vs)
section
variable {α β α' β' : Type}
def Fin (K : aC) (W : WX) (σ : L2.St) (R : Rl α β) (B : Addr -> Prop) (φ : List Addr) (S : aL) (H : Hp) (r : Res α) (Q : β -> Hp -> Prop) : Prop := match r with
 | .ok d S' => ∀ φ' v H', GInv K B φ' S' H' -> Ext φ S H φ' S' H' -> R B φ' S' H' d v -> Q v H'
 | .err e S' => ∀ φ' c x H', GInv K B φ' S' H' -> Ext φ S H φ' S' H' -> Pr K B φ' S' H' e c x -> W c x σ H'
 | .stuck => False
def rd (K : aC) (W : WX) (R : Rl α β) (m : Ev -> aL -> Res α) : L2.St -> Hp -> (β -> Hp -> Prop) -> Prop := fun σ H Q =>
 ∃ B φ S ρ, GInv K B φ S H /\ RepE K B φ S H ρ σ /\ Fin K W σ R B φ S H (m ρ S) Q
end
def RB : Rl Bool Bool := fun _ _ _ _ b c => c = b
def RO : Rl (Option Int) (Option Int) := fun _ _ _ _ b c => c = b
abbrev cL (K : aC) (W : WX) (m : FE) : TE := rd K W (RepV K) m
abbrev tO (K : aC) (W : WX) (m : FT) : TT := rd K W RB m
abbrev JM (K : aC) (W : WX) (m : FA) : TA := rd K W (RepVs K) m
abbrev rdO (K : aC) (W : WX) (m : FO) : TO := rd K W RO m
section
variable {α β α' β' : Type} {K : aC} {W : WX} {σ : L2.St} {R : Rl α β} {R' : Rl α' β'} {B : Addr -> Prop} {φ φ' : List Addr} {S S' : aL} {H H' : Hp}
theorem Fin.ext {r : Res α} {Q : β -> Hp -> Prop} (f : Fin K W σ R B φ S H r Q) (e : Ext φ S H φ' S' H') : Fin K W σ R B φ' S' H' r Q := by
 cases r with
 | ok d S1 => exact fun φ1 v H1 I1 X r => f φ1 v H1 I1 (e.trans X) r
 | err x S1 => exact fun φ1 c x H1 I1 X r => f φ1 c x H1 I1 (e.trans X) r
 | stuck => exact f
theorem bT {m : Ev -> aL -> Res α} {k : α -> Ev -> aL -> Res α'} {Q : β' -> Hp -> Prop} {Q1 : β -> Hp -> Prop} (h : rd K W R' (fun ρ S => (m ρ S).bind fun a S' => k a ρ S') σ H Q)
  (hk : ∀ B φ S ρ d v H1, GInv K B φ S H1 -> RepE K B φ S H1 ρ σ -> R B φ S H1 d v -> Fin K W σ R' B φ S H1 (k d ρ S) Q -> Q1 v H1) : rd K W R m σ H Q1 := by
 obtain ⟨B, φ, S, ρ, I, E, f⟩ := h;refine ⟨B, φ, S, ρ, I, E, ?_⟩
 dsimp only at f;cases e : m ρ S with
 | stuck => rw [e] at f; exact f
 | err x S' => rw [e] at f; exact f
 | ok d S' =>
  rw [e] at f;exact fun φ' v H' I' X r => hk B φ' S' ρ d v H' I' (E.ext X I) r (Fin.ext f X)
theorem gF {ρ : Ev} {m : Ev -> aL -> Res α} {k : α -> aL -> Res α'} {Q : β' -> Hp -> Prop} {Q1 : β -> Hp -> Prop} (I : GInv K B φ S H) (E : RepE K B φ S H ρ σ) (f : Fin K W σ R' B φ S H ((m ρ S).bind k) Q)
  (hk : ∀ φ' S' d v H1, GInv K B φ' S' H1 -> Ext φ S H φ' S' H1 -> RepE K B φ' S' H1 ρ σ -> R B φ' S' H1 d v -> Fin K W σ R' B φ' S' H1 (k d S') Q -> Q1 v H1) : rd K W R m σ H Q1 := by
 refine ⟨B, φ, S, ρ, I, E, ?_⟩
 cases e : m ρ S with
 | stuck => rw [e] at f; exact f
 | err x S' => rw [e] at f; exact f
 | ok d S' =>
  rw [e] at f;exact fun φ' v H' I' X r => hk φ' S' d v H' I' X (E.ext X I) r (Fin.ext f X)
theorem Fin.now {d : α} {v : β} {Q : β -> Hp -> Prop} (f : Fin K W σ R B φ S H (.ok d S) Q) (I : GInv K B φ S H) (r : R B φ S H d v) : Q v H := f φ v H I Ext.refl r
end
def newL (c : Bool) (ds : List D) (S : aL) : Res Vl := if c then .ok (.cel S.length) (S ++ [.lst ds]) else .ok (.dat (.lst ds)) S
section
variable {K : aC} {W : WX} {σ : L2.St} {B : Addr -> Prop} {φ φ' : List Addr} {S S' : aL} {H H' : Hp} {Q : VK}
theorem jN {l : List Addr} {p : Addr} : (l ++ [p])[l.length]? = some p := by simp
theorem Fin.newT {ds : List D} {vs : List V} {p : Addr} (f : Fin K W σ (RepV K) B φ S H (.ok (.dat (.tup ds)) S) Q) (I : GInv K B φ S H) (r : RepL K (iW B φ S) H ds vs) (hp : H p = none) : Q (.ref p) (upd H p (.tup vs)) :=
 f φ _ _ (I.new hp) (Ext.new I hp) ⟨p, vs, rfl, .inl (.inl upd_same), (Ext.new I hp).repL I r⟩
theorem Fin.newL {c : Bool} {ds : List D} {vs : List V} {p : Addr} (f : Fin K W σ (RepV K) B φ S H (newL c ds S) Q) (I : GInv K B φ S H) (r : RepL K (iW B φ S) H ds vs) (hp : H p = none) : Q (.ref p) (upd H p (.lst vs)) := by
 unfold PH.newL at f;cases c with
 | false =>
  refine f φ _ _ (I.new hp) (Ext.new I hp) ⟨p, vs, rfl, I.nblk hp, upd_same, (Ext.new I hp).repL I r⟩
 | true =>
  have X := Ext.newC (o := .lst vs) (x := .lst ds) I hp;refine f (φ ++ [p]) _ _ (I.newC hp fun _ => ⟨vs, upd_same, X.repL I r⟩) X ⟨p, rfl, ?_⟩
  rw [<- I.len];exact jN
end
instance instIntMulOk (a b : Int) : Decidable (IntMulOk a b) := by unfold IntMulOk; infer_instance
instance instCDiv (a b : Int) : Decidable (CDiv a b) := by unfold CDiv; infer_instance
instance instCPow (a b : Int) : Decidable (CPow a b) := by unfold CPow; infer_instance
def lk : Ev -> Nat -> Option Vl
 | [], _ => none
 | x :: _, 0 => x
 | _ :: r, n + 1 => lk r n
theorem Ji : ∀ {ρ : Ev} {i : Nat} {d : Vl}, lk ρ i = some d -> ρ[i]? = some (some d)
 | [], _, _, h => by cases h
 | x :: _, 0, d, h => by
  have e : x = some d := h;rw [e]; rfl
 | _ :: r, n + 1, d, h => by
  have e := Ji (ρ := r) (i := n) (d := d) h
  simpa using e
def aD (i : Nat) : FE := fun ρ S => match lk ρ i with
 | some d => .ok d S
 | none => .stuck
def mC (d : D) : FE := fun _ S => .ok (.dat d) S
def aV (f : Vl -> Vl -> aL -> Res Vl) (a b : FE) : FE := fun ρ S => (a ρ S).bind fun x S1 => (b ρ S1).bind fun y S2 => f x y S2
def m1 (f : Vl -> aL -> Res Vl) (a : FE) : FE := fun ρ S => (a ρ S).bind fun x S1 => f x S1
def eW (K : aC) (r : R2) (f : Vl -> Vl -> aL -> Res Vl) : Prop := ∀ {W : WX} {σ : L2.St} {B : Addr -> Prop} {φ : List Addr} {S : aL} {H : Hp} {x y : V} {d e : Vl} {Q : VK}, GInv K B φ S H -> RepV K B φ S H d x -> RepV K B φ S H e y -> Fin K W σ (RepV K) B φ S H (f d e S) Q -> r x y H Q
def Bl (K : aC) (r : V -> Hp -> VK -> Prop) (f : Vl -> aL -> Res Vl) : Prop := ∀ {W : WX} {σ : L2.St} {B : Addr -> Prop} {φ : List Addr} {S : aL} {H : Hp} {x : V} {d : Vl} {Q : VK}, GInv K B φ S H -> RepV K B φ S H d x -> Fin K W σ (RepV K) B φ S H (f d S) Q -> r x H Q
section
variable {X : Cx} {W : WX} {e a b c : Expr} {pos p : Pos} {x : Str}
theorem fv (i : Nat) (hN : X.N[i]? = some x := by rfl) (hv : Vis X.env.scope x := by first | exact tT rfl | exact oC (tT rfl) | exact oC (oC rfl)) (hd : (x == ("__debug__" : Str)) = false := by decide)
  (hcd : (x == ("__classdict__" : Str)) = false := by decide) : PE X (.Name x pos) (cL X.K W (aD i)) := cG (pe_var hN hv hd hcd) fun σ H Q h => by
 obtain ⟨B, φ, S, ρ, I, E, f⟩ := h;unfold aD at f;cases q : lk ρ i with
 | none => rw [q] at f; exact f.elim
 | some d =>
  rw [q] at f;obtain ⟨v, h1, h2⟩ := E.2 i d (Ji q);exact ⟨v, h1, f.now I h2⟩
theorem Kb {v : V} {d : D} (h : PE X e (tC v)) (r : ∀ Bk H, Rep X.K Bk H d v) : PE X e (cL X.K W (mC d)) := cG h fun σ H Q h => by
 obtain ⟨B, φ, S, ρ, I, E, f⟩ := h;exact Fin.now (v := v) f I (r _ _)
theorem xH {K : aC} {r : R2} {f : Vl -> Vl -> aL -> Res Vl} {ma mb : FE} {σ : L2.St} {H : Hp} {Q : VK} (s : eW K r f) (h : cL K W (aV f ma mb) σ H Q) : tOp r (cL K W ma) (cL K W mb) σ H Q :=
 bT (k := fun x ρ S => (mb ρ S).bind fun y S2 => f x y S2) h fun B φ S ρ d v H1 I E r1 f' => gF I E f' fun φ' S' e w H2 I2 X2 E2 r2 f2 => s I2 (r1.ext X2 I) r2 f2
theorem cE {op : Operator} {r : R2} {f : Vl -> Vl -> aL -> Res Vl} {ma mb : FE} (o : OpR X (binaryOp op) r) (s : eW X.K r f) (ha : PE X a (cL X.K W ma)) (hb : PE X b (cL X.K W mb)) : PE X (.BinOp a op b pos) (cL X.K W (aV f ma mb)) :=
 cG (pe_op o ha hb) fun σ H Q h => xH s h
theorem lD {op : CmpOp} {r : R2} {f : Vl -> Vl -> aL -> Res Vl} {ma mb : FE} (o : OpR X (compareOp op) r) (s : eW X.K r f) (ha : PE X a (cL X.K W ma)) (hb : PE X b (cL X.K W mb)) (hm : behindInMarks op b = false := by rfl) : PE X (.Compare a [op] [b] pos) (cL X.K W (aV f ma mb)) :=
 cG (e_cmp o ha hb hm) fun σ H Q h => xH s h
theorem JE {K : aC} {r : V -> Hp -> VK -> Prop} {f : Vl -> aL -> Res Vl} {ma : FE} {σ : L2.St} {H : Hp} {Q : VK} (s : Bl K r f) (h : cL K W (m1 f ma) σ H Q) : cL K W ma σ H fun x H1 => r x H1 Q :=
 bT (k := fun x ρ S => f x S) h fun B φ S ρ d v H1 I E r1 f' => s I r1 f'
def oB : Vl -> Vl -> aL -> Res Vl
 | .dat (.int i), .dat (.int j), S => .ok (.dat (.int (i - j))) S
 | _, _, _ => .stuck
def xX : Vl -> Vl -> aL -> Res Vl
 | .dat (.int i), .dat (.int j), S => if IntMulOk i j then .ok (.dat (.int (i * j))) S else .stuck
 | _, _, _ => .stuck
def tQ : Vl -> Vl -> aL -> Res Vl
 | .dat (.int i), .dat (.int j), S => if 0 < j then .ok (.dat (.int (i % j))) S else .stuck
 | _, _, _ => .stuck
def rC : Vl -> Vl -> aL -> Res Vl
 | .dat (.int i), .dat (.int j), S => if CDiv i j then .ok (.dat (.int (i / j))) S else .stuck
 | _, _, _ => .stuck
def Mr : Vl -> Vl -> aL -> Res Vl
 | .dat (.int i), .dat (.int j), S => if CPow i j then .ok (.dat (.int (i ^ j.toNat))) S else .stuck
 | _, _, _ => .stuck
def BV : Vl -> Vl -> aL -> Res Vl
 | .dat (.int i), .dat (.int j), S => .ok (.dat (.bl (decide (i < j)))) S
 | _, _, _ => .stuck
def HE : Vl -> Vl -> aL -> Res Vl
 | .dat (.int i), .dat (.int j), S => .ok (.dat (.bl (decide (i <= j)))) S
 | _, _, _ => .stuck
def Eg : Vl -> Vl -> aL -> Res Vl
 | .dat (.int i), .dat (.int j), S => .ok (.dat (.bl (decide (j < i)))) S
 | _, _, _ => .stuck
def fGe : Vl -> Vl -> aL -> Res Vl
 | .dat (.int i), .dat (.int j), S => .ok (.dat (.bl (decide (j <= i)))) S
 | _, _, _ => .stuck
variable {K : aC}
theorem mT : eW K JN oB := fun {W σ B φ S H x y d e Q} I r1 r2 f => by
 unfold oB at f;split at f
 ·cases r1; cases r2; exact Fin.now f I rfl
 ·exact f.elim
theorem tV : eW K NM xX := fun {W σ B φ S H x y d e Q} I r1 r2 f => by
 unfold xX at f;split at f
 ·cases r1; cases r2
  split at f
  ·rename_i h; exact ⟨h, Fin.now f I rfl⟩
  ·exact f.elim
 ·exact f.elim
theorem pS : eW K NO tQ := fun {W σ B φ S H x y d e Q} I r1 r2 f => by
 unfold tQ at f;split at f
 ·cases r1; cases r2
  split at f
  ·rename_i h; exact ⟨h, Fin.now f I rfl⟩
  ·exact f.elim
 ·exact f.elim
theorem AS : eW K JQ rC := fun {W σ B φ S H x y d e Q} I r1 r2 f => by
 unfold rC at f;split at f
 ·cases r1; cases r2
  split at f
  ·rename_i h; exact ⟨h, Fin.now f I rfl⟩
  ·exact f.elim
 ·exact f.elim
theorem s_pow : eW K NL Mr := fun {W σ B φ S H x y d e Q} I r1 r2 f => by
 unfold Mr at f;split at f
 ·cases r1; cases r2
  split at f
  ·rename_i h; exact ⟨h, Fin.now f I rfl⟩
  ·exact f.elim
 ·exact f.elim
theorem rV : eW K rLtC BV := fun {W σ B φ S H x y d e Q} I r1 r2 f => by
 unfold BV at f;split at f
 ·cases r1; cases r2; exact Fin.now f I rfl
 ·exact f.elim
theorem AQ : eW K rLeC HE := fun {W σ B φ S H x y d e Q} I r1 r2 f => by
 unfold HE at f;split at f
 ·cases r1; cases r2; exact Fin.now f I rfl
 ·exact f.elim
theorem zR : eW K rGtC Eg := fun {W σ B φ S H x y d e Q} I r1 r2 f => by
 unfold Eg at f;split at f
 ·cases r1; cases r2; exact Fin.now f I rfl
 ·exact f.elim
theorem O9 : eW K rGeC fGe := fun {W σ B φ S H x y d e Q} I r1 r2 f => by
 unfold fGe at f;split at f
 ·cases r1; cases r2; exact Fin.now f I rfl
 ·exact f.elim
def sM : Vl -> aL -> Res Vl
 | .dat (.int i), S => .ok (.dat (.int (-i))) S
 | _, _ => .stuck
theorem tX {ma : FE} (ha : PE X a (cL X.K W ma)) : PE X (.UnaryOp .USub a pos) (cL X.K W (m1 sM ma)) :=
 cG (pe_un LD ha) fun σ H Q h => JE (r := cNeg) (fun {W σ B φ S H x d Q} I r f => by
  unfold sM at f;split at f
  ·cases r; exact Fin.now f I rfl
  ·exact f.elim) h
theorem RepL.len {Bk : Addr -> Prop} {H : Hp} : ∀ {ds : List D} {vs : List V}, RepL K Bk H ds vs -> vs.length = ds.length
 | [], vs, h => by cases h; rfl
 | d :: ds, vs, ⟨v, ws, e, _, h2⟩ => by subst e; simp [RepL.len h2]
theorem RepL.get {Bk : Addr -> Prop} {H : Hp} : ∀ {ds : List D} {vs : List V} {i : Nat} {d : D}, RepL K Bk H ds vs -> ds[i]? = some d -> ∃ v, vs[i]? = some v /\ Rep K Bk H d v
 | [], vs, i, d, h, q => by simp at q
 | d :: ds, vs, 0, d', ⟨v, ws, e, h1, h2⟩, q => by simp at q; subst q e; exact ⟨v, rfl, h1⟩
 | d :: ds, vs, i + 1, d', ⟨v, ws, e, h1, h2⟩, q => by
  subst e;obtain ⟨v', h3, h4⟩ := RepL.get (i := i) (d := d') h2 (by simpa using q)
  exact ⟨v', by simpa using h3, h4⟩
theorem RepL.append {Bk : Addr -> Prop} {H : Hp} : ∀ {ds es : List D} {vs ws : List V}, RepL K Bk H ds vs -> RepL K Bk H es ws -> RepL K Bk H (ds ++ es) (vs ++ ws)
 | [], es, vs, ws, h, h' => by cases h; exact h'
 | d :: ds, es, vs, ws, ⟨v, us, e, h1, h2⟩, h' => by subst e; exact ⟨v, us ++ ws, rfl, h1, RepL.append h2 h'⟩
theorem RepL.take {Bk : Addr -> Prop} {H : Hp} : ∀ {ds : List D} {vs : List V} (n : Nat), RepL K Bk H ds vs -> RepL K Bk H (ds.take n) (vs.take n)
 | ds, vs, 0, h => by simp [RepL]
 | [], vs, n + 1, h => by cases h; rfl
 | d :: ds, vs, n + 1, ⟨v, us, e, h1, h2⟩ => by subst e; exact ⟨v, us.take n, rfl, h1, RepL.take n h2⟩
theorem RepL.drop {Bk : Addr -> Prop} {H : Hp} : ∀ {ds : List D} {vs : List V} (n : Nat), RepL K Bk H ds vs -> RepL K Bk H (ds.drop n) (vs.drop n)
 | ds, vs, 0, h => h
 | [], vs, n + 1, h => by cases h; rfl
 | d :: ds, vs, n + 1, ⟨v, us, e, h1, h2⟩ => by subst e; exact RepL.drop n h2
theorem RepL.set {Bk : Addr -> Prop} {H : Hp} {d : D} {v : V} (r : Rep K Bk H d v) : ∀ {ds : List D} {vs : List V} (n : Nat), RepL K Bk H ds vs -> RepL K Bk H (ds.set n d) (vs.set n v)
 | [], vs, n, h => by cases h; rfl
 | _ :: ds, vs, 0, ⟨_, us, e, h1, h2⟩ => by subst e; exact ⟨v, us, rfl, r, h2⟩
 | d' :: ds, vs, n + 1, ⟨v', us, e, h1, h2⟩ => by subst e; exact ⟨v', us.set n v, rfl, h1, RepL.set r n h2⟩
theorem RepL.snoc {Bk : Addr -> Prop} {H : Hp} {ds : List D} {vs : List V} {d : D} {v : V} (h : RepL K Bk H ds vs) (r : Rep K Bk H d v) : RepL K Bk H (ds ++ [d]) (vs ++ [v]) := h.append ⟨v, [], rfl, r, rfl⟩
theorem RepL.atI {Bk : Addr -> Prop} {H : Hp} {ds : List D} {vs : List V} {i : Int} {d : D} (h : RepL K Bk H ds vs) (q : L2.atI ds i = some d) : ∃ v, L2.atI vs i = some v /\ Rep K Bk H d v := by
 unfold L2.atI at q ⊢;rw [h.len];cases e : ixN ds.length i with
 | none => rw [e] at q; cases q
 | some j =>
  rw [e] at q;exact h.get (i := j) q
theorem RepVs.len {B : Addr -> Prop} {φ : List Addr} {S : aL} {H : Hp} : ∀ {ds : List Vl} {vs : List V}, RepVs K B φ S H ds vs -> vs.length = ds.length
 | [], vs, h => by cases h; rfl
 | d :: ds, vs, ⟨v, ws, e, _, h2⟩ => by subst e; simp [RepVs.len h2]
def tS : List Vl -> Option (List D)
 | [] => some []
 | .dat d :: r => match tS r with
  | some ds => some (d :: ds)
  | none => none
 | _ :: _ => none
theorem tL {B : Addr -> Prop} {φ : List Addr} {S : aL} {H : Hp} : ∀ {xs : List Vl} {vs : List V} {ds : List D}, tS xs = some ds -> RepVs K B φ S H xs vs -> RepL K (iW B φ S) H ds vs
 | [], vs, ds, h, r => by cases h; exact r
 | .dat d :: xs, vs, ds, h, ⟨v, ws, e, h1, h2⟩ => by
  unfold tS at h;cases q : tS xs with
  | none => rw [q] at h; cases h
  | some es => rw [q] at h; cases h; exact ⟨v, ws, e, h1, tL q h2⟩
 | .cel _ :: xs, vs, ds, h, _ => by cases h
 | .cels _ :: xs, vs, ds, h, _ => by cases h
 | .scr _ :: xs, vs, ds, h, _ => by cases h
 | .tc _ :: xs, vs, ds, h, _ => by cases h
def lA (S : aL) : Vl -> Option (List D)
 | .dat (.lst xs) => some xs
 | .cel n => match S[n]? with
  | some (.lst xs) => some xs
  | _ => none
 | _ => none
theorem jT {B : Addr -> Prop} {φ : List Addr} {S : aL} {H : Hp} {d : Vl} {v : V} {xs : List D} (I : GInv K B φ S H) (h : lA S d = some xs) (r : RepV K B φ S H d v) : ∃ a vs, v = .ref a /\ H a = some (.lst vs) /\ RepL K (iW B φ S) H xs vs := by
 unfold lA at h;split at h
 ·cases h
  obtain ⟨a, vs, e, _, h1, h2⟩ := r;exact ⟨a, vs, e, h1, h2⟩
 ·rename_i n
  obtain ⟨a, e, h1⟩ := r;split at h
  ·rename_i ys q
   cases h;obtain ⟨vs, h2, h3⟩ := I.ok n _ a q h1;exact ⟨a, vs, e, h2, h3⟩
  ·cases h
 ·cases h
end
section
variable {X : Cx} {W : WX} {e a b c : Expr} {es rest : List Expr} {pos p : Pos} {x : Str} {K : aC} {ma mb mc : FE} {mt mu : FT} {mas : FA} {B : Addr -> Prop} {φ : List Addr} {S : aL} {H : Hp} {σ : L2.St} {Q : VK}
def dJ (cl : Bool) (x y : Vl) (S : aL) : Res Vl := match x, y with
 | .dat (.int i), .dat (.int j) => .ok (.dat (.int (i + j))) S
 | .dat (.str a), .dat (.str b) => if a.length + b.length <= sizeLine then .ok (.dat (.str (a ++ b))) S else .stuck
 | .dat (.tup xs), .dat (.tup ys) => if xs.length + ys.length <= sizeLine then .ok (.dat (.tup (xs ++ ys))) S else .stuck
 | x, y => match lA S x, lA S y with
  | some xs, some ys => if xs.length + ys.length <= sizeLine then newL cl (xs ++ ys) S else .stuck
  | _, _ => .stuck
theorem dP {cl : Bool} : eW K (N6 K) (dJ cl) := fun {W σ B φ S H x y d e Q} I r1 r2 f => by
 unfold dJ at f;split at f
 ·cases r1; cases r2; exact Fin.now f I rfl
 ·cases r1; cases r2
  split at f
  ·rename_i h; exact ⟨h, Fin.now f I rfl⟩
  ·exact f.elim
 ·rename_i xs ys
  obtain ⟨a, vs, rfl, h1, l1⟩ := r1;obtain ⟨b, ws, rfl, h2, l2⟩ := r2;split at f
  ·rename_i h
   refine oC ⟨a, b, vs, ws, rfl, rfl, h1, h2, by rw [l1.len, l2.len]; exact h, fun e => ?_, fun e1 e2 => ?_, fun _ _ p hp => Fin.newT f I (l1.append l2) hp⟩
   ·have l := l1.append l2
    rw [e, tM] at l;exact Fin.now f I ⟨b, ws, rfl, h2, l⟩
   ·have l := l1.append l2
    rw [e2, hG] at l;exact Fin.now f I ⟨a, vs, rfl, h1, l⟩
  ·exact f.elim
 ·split at f
  ·rename_i xs ys q1 q2
   obtain ⟨a, vs, rfl, h1, l1⟩ := jT I q1 r1;obtain ⟨b, ws, rfl, h2, l2⟩ := jT I q2 r2;split at f
   ·rename_i h
    exact tT ⟨a, b, vs, ws, rfl, rfl, h1, h2, by rw [l1.len, l2.len]; exact h, fun p hp => Fin.newL f I (l1.append l2) hp⟩
   ·exact f.elim
  ·exact f.elim
def cM (x y : Vl) (S : aL) : Res Vl := match x, y with
 | .dat (.tup xs), .dat (.int i) => match atI xs i with
  | some d => .ok (.dat d) S
  | none => .stuck
 | .dat (.str z), .dat (.int i) => if z.length <= sizeLine then (match atI z.cps.toList i with
  | some c => .ok (.dat (.str ⟨#[c]⟩)) S
  | none => .stuck) else .stuck
 | .cels ns, .dat (.int i) => match atI ns i with
  | some n => .ok (.cel n) S
  | none => .stuck
 | x, .dat (.int i) => match lA S x with
  | some xs => (match atI xs i with
   | some d => .ok (.dat d) S
   | none => .stuck)
  | none => .stuck
 | _, _ => .stuck
theorem DR {α β : Type} {f : α -> β} {xs : List α} {i : Int} : atI (xs.map f) i = (atI xs i).map f := by
 unfold atI;rw [bN];cases ixN xs.length i with
 | none => rfl
 | some j => simp
theorem s_ix : eW K (cIx K) cM := fun {W σ B φ S H x y d e Q} I r1 r2 f => by
 unfold cM at f;split at f
 ·cases r2
  obtain ⟨a, vs, rfl, h1, l1⟩ := r1;split at f
  ·rename_i q
   obtain ⟨v, h2, h3⟩ := l1.atI q;exact ⟨vs, v, .inr h1, h2, Fin.now f I h3⟩
  ·exact f.elim
 ·cases r1; cases r2
  split at f
  ·rename_i h
   split at f
   ·rename_i c q
    exact ⟨h, c, q, Fin.now f I rfl⟩
   ·exact f.elim
  ·exact f.elim
 ·rename_i ns i
  cases r2;obtain ⟨a, as, rfl, h1, h2, h3⟩ := r1;split at f
  ·rename_i n q
   have q2 : atI (ns.map fun n => φ[n]?) i = some φ[n]? := by rw [DR, q]; rfl
   rw [h3, DR] at q2;cases q3 : atI as i with
   | none => rw [q3] at q2; cases q2
   | some b =>
    rw [q3] at q2;refine ⟨as.map V.ref, .ref b, .inl (SqL.of h2), by rw [DR, q3]; rfl, Fin.now f I ⟨b, rfl, ?_⟩⟩
    simpa using q2.symm
  ·exact f.elim
 ·cases r2
  split at f
  ·rename_i xs q1
   obtain ⟨a, vs, rfl, h1, l1⟩ := jT I q1 r1;split at f
   ·rename_i q
    obtain ⟨v, h2, h3⟩ := l1.atI q;exact ⟨vs, v, .inl (SqL.of h1), h2, Fin.now f I h3⟩
   ·exact f.elim
  ·exact f.elim
 ·exact f.elim
theorem bR (ha : PE X a (cL X.K W ma)) (hb : PE X b (cL X.K W mb)) (hs : PlainIx b := by intro _ _; rfl) : PE X (.Subscript a b pos) (cL X.K W (aV cM ma mb)) := cG (Pj ha hb hs) fun σ H Q h => xH s_ix h
mutual
def D.py : D -> Option PyData
 | .non => some .none
 | .bl b => some (.bool b)
 | .int i => some (.int i)
 | .str x => some (.str x)
 | .lst xs => match D.pys xs with
  | some ys => some (.list ys)
  | none => none
 | .tup xs => match D.pys xs with
  | some ys => some (.tuple ys)
  | none => none
 | .ins _ _ _ => none
 | .dct => none
 | .opq _ => none
def D.pys : List D -> Option (List PyData)
 | [] => some []
 | d :: ds => match D.py d, D.pys ds with
  | some x, some xs => some (x :: xs)
  | _, _ => none
end
mutual
theorem Rep.dp {Bk : Addr -> Prop} {H : Hp} : ∀ (d : D) (v : V) (p : PyData), d.py = some p -> Rep K Bk H d v -> Dp K H v p
 | .non, v, p, h, r => by cases h; cases r; exact .non
 | .bl b, v, p, h, r => by cases h; cases r; exact .bl b
 | .int b, v, p, h, r => by cases h; cases r; exact .int b
 | .str b, v, p, h, r => by cases h; cases r; exact .str b
 | .lst xs, v, p, h, ⟨a, vs, e, _, h1, h2⟩ => by
  subst e;unfold D.py at h;cases q : D.pys xs with
  | none => rw [q] at h; cases h
  | some ys => rw [q] at h; cases h; exact .lst (SqL.of h1) (RepL.dp xs vs ys q h2)
 | .tup xs, v, p, h, ⟨a, vs, e, h1, h2⟩ => by
  subst e;unfold D.py at h;cases q : D.pys xs with
  | none => rw [q] at h; cases h
  | some ys => rw [q] at h; cases h; exact .tup h1 (RepL.dp xs vs ys q h2)
 | .ins _ _ _, v, p, h, r => by cases h
 | .dct, v, p, h, r => by cases h
 | .opq _, v, p, h, r => by cases h
theorem RepL.dp {Bk : Addr -> Prop} {H : Hp} : ∀ (ds : List D) (vs : List V) (ps : List PyData), D.pys ds = some ps -> RepL K Bk H ds vs -> DpAll K H vs ps
 | [], vs, ps, h, r => by cases h; cases r; exact .nil
 | d :: ds, vs, ps, h, ⟨v, ws, e, h1, h2⟩ => by
  subst e;unfold D.pys at h;cases q1 : D.py d with
  | none => rw [q1] at h; cases h
  | some x =>
   cases q2 : D.pys ds with
   | none => rw [q1, q2] at h; cases h
   | some xs => rw [q1, q2] at h; cases h; exact .cons (Rep.dp d v x q1 h1) (RepL.dp ds ws xs q2 h2)
end
def GZ (S : aL) : Vl -> Option PyData
 | .dat d => d.py
 | .cel n => match S[n]? with
  | some (.lst xs) => D.py (.lst xs)
  | _ => none
 | _ => none
def Hs (S : aL) : List Vl -> Option (List PyData)
 | [] => some []
 | x :: r => match GZ S x, Hs S r with
  | some p, some ps => some (p :: ps)
  | _, _ => none
def Bb (S : aL) : Vl -> Option PyData
 | .dat d => d.py
 | .cel n => match S[n]? with
  | some (.lst xs) => D.py (.lst xs)
  | some (.lv xs) => (match Hs S xs with
   | some ps => some (.list ps)
   | none => none)
  | _ => none
 | _ => none
theorem JR {d : Vl} {v : V} {p : PyData} (I : GInv K B φ S H) (h : GZ S d = some p) (r : RepV K B φ S H d v) : Dp K H v p := by
 unfold GZ at h;split at h
 ·exact Rep.dp _ _ _ h r
 ·rename_i n
  obtain ⟨a, rfl, h1⟩ := r;split at h
  ·rename_i xs q
   obtain ⟨vs, h2, h3⟩ := I.ok n _ a q h1;unfold D.py at h;cases q : D.pys xs with
   | none => rw [q] at h; cases h
   | some ys => rw [q] at h; cases h; exact .lst (SqL.of h2) (RepL.dp xs vs ys q h3)
  ·cases h
 ·cases h
theorem GX (I : GInv K B φ S H) : ∀ {xs : List Vl} {vs : List V} {ps : List PyData}, Hs S xs = some ps -> RepVs K B φ S H xs vs -> DpAll K H vs ps
 | [], vs, ps, h, r => by cases h; cases r; exact .nil
 | x :: xs, vs, ps, h, ⟨v, ws, e, h1, h2⟩ => by
  subst e;unfold Hs at h;cases q1 : GZ S x with
  | none => rw [q1] at h; cases h
  | some p =>
   cases q2 : Hs S xs with
   | none => rw [q1, q2] at h; cases h
   | some qs => rw [q1, q2] at h; cases h; exact .cons (JR I q1 h1) (GX I q2 h2)
theorem A1 {d : Vl} {v : V} {p : PyData} (I : GInv K B φ S H) (h : Bb S d = some p) (r : RepV K B φ S H d v) : Dp K H v p := by
 unfold Bb at h;split at h
 ·exact Rep.dp _ _ _ h r
 ·rename_i n
  obtain ⟨a, rfl, h1⟩ := r;split at h
  ·rename_i xs q
   obtain ⟨vs, h2, h3⟩ := I.ok n _ a q h1;unfold D.py at h;cases q : D.pys xs with
   | none => rw [q] at h; cases h
   | some ys => rw [q] at h; cases h; exact .lst (SqL.of h2) (RepL.dp xs vs ys q h3)
  ·rename_i xs q
   obtain ⟨vs, h2, h3⟩ := I.ok n _ a q h1;cases q : Hs S xs with
   | none => rw [q] at h; cases h
   | some ys => rw [q] at h; cases h; exact .lst (SqL.of h2) (GX I q h3)
  ·cases h
 ·cases h
def shp (p q : PyData) : Bool := SeqAt.shaped p && SeqAt.shaped q
def eZ (x y : Vl) (S : aL) : Res Vl := match x, y with
 | .dat (.int i), .dat (.int j) => .ok (.dat (.bl (decide (i = j)))) S
 | .dat (.str i), .dat (.str j) => .ok (.dat (.bl (decide (i = j)))) S
 | x, y => match Bb S x, Bb S y with
  | some p, some q => if shp p q = true then .ok (.dat (.bl (PyData.eqv p q))) S else .stuck
  | _, _ => .stuck
def BU (x y : Vl) (S : aL) : Res Vl := match x, y with
 | .dat (.int i), .dat (.int j) => .ok (.dat (.bl (!decide (i = j)))) S
 | .dat (.str i), .dat (.str j) => .ok (.dat (.bl (!decide (i = j)))) S
 | x, y => match Bb S x, Bb S y with
  | some p, some q => if shp p q = true then .ok (.dat (.bl (!PyData.eqv p q))) S else .stuck
  | _, _ => .stuck
theorem N5 {x y : V} (h : rEqD K x y H Q) : cEq K x y H Q := by
 unfold cEq;split
 ·obtain ⟨d, e, h1, h2, _, _, q⟩ := h
  cases h1; cases h2;exact q
 ·obtain ⟨d, e, h1, h2, _, _, q⟩ := h
  cases h1; cases h2;exact q
 ·exact h
theorem N3 {x y : V} (h : rNeD K x y H Q) : cNe K x y H Q := by
 unfold cNe;split
 ·obtain ⟨d, e, h1, h2, _, _, q⟩ := h
  cases h1; cases h2;exact q
 ·obtain ⟨d, e, h1, h2, _, _, q⟩ := h
  cases h1; cases h2;exact q
 ·exact h
theorem s_eq : eW K (cEq K) eZ := fun {W σ B φ S H x y d e Q} I r1 r2 f => by
 unfold eZ at f;split at f
 ·cases r1; cases r2; exact Fin.now f I rfl
 ·cases r1; cases r2; exact Fin.now f I rfl
 ·split at f
  ·rename_i p q h1 h2
   split at f
   ·rename_i h
    obtain ⟨h3, h4⟩ := He.ba h;exact N5 ⟨p, q, A1 I h1 r1, A1 I h2 r2, h3, h4, Fin.now f I rfl⟩
   ·exact f.elim
  ·exact f.elim
theorem tN : eW K (cNe K) BU := fun {W σ B φ S H x y d e Q} I r1 r2 f => by
 unfold BU at f;split at f
 ·cases r1; cases r2; exact Fin.now f I rfl
 ·cases r1; cases r2; exact Fin.now f I rfl
 ·split at f
  ·rename_i p q h1 h2
   split at f
   ·rename_i h
    obtain ⟨h3, h4⟩ := He.ba h;exact N3 ⟨p, q, A1 I h1 r1, A1 I h2 r2, h3, h4, Fin.now f I rfl⟩
   ·exact f.elim
  ·exact f.elim
def isNon : Vl -> Bool
 | .dat .non => true
 | _ => false
def Bi (neg : Bool) (x y : Vl) (S : aL) : Res Vl := match y with
 | .dat .non => .ok (.dat (.bl (if neg then !(isNon x) else isNon x))) S
 | _ => .stuck
theorem EM {d : Vl} {v : V} (r : RepV K B φ S H d v) : decide (v = .non) = isNon d := by
 cases d with
 | dat d =>
  cases d with
  | non => cases r; rfl
  | bl b => cases r; rfl
  | int b => cases r; rfl
  | str b => cases r; rfl
  | lst xs => obtain ⟨a, vs, rfl, _⟩ := r; rfl
  | tup xs => obtain ⟨a, vs, rfl, _⟩ := r; rfl
  | ins C ns xs => obtain ⟨a, dx, vs, rfl, _⟩ := r; rfl
  | dct => obtain ⟨a, rfl, _⟩ := r; rfl
  | opq k => cases k with
   | none => obtain ⟨a, rfl⟩ := r; rfl
   | some k => obtain ⟨a, rfl, _⟩ := r; rfl
 | cel n => obtain ⟨a, rfl, _⟩ := r; rfl
 | cels ns => obtain ⟨a, as, rfl, _⟩ := r; rfl
 | scr ns => obtain ⟨a, rfl, _⟩ := r; rfl
 | tc xs => obtain ⟨a, vs, rfl, _⟩ := r; rfl
theorem NJ : eW K NP (Bi false) := fun {W σ B φ S H x y d e Q} I r1 r2 f => by
 unfold Bi at f;split at f
 ·cases r2
  show Q (.bl (decide (x = .non))) H
  rw [EM r1];exact Fin.now f I rfl
 ·exact f.elim
theorem FH : eW K JP (Bi true) := fun {W σ B φ S H x y d e Q} I r1 r2 f => by
 unfold Bi at f;split at f
 ·cases r2
  show Q (.bl (!decide (x = .non))) H
  rw [EM r1];exact Fin.now f I rfl
 ·exact f.elim
def unB : Vl -> aL -> Res Bool
 | .dat (.bl b), S => .ok b S
 | _, _ => .stuck
def mB (a : FE) : FT := fun ρ S => (a ρ S).bind unB
theorem JD {Q : Bool -> Hp -> Prop} (h : tO K W (mB ma) σ H Q) : cL K W ma σ H fun x H' => (match x with | .bl k => Q k H' | _ => False) :=
 bT (k := fun x _ S => unB x S) h fun B φ S ρ d v H1 I E r f => by
  unfold unB at f;split at f
  ·cases r; exact Fin.now f I rfl
  ·exact f.elim
theorem aS {op : CmpOp} {r : R2} {f : Vl -> Vl -> aL -> Res Vl} (o : OpR X (compareOp op) r) (s : eW X.K r f) (ha : PE X a (cL X.K W ma)) (hb : PE X b (cL X.K W mb)) (hm : behindInMarks op b = false := by rfl) : PT X (.Compare a [op] [b] pos) (tO X.K W (mB (aV f ma mb))) :=
 BM (ND o ha hb hm) fun σ H Q h => xH s (JD h)
def AH (x : Vl) (S : aL) : Res Bool := match x with
 | .dat .non => .ok false S
 | .dat (.bl b) => .ok b S
 | .dat (.int i) => .ok (i != 0) S
 | .dat (.str y) => if y.length <= sizeLine then .ok ((y.length : Int) != 0) S else .stuck
 | .dat (.tup xs) => .ok (!xs.isEmpty) S
 | x => match lA S x with
  | some xs => .ok (!xs.isEmpty) S
  | none => .stuck
theorem RepL.emp {Bk : Addr -> Prop} {ds : List D} {vs : List V} (h : RepL K Bk H ds vs) : (!ds.isEmpty) = !vs.isEmpty := by
 have := h.len;cases ds <;> cases vs <;> simp at this ⊢
theorem Cd {d : Vl} {v : V} {Q : Bool -> Hp -> Prop} (I : GInv K B φ S H) (r : RepV K B φ S H d v) (f : Fin K W σ RB B φ S H (AH d S) Q) : cT K v H Q := by
 unfold AH at f;split at f
 ·cases r; exact Fin.now f I rfl
 ·cases r; exact Fin.now f I rfl
 ·cases r; exact Fin.now f I rfl
 ·cases r
  split at f
  ·rename_i h; exact ⟨_, ⟨h, rfl⟩, Fin.now f I rfl⟩
  ·exact f.elim
 ·obtain ⟨a, vs, rfl, h1, l1⟩ := r
  exact ⟨_, .inr (.inl ⟨vs, h1, l1.emp⟩), Fin.now f I rfl⟩
 ·split at f
  ·rename_i xs q1
   obtain ⟨a, vs, rfl, h1, l1⟩ := jT I q1 r;exact ⟨_, .inl ⟨vs, SqL.of h1, l1.emp⟩, Fin.now f I rfl⟩
  ·exact f.elim
def dE (a : FE) : FT := fun ρ S => (a ρ S).bind AH
theorem cX (ha : PE X a (cL X.K W ma)) (he : ∀ whole, isTrue a X.env whole = (do let v <- whole; standAt a.pos; holding [v] (truthy v)) := by intro _; rfl) : PT X a (tO X.K W (dE ma)) :=
 BM (t_val ha he) fun σ H Q h => bT (k := fun x _ S => AH x S) h fun B φ S ρ d v H1 I E r f => Cd I r f
def uO (a b : FT) : FT := fun ρ S => (a ρ S).bind fun c S1 => if c = true then b ρ S1 else .ok false S1
def rN (a b : FT) : FT := fun ρ S => (a ρ S).bind fun c S1 => if c = true then .ok true S1 else b ρ S1
def jF (a : FT) : FT := fun ρ S => (a ρ S).bind fun c S1 => .ok (!c) S1
theorem L0 {e : Expr} {t u : TT} (h : PW X e t) (i : ∀ σ H Q, u σ H Q -> t σ H Q) : PW X e u := ⟨fun whole pins s σ H Q I q => h.run whole pins s σ H Q I (i σ H Q q)⟩
theorem LR {Q : Bool -> Hp -> Prop} (h : tO K W (uO mt mu) σ H Q) : tAnd (tO K W mt) (tO K W mu) σ H Q :=
 bT (k := fun c ρ S => if c = true then mu ρ S else .ok false S) h fun B φ S ρ d v H1 I E r f => by
  have r : v = d := r;subst r;cases v with
  | true => exact ⟨B, φ, S, ρ, I, E, f⟩
  | false => exact Fin.now f I rfl
theorem O4 {Q : Bool -> Hp -> Prop} (h : tO K W (rN mt mu) σ H Q) : tOr (tO K W mt) (tO K W mu) σ H Q :=
 bT (k := fun c ρ S => if c = true then .ok true S else mu ρ S) h fun B φ S ρ d v H1 I E r f => by
  have r : v = d := r;subst r;cases v with
  | false => exact ⟨B, φ, S, ρ, I, E, f⟩
  | true => exact Fin.now f I rfl
theorem pK (ha : PT X a (tO X.K W mt)) (hb : PW X (.BoolOp .And (b :: rest) pos) (tO X.K W mu)) : PW X (.BoolOp .And (a :: b :: rest) pos) (tO X.K W (uO mt mu)) := L0 (pw_and ha hb) fun σ H Q h => LR h
theorem eR (ha : PT X a (tO X.K W mt)) (hb : PW X (.BoolOp .Or (b :: rest) pos) (tO X.K W mu)) : PW X (.BoolOp .Or (a :: b :: rest) pos) (tO X.K W (rN mt mu)) := L0 (pw_or ha hb) fun σ H Q h => O4 h
theorem dR (ha : PT X a (tO X.K W mt)) : PT X (.UnaryOp .Not a pos) (tO X.K W (jF mt)) := BM (pt_not ha) fun σ H Q h =>
 bT (k := fun c _ S => .ok (!c) S) h fun B φ S ρ d v H1 I E r f => by cases r; exact Fin.now f I rfl
def jM (a b : FE) : FE := fun ρ S => (a ρ S).bind fun x S1 => match x with
 | .dat (.bl c) => if c = true then b ρ S1 else .ok (.dat (.bl false)) S1
 | _ => .stuck
def mOrV (a b : FE) : FE := fun ρ S => (a ρ S).bind fun x S1 => match x with
 | .dat (.bl c) => if c = true then .ok (.dat (.bl true)) S1 else b ρ S1
 | _ => .stuck
def EE (a : FE) : FE := fun ρ S => (a ρ S).bind fun x S1 => (AH x S1).bind fun k S2 => .ok (.dat (.bl (!k))) S2
theorem gX (ha : PE X a (cL X.K W ma)) (hb : PE X (.BoolOp .And (b :: rest) pos) (cL X.K W mb)) : PE X (.BoolOp .And (a :: b :: rest) pos) (cL X.K W (jM ma mb)) := cG (e_and ha hb) fun σ H Q h =>
 bT (k := fun x ρ S1 => match x with | .dat (.bl c) => if c = true then mb ρ S1 else .ok (.dat (.bl false)) S1 | _ => .stuck) h fun B φ S ρ d v H1 I E r f => by
  split at f
  ·rename_i c
   cases r;cases c with
   | true => exact ⟨B, φ, S, ρ, I, E, f⟩
   | false => exact Fin.now f I rfl
  ·exact f.elim
def OI (a b : FE) : FE := fun ρ S => (a ρ S).bind fun x S1 => (AH x S1).bind fun k S2 => if k = true then .ok x S2 else b ρ S2
theorem Dl {x : Vl} {k : Bool} {S' : aL} (h : AH x S = .ok k S') : S' = S := by
 unfold AH at h;split at h
 ·cases h; rfl
 ·cases h; rfl
 ·cases h; rfl
 ·split at h <;> cases h; rfl
 ·cases h; rfl
 ·split at h <;> cases h; rfl
theorem tru_V {d : Vl} {v : V} {k : Bool} (I : GInv K B φ S H) (r : RepV K B φ S H d v) (h : AH d S = .ok k S) : TruV K v H k := by
 obtain ⟨k', h1, h2⟩ := Ks v H (fun b _ => b = k) (Cd (W := wNo) (σ := []) I r (by
  rw [h];exact fun φ' v' H' _ _ r => r))
 rw [<- h2]; exact h1
theorem Pg (ha : PE X a (cL X.K W ma)) (hb : PE X (.BoolOp .Or (b :: rest) pos) (cL X.K W mb)) : PE X (.BoolOp .Or (a :: b :: rest) pos) (cL X.K W (OI ma mb)) := cG (pe_orT ha hb) fun σ H Q h =>
 bT (k := fun x ρ S1 => (AH x S1).bind fun k S2 => if k = true then .ok x S2 else mb ρ S2) h fun B φ S ρ d v H1 I E r f => by
  cases q : AH d S with
  | stuck => rw [q] at f; exact f.elim
  | err e S' =>
   exfalso
   unfold AH at q;split at q <;> first | cases q | (split at q <;> cases q)
  | ok k S' =>
   have e := Dl q;subst e;rw [q] at f;refine ⟨k, tru_V I r q, ?_⟩
   cases k with
   | true => exact Fin.now f I r
   | false => exact ⟨B, φ, S', ρ, I, E, f⟩
theorem Fz (ha : PE X a (cL X.K W ma)) : PE X (.UnaryOp .Not a pos) (cL X.K W (EE ma)) := cG (e_not ha) fun σ H Q h =>
 bT (k := fun x _ S1 => (AH x S1).bind fun k S2 => Res.ok (Vl.dat (D.bl (!k))) S2) h fun B φ S ρ d v H1 I E r f => by
  cases q : AH d S with
  | stuck => rw [q] at f; exact f.elim
  | err e S' =>
   exfalso
   unfold AH at q;split at q <;> first | cases q | (split at q <;> cases q)
  | ok k S' =>
   have e := Dl q;subst e;rw [q] at f;refine Cd (W := W) (σ := σ) I r ?_
   rw [q];intro φ' v' H' I' X' r';cases r';exact Fin.now (Fin.ext f X') I' rfl
def mP (f g : Vl -> Vl -> aL -> Res Vl) (a b c : FE) : FE := fun ρ S => (a ρ S).bind fun x S1 => (b ρ S1).bind fun y S2 => (f x y S2).bind fun z S3 => match z with
 | .dat (.bl k) => if k = true then (c ρ S3).bind fun w S4 => g y w S4 else .ok (.dat (.bl false)) S3
 | _ => .stuck
theorem Bn {r r' : R2} {f g : Vl -> Vl -> aL -> Res Vl} (s : eW K r f) (s' : eW K r' g) (h : cL K W (mP f g ma mb mc) σ H Q) : DQ r r' (cL K W ma) (cL K W mb) (cL K W mc) σ H Q := by
 refine bT (k := fun x ρ S1 => (mb ρ S1).bind fun y S2 => (f x y S2).bind fun z S3 => match z with | .dat (.bl k) => if k = true then (mc ρ S3).bind fun w S4 => g y w S4 else .ok (.dat (.bl false)) S3 | _ => .stuck) h fun B φ S ρ d v H1 I E r1 f' => gF I E f' fun φ' S' e w H2 I2 X2 E2 r2 f2 => ?_
 have r1' := r1.ext X2 I;refine s (W := W) (σ := σ) I2 r1' r2 ?_
 cases q : f d e S' with
 | stuck => rw [q] at f2; exact f2
 | err x S3 => rw [q] at f2; exact f2
 | ok z S3 =>
  rw [q] at f2;intro φ3 v3 H3 I3 X3 r3;have f3 := Fin.ext f2 X3;dsimp only [Res.bind] at f3;split at f3
  ·rename_i k
   cases r3;cases k with
   | false => exact Fin.now f3 I3 rfl
   | true => exact gF I3 (E2.ext X3 I2) f3 fun φ4 S4 d4 v4 H4 I4 X4 E4 r4 f4 => s' I4 ((r2.ext X3 I2).ext X4 I3) r4 f4
  ·exact f3.elim
theorem AC {op op' : CmpOp} {r r' : R2} {f g : Vl -> Vl -> aL -> Res Vl} (ho : OpR X (compareOp op) r) (s : eW X.K r f) (ho' : OpR X (compareOp op') r') (s' : eW X.K r' g) (ha : PE X a (cL X.K W ma)) (hb : PE X b (cL X.K W mb)) (hc : PE X c (cL X.K W mc))
  (hm : lastMarks [op, op'] [b, c] = false := by with_unfolding_all rfl) : PE X (.Compare a [op, op'] [b, c] pos) (cL X.K W (mP f g ma mb mc)) := cG (N0 ho ho' ha hb hc hm) fun σ H Q h => Bn s s' h
theorem vY {op op' : CmpOp} {r r' : R2} {f g : Vl -> Vl -> aL -> Res Vl} (ho : OpR X (compareOp op) r) (s : eW X.K r f) (ho' : OpR X (compareOp op') r') (s' : eW X.K r' g) (ha : PE X a (cL X.K W ma)) (hb : PE X b (cL X.K W mb)) (hc : PE X c (cL X.K W mc))
  (hm : lastMarks [op, op'] [b, c] = false := by with_unfolding_all rfl) : PT X (.Compare a [op, op'] [b, c] pos) (tO X.K W (mB (mP f g ma mb mc))) := BM (LK ho ho' ha hb hc hm) fun σ H Q h => Bn s s' (JD h)
def mIf (t : FT) (a b : FE) : FE := fun ρ S => (t ρ S).bind fun c S1 => if c = true then a ρ S1 else b ρ S1
def aJ : FA := fun _ S => .ok [] S
def aB (a : FE) (r : FA) : FA := fun ρ S => (a ρ S).bind fun x S1 => (r ρ S1).bind fun xs S2 => .ok (x :: xs) S2
theorem L5 {t u : TA} (h : PA X es t) (i : ∀ σ H Q, u σ H Q -> t σ H Q) : PA X es u := ⟨fun pos pins s σ H Q I q => h.run pos pins s σ H Q I (i σ H Q q)⟩
theorem aG : PA X [] (JM X.K W aJ) := L5 pa_nil fun σ H Q h => by
 obtain ⟨B, φ, S, ρ, I, E, f⟩ := h;exact Fin.now (v := []) f I rfl
theorem aA (ha : PE X a (cL X.K W ma)) (hr : PA X es (JM X.K W mas)) (hs : starEach (a :: es) X.env = (false, eval a X.env) :: starEach es X.env := by rfl) : PA X (a :: es) (JM X.K W (aB ma mas)) := L5 (pa_cons ha hr hs) fun σ H Q h =>
 bT (k := fun x ρ S1 => (mas ρ S1).bind fun xs S2 => .ok (x :: xs) S2) h fun B φ S ρ d v H1 I E r f => gF I E f fun φ' S' ds vs H2 I2 X2 E2 r2 f2 => Fin.now f2 I2 ⟨v, vs, rfl, r.ext X2 I, r2⟩
def cN (cl : Bool) (r : FA) : FE := fun ρ S => (r ρ S).bind fun xs S1 => match tS xs with
 | some ds => if ds.length <= sizeLine then newL cl ds S1 else .stuck
 | none => .stuck
def cH (r : FA) : FE := fun ρ S => (r ρ S).bind fun xs S1 => match tS xs with
 | some ds => if ds.length <= sizeLine then .ok (.dat (.tup ds)) S1 else .stuck
 | none => .stuck
theorem cD {cl : Bool} (h : PA X es (JM X.K W mas)) : PE X (.List es pos) (cL X.K W (cN cl mas)) := cG (pe_lst h) fun σ H Q h =>
 bT (k := fun xs ρ S1 => match tS xs with | some ds => if ds.length <= sizeLine then newL cl ds S1 else .stuck | none => .stuck) h fun B φ S ρ d v H1 I E r f => by
  split at f
  ·rename_i ds q
   have l := tL q r;split at f
   ·rename_i hl
    exact ⟨by rw [l.len]; exact hl, fun p hp => Fin.newL f I l hp⟩
   ·exact f.elim
  ·exact f.elim
theorem bY (h : PA X es (JM X.K W mas)) : PE X (.Tuple es x1 pos) (cL X.K W (cH mas)) := cG (pe_tup h) fun σ H Q h =>
 bT (k := fun xs ρ S1 => match tS xs with | some ds => if ds.length <= sizeLine then Res.ok (Vl.dat (D.tup ds)) S1 else .stuck | none => .stuck) h fun B φ S ρ d v H1 I E r f => by
  split at f
  ·rename_i ds q
   have l := tL q r;split at f
   ·rename_i hl
    exact ⟨by rw [l.len]; exact hl, fun p hp => Fin.newT f I l hp⟩
   ·exact f.elim
  ·exact f.elim
end
section
variable {X : Cx} {W : WX} {e a b c : Expr} {es rest : List Expr} {pos p q p2 : Pos} {x y z : Str} {K : aC} {ma mb mc : FE} {mt mu : FT} {mas : FA} {B : Addr -> Prop} {φ : List Addr} {S : aL} {H : Hp} {σ : L2.St} {Q : VK}
theorem uH {r : V -> Hp -> VK -> Prop} {f : Vl -> aL -> Res Vl} (s : Bl K r f) (h : cL K W (m1 f ma) σ H Q) : tCB (c1 r) (tCons (cL K W ma) tNil) σ H Q := JE s h
def dY (x : Vl) (S : aL) : Res Vl := match x with
 | .dat (.tup xs) => .ok (.dat (.int xs.length)) S
 | .dat (.str z) => if z.length <= sizeLine then .ok (.dat (.int z.length)) S else .stuck
 | .cels ns => .ok (.dat (.int ns.length)) S
 | x => match lA S x with
  | some xs => .ok (.dat (.int xs.length)) S
  | none => .stuck
theorem s_len : Bl K (cLen K) dY := fun {W σ B φ S H x d Q} I r f => by
 unfold dY at f;split at f
 ·obtain ⟨a, vs, rfl, h1, l1⟩ := r
  refine ⟨vs, .inr h1, ?_⟩
  rw [l1.len];exact Fin.now f I rfl
 ·cases r
  split at f
  ·rename_i h; exact ⟨h, Fin.now f I rfl⟩
  ·exact f.elim
 ·rename_i ns
  obtain ⟨a, as, rfl, h1, h2, h3⟩ := r;refine ⟨as.map V.ref, .inl (SqL.of h2), ?_⟩
  have e : as.length = ns.length := by
   have := congrArg nG h3
   simpa using this.symm
  rw [bN, e];exact Fin.now f I rfl
 ·split at f
  ·rename_i xs q1
   obtain ⟨a, vs, rfl, h1, l1⟩ := jT I q1 r;refine ⟨vs, .inl (SqL.of h1), ?_⟩
   rw [l1.len];exact Fin.now f I rfl
  ·exact f.elim
theorem dU (hm : X.mg "len" = none) (ha : PE X a (cL X.K W ma)) (hg : Gl X "len" := by rfl) (hs : starEach [a] X.env = [(false, eval a X.env)] := by rfl) : PE X (.Call (.Name "len" p) [a] [] pos) (cL X.K W (m1 dY ma)) := cG (e_len hm ha hg hs) fun σ H Q h => uH s_len h
def B0 (x : Vl) (S : aL) : Res Vl := match x with
 | .dat (.int i) => .ok (.dat (.int i)) S
 | .dat (.bl k) => .ok (.dat (.int (if k then 1 else 0))) S
 | _ => .stuck
theorem s_int : Bl K cInt B0 := fun {W σ B φ S H x d Q} I r f => by
 unfold B0 at f;split at f
 ·cases r; exact Fin.now f I rfl
 ·cases r; exact Fin.now f I rfl
 ·exact f.elim
theorem xW (hm : X.mg "int" = none) (ha : PE X a (cL X.K W ma)) (hg : Gl X "int" := by rfl) (hs : starEach [a] X.env = [(false, eval a X.env)] := by rfl) : PE X (.Call (.Name "int" p) [a] [] pos) (cL X.K W (m1 B0 ma)) := cG (e_int hm ha hg hs) fun σ H Q h => uH s_int h
def wZ : List D -> Option (List Bool)
 | [] => some []
 | .bl b :: r => match wZ r with
  | some bs => some (b :: bs)
  | none => none
 | _ :: _ => none
theorem Eu {Bk : Addr -> Prop} : ∀ {ds : List D} {bs : List Bool} {vs : List V}, wZ ds = some bs -> RepL K Bk H ds vs -> vs = bs.map V.bl
 | [], bs, vs, h, r => by cases h; exact r
 | d :: ds, bs, vs, h, ⟨v, ws, e, h1, h2⟩ => by
  subst e;cases d with
  | bl b =>
   unfold wZ at h;cases q : wZ ds with
   | none => rw [q] at h; cases h
   | some es => rw [q] at h; cases h; cases h1; rw [Eu q h2]; rfl
  | _ => cases h
def Kw : List D -> Option (List Int)
 | [] => some []
 | .int b :: r => match Kw r with
  | some bs => some (b :: bs)
  | none => none
 | _ :: _ => none
def wC (x : Vl) (S : aL) : Res Vl := match lA S x with
 | some xs => (match wZ xs with
  | some bs => .ok (.dat (.bl (bs.all id))) S
  | none => .stuck)
 | none => .stuck
theorem s_all : Bl K (cAll K) wC := fun {W σ B φ S H x d Q} I r f => by
 unfold wC at f;split at f
 ·rename_i xs q1
  obtain ⟨a, vs, rfl, h1, l1⟩ := jT I q1 r;split at f
  ·rename_i bs q2
   rw [Eu q2 l1] at h1;exact ⟨bs, SqL.of h1, Fin.now f I rfl⟩
  ·exact f.elim
 ·exact f.elim
theorem HD (hm : X.mg "all" = none) (ha : PE X a (cL X.K W ma)) (hc : X.calm = true := by rfl) (hg : Gl X "all" := by rfl) (hs : starEach [a] X.env = [(false, eval a X.env)] := by rfl) : PE X (.Call (.Name "all" p) [a] [] pos) (cL X.K W (m1 wC ma)) := cG (e_all hm ha hc hg hs) fun σ H Q h => uH s_all h
def tY (cl : Bool) (x : Vl) (S : aL) : Res Vl := match x with
 | .dat (.tup xs) => newL cl xs S
 | x => match lA S x with
  | some xs => newL cl xs S
  | none => .stuck
theorem O7 {cl : Bool} : Bl K (Kt K) (tY cl) := fun {W σ B φ S H x d Q} I r f => by
 unfold tY at f;split at f
 ·obtain ⟨a, vs, rfl, h1, l1⟩ := r
  exact ⟨vs, .inr h1, fun l hl => Fin.newL f I l1 hl⟩
 ·split at f
  ·rename_i xs q1
   obtain ⟨a, vs, rfl, h1, l1⟩ := jT I q1 r;exact ⟨vs, .inl (SqL.of h1), fun l hl => Fin.newL f I l1 hl⟩
  ·exact f.elim
theorem Kd {cl : Bool} (hm : X.mg "list" = none) (ha : PE X a (cL X.K W ma)) (hg : Gl X "list" := by rfl) (hs : starEach [a] X.env = [(false, eval a X.env)] := by rfl) : PE X (.Call (.Name "list" p) [a] [] pos) (cL X.K W (m1 (tY cl) ma)) := cG (Kn hm ha hg hs) fun σ H Q h => uH O7 h
def fTuple (x : Vl) (S : aL) : Res Vl := match lA S x with
 | some xs => .ok (.dat (.tup xs)) S
 | none => .stuck
theorem LV : Bl K (Kr K) fTuple := fun {W σ B φ S H x d Q} I r f => by
 unfold fTuple at f;split at f
 ·rename_i xs q1
  obtain ⟨a, vs, rfl, h1, l1⟩ := jT I q1 r;exact ⟨vs, SqL.of h1, fun l hl => Fin.newT f I l1 hl⟩
 ·exact f.elim
theorem wB (hm : X.mg "tuple" = none) (ha : PE X a (cL X.K W ma)) (hg : Gl X "tuple" := by rfl) (hs : starEach [a] X.env = [(false, eval a X.env)] := by rfl) : PE X (.Call (.Name "tuple" p) [a] [] pos) (cL X.K W (m1 fTuple ma)) := cG (Mz hm ha hg hs) fun σ H Q h => uH LV h
def cAbs : V -> Hp -> VK -> Prop := fun x H Q => match x with
 | .int i => Q (.int (if i < 0 then -i else i)) H
 | _ => False
def Mx (x : Vl) (S : aL) : Res Vl := match x with
 | .dat (.int i) => .ok (.dat (.int (if i < 0 then -i else i))) S
 | _ => .stuck
theorem s_abs : Bl K cAbs Mx := fun {W σ B φ S H x d Q} I r f => by
 unfold Mx at f;split at f
 ·cases r; exact Fin.now f I rfl
 ·exact f.elim
theorem f_abs (hm : X.mg "abs" = none) (ha : PE X a (cL X.K W ma)) (hg : Gl X "abs" := by rfl) (hs : starEach [a] X.env = [(false, eval a X.env)] := by rfl) : PE X (.Call (.Name "abs" p) [a] [] pos) (cL X.K W (m1 Mx ma)) :=
 cG (pe_callB (jQ (u := c1 cAbs) call_abs fun xs H Q h => by
  match xs, h with
  | [x], h =>
   cases x with
   | int i => exact ⟨i, rfl, h⟩
   | _ => exact h.elim) hg hm boot_abs (pa_cons ha pa_nil hs) (he := hs)) fun σ H Q h => uH s_abs h
theorem EI {a : Addr} {xs : List V} (h : SqT K H a xs) : BO K H a "tuple" := by
 refine ⟨by decide, ?_⟩
 rcases h with (h | ⟨o, h⟩) | ⟨o, its, n, h, hc, _⟩
 ·exact .base (.tup h)
 ·exact .fTuple h
 ·exact .kTuple h hc
theorem sJ {a : Addr} {xs : List V} (h : SqL K H a xs) : BO K H a "list" := by
 refine ⟨by decide, ?_⟩
 rcases h with (h | ⟨o, h⟩) | ⟨o, its, n, h, hc, _⟩
 ·exact .base (.lst h)
 ·exact .base (.frz h)
 ·exact .kList h hc
def kindOf (S : aL) : Vl -> Option String
 | .dat .non => some "NoneType"
 | .dat (.bl _) => some "bool"
 | .dat (.int _) => some "int"
 | .dat (.str _) => some "str"
 | .dat (.lst _) => some "list"
 | .dat (.tup _) => some "tuple"
 | .dat .dct => some "dict"
 | .dat (.opq _) => none
 | .dat (.ins _ _ _) => none
 | .cels _ => some "list"
 | .scr _ => some "list"
 | .tc _ => some "tuple"
 | .cel n => match S[n]? with
  | some (.lst _) => some "list"
  | some (.dct _) => some "dict"
  | some (.lv _) => some "list"
  | _ => none
def fIsi (T : String) (x : Vl) (S : aL) : Res Vl := match kindOf S x with
 | some n => .ok (.dat (.bl (isTy T n))) S
 | none => .stuck
theorem xR {d : Vl} {v : V} {n : String} (I : GInv K B φ S H) (r : RepV K B φ S H d v) (h : kindOf S d = some n) : (v = .non /\ n = "NoneType") \/ (∃ b, v = .bl b /\ n = "bool") \/ (∃ b, v = .int b /\ n = "int") \/ (∃ b, v = .str b /\ n = "str") \/ ∃ a, v = .ref a /\ BO K H a n := by
 cases d with
 | dat d =>
  cases d with
  | non => cases h; cases r; exact .inl ⟨rfl, rfl⟩
  | bl b => cases h; cases r; exact .inr (.inl ⟨b, rfl, rfl⟩)
  | int b => cases h; cases r; exact .inr (.inr (.inl ⟨b, rfl, rfl⟩))
  | str b => cases h; cases r; exact .inr (.inr (.inr (.inl ⟨b, rfl, rfl⟩)))
  | lst xs => cases h; obtain ⟨a, vs, rfl, _, h1, _⟩ := r; exact .inr (.inr (.inr (.inr ⟨a, rfl, sJ (SqL.of h1)⟩)))
  | tup xs => cases h; obtain ⟨a, vs, rfl, h1, _⟩ := r; exact .inr (.inr (.inr (.inr ⟨a, rfl, EI h1⟩)))
  | ins C ns xs => cases h
  | opq _ => cases h
  | dct => cases h; obtain ⟨a, rfl, _, h1⟩ := r; exact .inr (.inr (.inr (.inr ⟨a, rfl, by decide, .base (.dK h1)⟩)))
 | cels ns => cases h; obtain ⟨a, as, rfl, _, h1, _⟩ := r; exact .inr (.inr (.inr (.inr ⟨a, rfl, sJ (SqL.of h1)⟩)))
 | scr ns => cases h; obtain ⟨a, rfl, h1⟩ := r; exact .inr (.inr (.inr (.inr ⟨a, rfl, sJ h1.sq⟩)))
 | tc xs => cases h; obtain ⟨a, vs, rfl, h1, _⟩ := r; exact .inr (.inr (.inr (.inr ⟨a, rfl, EI h1⟩)))
 | cel n =>
  obtain ⟨a, rfl, h1⟩ := r;have h : (match S[n]? with | some (.lst _) => some "list" | some (.dct _) => some "dict" | some (.lv _) => some "list" | _ => none) = some _ := h
  split at h
  ·rename_i q
   cases h;obtain ⟨vs, h2, _⟩ := I.ok n _ a q h1;exact .inr (.inr (.inr (.inr ⟨a, rfl, sJ (SqL.of h2)⟩)))
  ·rename_i q
   cases h;obtain ⟨vs, h2, _⟩ := I.ok n _ a q h1;exact .inr (.inr (.inr (.inr ⟨a, rfl, by decide, .base (.dK h2)⟩)))
  ·rename_i q
   cases h;obtain ⟨vs, h2, _⟩ := I.ok n _ a q h1;exact .inr (.inr (.inr (.inr ⟨a, rfl, sJ (SqL.of h2)⟩)))
  ·cases h
theorem NI {T : String} (hT : T ∈ targets) : Bl K (IZ K T) (fIsi T) := fun {W σ B φ S H x d Q} I r f => by
 unfold fIsi at f;have h6 : T = "int" \/ T = "bool" \/ T = "str" \/ T = "list" \/ T = "tuple" \/ T = "dict" := by simpa [targets] using hT
 split at f
 ·rename_i n h
  have q : ∀ b, b = isTy T n -> Q (.bl b) H := fun b e => by rw [e]; exact Fin.now f I rfl
  rcases xR I r h with ⟨rfl, rfl⟩ | ⟨b, rfl, rfl⟩ | ⟨b, rfl, rfl⟩ | ⟨b, rfl, rfl⟩ | ⟨a, rfl, hk⟩
  ·exact q false (by rcases h6 with e | e | e | e | e | e <;> subst e <;> decide)
  ·exact q _ (by rcases h6 with e | e | e | e | e | e <;> subst e <;> decide)
  ·exact q _ (by rcases h6 with e | e | e | e | e | e <;> subst e <;> decide)
  ·exact q _ (by rcases h6 with e | e | e | e | e | e <;> subst e <;> decide)
  ·have h3 : n = "list" \/ n = "tuple" \/ n = "dict" := by simpa using hk.1
   exact ⟨n, hk, q _ (by rcases h6 with e | e | e | e | e | e <;> rcases h3 with e' | e' | e' <;> subst e <;> subst e' <;> decide)⟩
 ·exact f.elim
theorem fO {T : String} (hm : X.mg "isinstance" = none) (hmT : X.mg y = none) (ha : PE X a (cL X.K W ma)) (hT : T ∈ targets := by decide) (hv : bootBuiltins y = some (.type T) := by decide +kernel)
  (hg : Gl X "isinstance" := by rfl) (hgT : Gl X y := by rfl) (hn : y ≠ "__name__" := by decide) (hd : (y == ("__debug__" : Str)) = false := by decide) (hs : starEach [a, .Name y q] X.env = (false, eval a X.env) :: starEach [.Name y q] X.env := by rfl) :
  PE X (.Call (.Name "isinstance" p) [a, .Name y q] [] pos) (cL X.K W (m1 (fIsi T) ma)) := cG (e_isi hm hmT ha hT hv hg hgT hn hd hs) fun σ H Q h => JE (NI hT) h
def fIsi2 (T U : String) (x : Vl) (S : aL) : Res Vl := match kindOf S x with
 | some n => .ok (.dat (.bl (isTy T n || isTy U n))) S
 | none => .stuck
theorem JJ {T U : String} (hT : T ∈ targets) (hU : U ∈ targets) {x : V} {d : Vl} (I : GInv K B φ S H) (r : RepV K B φ S H d x) (f : Fin K W σ (RepV K) B φ S H (fIsi2 T U d S) Q) {tp : Addr} {H' : Hp} (ntp : H tp = none) (hH : H' = upd H tp (.tup [.ty T, .ty U])) : Nq K T U x H' fun b => Q (.bl b) H' := by
 unfold fIsi2 at f;split at f
 ·rename_i n h
  have X1 := Ext.new (o := .tup [.ty T, .ty U]) I ntp;have I1 := I.new (o := .tup [.ty T, .ty U]) ntp;have hq : Q (.bl (isTy T n || isTy U n)) H' := by subst hH; exact f φ _ _ I1 X1 rfl
  have r' : RepV K B φ S H' d x := by subst hH; exact r.ext X1 I
  rcases xR I r h with ⟨rfl, rfl⟩ | ⟨b, rfl, rfl⟩ | ⟨b, rfl, rfl⟩ | ⟨b, rfl, rfl⟩ | ⟨a, rfl, hk⟩
  ·have : ∀ T ∈ targets, isTy T "NoneType" = false := by decide
   rw [this T hT, this U hU] at hq;exact hq
  ·exact hq
  ·exact hq
  ·exact hq
  ·have I1' : GInv K B φ S H' := by subst hH; exact I1
   rcases xR I1' r' h with ⟨z, _⟩ | ⟨b, z, _⟩ | ⟨b, z, _⟩ | ⟨b, z, _⟩ | ⟨a', z, hk'⟩ <;> cases z
   exact ⟨n, hk', hq⟩
 ·exact f.elim
theorem Kg {q1 q2 tpos : Pos} {j : Nat} {T U : String} (hm : X.mg "isinstance" = none) (hmT : X.mg y = none) (hmU : X.mg z = none) (ha : PE X a (cL X.K W ma)) (hT : T ∈ targets := by decide) (hU : U ∈ targets := by decide)
  (hv : bootBuiltins y = some (.type T) := by decide +kernel) (hw : bootBuiltins z = some (.type U) := by decide +kernel) (hg : Gl X "isinstance" := by rfl) (hgT : Gl X y := by rfl) (hgU : Gl X z := by rfl) (hn : y ≠ "__name__" := by decide) (hd : (y == ("__debug__" : Str)) = false := by decide) (hn2 : z ≠ "__name__" := by decide) (hd2 : (z == ("__debug__" : Str)) = false := by decide)
  (hs : starEach [a, .Tuple [.Name y q1, .Name z q2] j tpos] X.env = (false, eval a X.env) :: starEach [.Tuple [.Name y q1, .Name z q2] j tpos] X.env := by rfl) :
  PE X (.Call (.Name "isinstance" p) [a, .Tuple [.Name y q1, .Name z q2] j tpos] [] pos) (cL X.K W (m1 (fIsi2 T U) ma)) :=
 cG (Pk hm hmT hmU ha hT hU hv hw hg hgT hgU hn hd hn2 hd2 hs) fun σ H Q h => bT (k := fun x _ S => fIsi2 T U x S) h fun B φ S ρ d v H1 I E r f => by
  show _ /\ _
  exact ⟨(by show 2 <= sizeLine; decide), fun tp htp => ⟨upd_same, JJ hT hU I r f htp rfl⟩⟩
def cutD (xs : List D) (lo hi : Option Int) : List D := (xs.drop (HT.sIx xs.length 0 lo)).take (HT.sIx xs.length xs.length hi - HT.sIx xs.length 0 lo)
theorem RepL.cut {Bk : Addr -> Prop} {ds : List D} {vs : List V} {lo hi : Option Int} (h : RepL K Bk H ds vs) : RepL K Bk H (cutD ds lo hi) (cutV vs lo hi) := by
 unfold cutD cutV;rw [h.len];exact (h.drop _).take _
def L9 (cl : Bool) (x : Vl) (lo hi : Option Int) (S : aL) : Res Vl := match x with
 | .dat (.tup xs) => .ok (.dat (.tup (cutD xs lo hi))) S
 | .dat (.str z) => if z.length <= sizeLine then .ok (.dat (.str (cutS z lo hi))) S else .stuck
 | .scr ns => newL cl (cutD (ns.map D.int) lo hi) S
 | x => match lA S x with
  | some xs => newL cl (cutD xs lo hi) S
  | none => .stuck
def zU : FO := fun _ S => .ok none S
def qZ (a : FE) : FO := fun ρ S => (a ρ S).bind fun x S1 => match x with
 | .dat (.int i) => .ok (some i) S1
 | _ => .stuck
theorem L3 {e : Option Expr} {t u : TO} (h : PO X e t) (i : ∀ σ H Q, u σ H Q -> t σ H Q) : PO X e u := ⟨fun pins s σ H Q I q => h.run pins s σ H Q I (i σ H Q q)⟩
theorem oS : PO X none (rdO X.K W zU) := L3 po_none fun σ H Q h => by
 obtain ⟨B, φ, S, ρ, I, E, f⟩ := h;exact Fin.now (v := none) f I rfl
theorem oR (ha : PE X a (cL X.K W ma)) : PO X (some a) (rdO X.K W (qZ ma)) := L3 (JS ha) fun σ H Q h =>
 bT (k := fun x _ S1 => match x with | .dat (.int i) => .ok (some i) S1 | _ => .stuck) h fun B φ S ρ d v H1 I E r f => by
  split at f
  ·cases r; exact Fin.now f I rfl
  ·exact f.elim
theorem Bs {Bk : Addr -> Prop} : ∀ ns : List Int, RepL K Bk H (ns.map D.int) (ns.map V.int)
 | [] => rfl
 | n :: ns => ⟨_, _, rfl, rfl, Bs ns⟩
theorem CP {xs : List D} {lo hi : Option Int} (h : HT.sIx xs.length 0 lo = 0 /\ HT.sIx xs.length xs.length hi = xs.length) : cutD xs lo hi = xs := by
 unfold cutD;rw [h.1, h.2];simp
def Jd (cl : Bool) (a : FE) (l h : FO) : FE := fun ρ S => (a ρ S).bind fun x S1 => (l ρ S1).bind fun lo S2 => (h ρ S2).bind fun hi S3 => L9 cl x lo hi S3
theorem G1 {cl : Bool} {lo hi : Option Expr} {ml mh : FO} (ha : PE X a (cL X.K W ma)) (hl : PO X lo (rdO X.K W ml)) (hh : PO X hi (rdO X.K W mh)) : PE X (.Subscript a (.Slice lo hi none p2) pos) (cL X.K W (Jd cl ma ml mh)) := cG (pe_slice sl_C ha hl hh) fun σ H Q h =>
 bT (k := fun x ρ S1 => (ml ρ S1).bind fun lo S2 => (mh ρ S2).bind fun hi S3 => L9 cl x lo hi S3) h fun B φ S ρ d v H1 I E r f => gF I E f fun φ1 S1 d1 v1 H2 I1 X1 E1 r1 f1 => gF I1 E1 f1 fun φ2 S2 d2 v2 H3 I2 X2 E2 r2 f2 => by
  cases r1;cases r2
  replace r := (r.ext X1 I).ext X2 I1
  unfold L9 at f2;split at f2
  ·rename_i xs
   obtain ⟨a, vs, rfl, h1, l1⟩ := r;refine oC ⟨vs, h1, fun hw => ?_, fun hw p hp => Fin.newT f2 I2 l1.cut hp⟩
   rw [l1.len] at hw;have e := CP (xs := xs) hw;rw [e] at f2;exact Fin.now f2 I2 ⟨a, vs, rfl, h1, l1⟩
  ·cases r
   split at f2
   ·rename_i hz; exact ⟨hz, Fin.now f2 I2 rfl⟩
   ·exact f2.elim
  ·obtain ⟨a, rfl, h1⟩ := r
   exact tT ⟨_, h1.sq, fun p hp => Fin.newL f2 I2 (Bs _).cut hp⟩
  ·split at f2
   ·rename_i xs q1
    obtain ⟨a, vs, rfl, h1, l1⟩ := jT I2 q1 r;exact tT ⟨vs, SqL.of h1, fun p hp => Fin.newL f2 I2 l1.cut hp⟩
   ·exact f2.elim
def EF (a : FE) : FE := fun ρ S => (a ρ S).bind fun x S1 => match x with
 | .cel n => (match S1[n]? with
  | some (.lst ds) => .ok (.dat (.lst ds)) (S1.set n .dead)
  | _ => .stuck)
 | _ => .stuck
theorem HC (ha : PE X a (cL X.K W ma)) : PE X a (cL X.K W (EF ma)) := cG ha fun σ H Q h =>
 bT (k := fun x _ S1 => match x with | .cel n => (match S1[n]? with | some (Cell.lst ds) => Res.ok (Vl.dat (D.lst ds)) (S1.set n Cell.dead) | _ => Res.stuck) | _ => Res.stuck) h fun B φ S ρ d v H1 I E r f => by
  split at f
  ·rename_i n
   obtain ⟨a, rfl, h1⟩ := r;split at f
   ·rename_i ds q
    obtain ⟨vs, h2, l⟩ := I.ok n _ a q h1;have X1 := Ext.kill (φ := φ) (S := S) (H := H1) (n := n);exact f φ _ H1 I.kill X1 ⟨a, vs, rfl, I.killed q (by simp) h1, h2, X1.repL I l⟩
   ·exact f.elim
  ·exact f.elim
end
inductive Out where
 | next (ρ : Ev) (S : aL) | ret (d : Vl) (S : aL) | brk (ρ : Ev) (S : aL) | cnt (ρ : Ev) (S : aL) | err (e : Er) (ρ : Ev) (S : aL) | stuck
abbrev FS := Ev -> aL -> Out
def Res.toS {α : Type} (r : Res α) (ρ : Ev) (k : α -> aL -> Out) : Out := match r with
 | .ok a S => k a S
 | .err e S => .err e ρ S
 | .stuck => .stuck
def FinS (K : aC) (W : WX) (D : Ends) (B : Addr -> Prop) (φ : List Addr) (S : aL) (H : Hp) (o : Out) : Prop := match o with
 | .next ρ' S' => ∀ φ' σ' H', GInv K B φ' S' H' -> Ext φ S H φ' S' H' -> RepE K B φ' S' H' ρ' σ' -> D.nx σ' H'
 | .ret d S' => ∀ φ' v H', GInv K B φ' S' H' -> Ext φ S H φ' S' H' -> RepV K B φ' S' H' d v -> D.rt v H'
 | .brk ρ' S' => ∀ φ' σ' H', GInv K B φ' S' H' -> Ext φ S H φ' S' H' -> RepE K B φ' S' H' ρ' σ' -> D.bk σ' H'
 | .cnt ρ' S' => ∀ φ' σ' H', GInv K B φ' S' H' -> Ext φ S H φ' S' H' -> RepE K B φ' S' H' ρ' σ' -> D.ct σ' H'
 | .err e ρ' S' => ∀ φ' σ' c x H', GInv K B φ' S' H' -> Ext φ S H φ' S' H' -> RepE K B φ' S' H' ρ' σ' -> Pr K B φ' S' H' e c x -> W c x σ' H'
 | .stuck => False
def jX (K : aC) (W : WX) (m : FS) : TS := fun D σ H => ∃ B φ S ρ, GInv K B φ S H /\ RepE K B φ S H ρ σ /\ FinS K W D B φ S H (m ρ S)
section
variable {X : Cx} {W : WX} {e a b c : Expr} {es rest : List Expr} {pos p q p2 : Pos} {x y z : Str} {K : aC} {ma mb mc : FE} {mt mu : FT} {mas : FA} {B : Addr -> Prop} {φ φ' : List Addr} {S S' : aL} {H H' : Hp} {σ : L2.St} {Q : VK} {m n : FS} {st : Stmt} {BW : List Stmt} {D : Ends}
theorem gO {t u : TS} (h : PS X st t) (i : ∀ D σ H, u D σ H -> t D σ H) : PS X st u := ⟨fun pins s σ H D I q => h.run pins s σ H D I (i D σ H q)⟩
theorem DU {t u : TS} (h : PSs X BW t) (i : ∀ D σ H, u D σ H -> t D σ H) : PSs X BW u := ⟨fun pins s σ H D I q => h.run pins s σ H D I (i D σ H q)⟩
theorem FinS.ext {o : Out} (f : FinS K W D B φ S H o) (e : Ext φ S H φ' S' H') : FinS K W D B φ' S' H' o := by
 cases o with
 | next ρ S1 => exact fun φ1 v H1 I1 X r => f φ1 v H1 I1 (e.trans X) r
 | ret d S1 => exact fun φ1 v H1 I1 X r => f φ1 v H1 I1 (e.trans X) r
 | brk ρ S1 => exact fun φ1 v H1 I1 X r => f φ1 v H1 I1 (e.trans X) r
 | cnt ρ S1 => exact fun φ1 v H1 I1 X r => f φ1 v H1 I1 (e.trans X) r
 | err x ρ S1 => exact fun φ1 σ1 c x H1 I1 X r => f φ1 σ1 c x H1 I1 (e.trans X) r
 | stuck => exact f
theorem cO {α β : Type} {R : Rl α β} {ρ : Ev} {m : Ev -> aL -> Res α} {k : α -> aL -> Out} {Q1 : β -> Hp -> Prop} (I : GInv K B φ S H) (E : RepE K B φ S H ρ σ) (f : FinS K W D B φ S H ((m ρ S).toS ρ k))
  (hk : ∀ φ' S' d v H1, GInv K B φ' S' H1 -> Ext φ S H φ' S' H1 -> RepE K B φ' S' H1 ρ σ -> R B φ' S' H1 d v -> FinS K W D B φ' S' H1 (k d S') -> Q1 v H1) : rd K W R m σ H Q1 := by
 refine ⟨B, φ, S, ρ, I, E, ?_⟩
 cases e : m ρ S with
 | stuck => rw [e] at f; exact f
 | err x S' =>
  rw [e] at f;exact fun φ' c d H' I' X r => f φ' σ c d H' I' X (E.ext X I) r
 | ok d S' =>
  rw [e] at f;exact fun φ' v H' I' X r => hk φ' S' d v H' I' X (E.ext X I) r (FinS.ext f X)
def aP (m n : FS) : FS := fun ρ S => match m ρ S with
 | .next ρ' S' => n ρ' S'
 | o => o
def bB : FS := fun ρ S => .next ρ S
def bG (a : FE) : FS := fun ρ S => (a ρ S).toS ρ fun d S1 => .ret d S1
def An (a : FE) : FS := fun ρ S => (a ρ S).toS ρ fun _ S1 => .next ρ S1
def bS (t : FT) (m n : FS) : FS := fun ρ S => (t ρ S).toS ρ fun c S1 => if c = true then m ρ S1 else n ρ S1
theorem LM (h : jX K W (aP m n) D σ H) : tSeq (jX K W m) (jX K W n) D σ H := by
 obtain ⟨B, φ, S, ρ, I, E, f⟩ := h;refine ⟨B, φ, S, ρ, I, E, ?_⟩
 unfold aP at f;cases e : m ρ S with
 | next ρ' S' =>
  rw [e] at f;exact fun φ' σ' H' I' X r => ⟨B, φ', S', ρ', I', r, FinS.ext f X⟩
 | ret d S' => rw [e] at f; exact f
 | brk d S' => rw [e] at f; exact f
 | cnt d S' => rw [e] at f; exact f
 | err x d S' => rw [e] at f; exact f
 | stuck => rw [e] at f; exact f
theorem aO : PSs X [] (jX X.K W bB) := DU pss_nil fun D σ H h => by
 obtain ⟨B, φ, S, ρ, I, E, f⟩ := h;exact f φ σ H I Ext.refl E
theorem aH (h : PS X st (jX X.K W m)) : PSs X [st] (jX X.K W m) := pss_one h
theorem aF (h : PS X st (jX X.K W m)) (hr : PSs X BW (jX X.K W n)) : PSs X (st :: BW) (jX X.K W (aP m n)) := DU (pss_cons h hr) fun D σ H h => LM h
theorem aM (ha : PE X a (cL X.K W ma)) : PS X (.Return (some a) pos) (jX X.K W (bG ma)) := gO (ps_ret ha) fun D σ H h => by
 obtain ⟨B, φ, S, ρ, I, E, f⟩ := h;exact cO I E f fun φ' S' d v H1 I1 X1 E1 r f1 => f1 φ' v H1 I1 Ext.refl r
theorem AA (ha : PE X a (cL X.K W ma)) (hs : swapsWith a none pos.line X.env = pure false := by rfl) : PS X (.Expr a pos) (jX X.K W (An ma)) := gO (ps_expr ha hs) fun D σ H h => by
 obtain ⟨B, φ, S, ρ, I, E, f⟩ := h;exact cO I E f fun φ' S' d v H1 I1 X1 E1 r f1 => f1 φ' σ H1 I1 Ext.refl E1
theorem bF {s1 s2 : List Stmt} (ht : PT X c (tO X.K W mt)) (ha : PSs X s1 (jX X.K W m)) (hb : PSs X s2 (jX X.K W n)) : PS X (.If c s1 s2 pos) (jX X.K W (bS mt m n)) := gO (ps_if ht ha hb) fun D σ H h => by
 obtain ⟨B, φ, S, ρ, I, E, f⟩ := h;refine cO I E f fun φ' S' d v H1 I1 X1 E1 r f1 => ?_
 have r : v = d := r;subst r;cases v with
 | true => exact ⟨B, φ', S', ρ, I1, E1, f1⟩
 | false => exact ⟨B, φ', S', ρ, I1, E1, f1⟩
inductive Tg where
 | nm (i : Nat) | tp (is : List Nat) | tn (i : Nat) (is : List Nat)
def DM : List Nat -> TGs
 | [] => gNil
 | i :: r => gCons (gName i) (DM r)
def GL (K : aC) : Tg -> TG
 | .nm i => gName i
 | .tp is => gTup K is.length (DM is)
 | .tn i is => gTup K 2 (gCons (gName i) (gCons (gTup K is.length (DM is)) gNil))
def putAll : List Nat -> List L2.V -> L2.St -> L2.St
 | i :: r, v :: vs, σ => putAll r vs (σ.set i (some v))
 | _, _, σ => σ
def oK : List Nat -> List PH.D -> Ev -> Ev
 | i :: r, v :: vs, σ => oK r vs (σ.set i (some (.dat v)))
 | _, _, σ => σ
def mR : Tg -> Vl -> Ev -> Option Ev
 | .nm i, d, ρ => some (ρ.set i (some d))
 | .tp is, .dat (.tup ds), ρ => if ds.length = is.length then some (oK is ds ρ) else none
 | .tp _, _, _ => none
 | .tn i is, .dat (.tup [d, .tup ds]), ρ => if ds.length = is.length then some (oK is ds (ρ.set i (some (.dat d)))) else none
 | .tn _ _, _, _ => none
def LH : Tg -> List Nat
 | .nm i => [i]
 | .tp is => is
 | .tn i is => i :: is
theorem xU {Q : L2.St -> Hp -> Prop} : ∀ {is : List Nat} {vs : List L2.V} {σ : L2.St} {H : Hp}, vs.length = is.length -> Q (putAll is vs σ) H -> DM is vs σ H Q
 | [], [], σ, H, _, q => ⟨rfl, q⟩
 | i :: is, v :: vs, σ, H, h, q => ⟨v, vs, rfl, xU (is := is) (by simpa using h) q⟩
 | [], _ :: _, _, _, h, _ => by simp at h
 | _ :: _, [], _, _, h, _ => by simp at h
theorem Ab : ∀ {is : List Nat} {ds : List PH.D} {vs : List L2.V} {ρ : Ev} {σ : L2.St}, RepL K (iW B φ S) H ds vs -> RepE K B φ S H ρ σ -> RepE K B φ S H (oK is ds ρ) (putAll is vs σ)
 | [], ds, vs, ρ, σ, h, E => by cases ds <;> cases vs <;> exact E
 | i :: is, [], vs, ρ, σ, h, E => by cases h; exact E
 | i :: is, d :: ds, vs, ρ, σ, ⟨v, ws, e, h1, h2⟩, E => by subst e; exact Ab (is := is) h2 (E.set (d := .dat d) h1 i)
def O0 : Tg -> L2.V -> List L2.V -> L2.St -> L2.St
 | .nm i, v, _, σ => σ.set i (some v)
 | .tp is, _, vs, σ => putAll is vs σ
 | .tn i is, _, v :: vs, σ => putAll is vs (σ.set i (some v))
 | .tn _ _, _, [], σ => σ
theorem xG {t : Tg} {d : Vl} {v : L2.V} {ρ ρ' : Ev} {Q : L2.St -> Hp -> Prop} (E : RepE K B φ S H ρ σ) (r : RepV K B φ S H d v) (h : mR t d ρ = some ρ') (q : ∀ vs, RepE K B φ S H ρ' (O0 t v vs σ) -> Q (O0 t v vs σ) H) : GL K t v σ H Q := by
 cases t with
 | nm i => cases h; exact q [] (E.set r i)
 | tp is =>
  cases d with
  | dat d =>
   cases d with
   | tup ds =>
    have h : (if ds.length = is.length then some (oK is ds ρ) else none) = some ρ' := h
    split at h
    ·rename_i hl
     cases h;obtain ⟨a, vs, rfl, h1, l⟩ := r;exact ⟨a, vs, rfl, h1, by rw [l.len, hl], xU (by rw [l.len, hl]) (q vs (Ab l E))⟩
    ·cases h
   | _ => cases h
  | _ => cases h
 | tn i is =>
  cases d with
  | dat d =>
   cases d with
   | tup xs =>
    cases xs with
    | nil => cases h
    | cons d0 xs =>
     cases xs with
     | nil => cases h
     | cons d1 xs =>
      cases xs with
      | cons _ _ => cases d1 <;> cases h
      | nil =>
       cases d1 with
       | tup ds =>
        have h : (if ds.length = is.length then some (oK is ds (ρ.set i (some (.dat d0)))) else none) = some ρ' := h
        split at h
        ·rename_i hl
         cases h;obtain ⟨a, vs, rfl, h1, v0, ws, rfl, r0, v1, us, rfl, ⟨b, zs, rfl, h2, l⟩, rfl⟩ := r;refine ⟨a, [v0, .ref b], rfl, h1, rfl, v0, _, rfl, .ref b, _, rfl, b, zs, rfl, h2, by rw [l.len, hl], ?_⟩
         refine xU (Q := fun σ' H' => gNil [] σ' H' Q) (by rw [l.len, hl]) ⟨rfl, ?_⟩
         exact q (v0 :: zs) (Ab l (E.set (d := .dat d0) r0 i))
        ·cases h
       | _ => cases h
   | _ => cases h
  | _ => cases h
def bK (a : FE) (t : Tg) : FS := fun ρ S => (a ρ S).toS ρ fun d S1 => match mR t d ρ with
 | some ρ' => .next ρ' S1
 | none => .stuck
theorem GM {t : Tg} (h : jX K W (bK ma t) D σ H) : tAsg (cL K W ma) (GL K t) D σ H := by
 obtain ⟨B, φ, S, ρ, I, E, f⟩ := h;refine cO I E f fun φ' S' d v H1 I1 X1 E1 r f1 => ?_
 split at f1
 ·rename_i ρ' q
  exact xG E1 r q fun vs E2 => f1 φ' _ H1 I1 Ext.refl E2
 ·exact f1.elim
theorem Ax {tg e : Expr} {t : Tg} (he : PE X e (cL X.K W ma)) (hg : PG X tg (GL X.K t)) (hs : swapsWithSole [tg] e pos.line X.env = pure false := by rfl) (hw : swappedStores [tg] e X.env = pure none := by rfl)
  (h1 : (assignEach [tg] X.env).map (·.2) = [assign tg X.env] := by rfl) : PS X (.Assign [tg] e pos) (jX X.K W (bK ma t)) := gO (ps_asg he hg hs hw h1) fun D σ H h => GM h
theorem aT {i : Nat} {x : Str} {e : Expr} {pos' : Pos} (hN : X.N.Nodup) (hi : X.N[i]? = some x) (hx : Loc X.env.scope x) (he : PE X e (cL X.K W ma)) (hs : swapsWith e (some (.Name x pos')) pos.line X.env = pure false := by rfl) (hf : X.fn x = true \/ X.env.scope.names.lookup x = some .local := by first | exact .inl rfl | exact .inr rfl | assumption) :
  PS X (.Assign [.Name x pos'] e pos) (jX X.K W (bK ma (.nm i))) := gO (ps_set hN hi hx he hs hf) fun D σ H h => GM (t := .nm i) h
def wipeE (ρ : Ev) : List Nat -> Ev
 | [] => ρ
 | v :: vs => (wipeE ρ vs).set v none
theorem RepE.wipeE {ρ : Ev} (E : RepE K B φ S H ρ σ) : ∀ is : List Nat, RepE K B φ S H (wipeE ρ is) σ
 | [] => E
 | i :: is => (RepE.wipeE E is).forget i
def gD (is : List Nat) (m : FS) : FS := fun ρ S => match m ρ S with
 | .next ρ' S' => .next (wipeE ρ' is) S'
 | .cnt ρ' S' => .cnt (wipeE ρ' is) S'
 | .brk ρ' S' => .brk (wipeE ρ' is) S'
 | o => o
theorem J9 {is : List Nat} (h : jX K W (gD is m) D σ H) : jX K W m D σ H := by
 obtain ⟨B, φ, S, ρ, I, E, f⟩ := h;refine ⟨B, φ, S, ρ, I, E, ?_⟩
 unfold gD at f;cases e : m ρ S with
 | next ρ' S' => rw [e] at f; exact fun φ' σ' H' I' X r => f φ' σ' H' I' X (r.wipeE is)
 | ret d S' => rw [e] at f; exact f
 | brk ρ' S' => rw [e] at f; exact fun φ' σ' H' I' X r => f φ' σ' H' I' X (r.wipeE is)
 | cnt ρ' S' => rw [e] at f; exact fun φ' σ' H' I' X r => f φ' σ' H' I' X (r.wipeE is)
 | err x d S' => rw [e] at f; exact f
 | stuck => rw [e] at f; exact f
theorem dF (is : List Nat) (h : PSs X BW (jX X.K W m)) : PSs X BW (jX X.K W (gD is m)) := DU h fun D σ H h => J9 h
abbrev FI := Ev -> aL -> Res (List PH.D)
def Ik (K : aC) (B : Addr -> Prop) (φ : List Addr) (S : aL) (H : Hp) (J : It) (ds : List PH.D) : Prop := ∀ φ1 S1 H1 B1, GInv K B1 φ1 S1 H1 -> Kp (iW B φ S) H (iW B1 φ1 S1) H1 ->
 (∀ i, i < ds.length -> J.go i H1) /\ J.stop ds.length H1 /\ ∀ i x H2 d, ds[i]? = some d -> J.yld i H1 x H2 -> GInv K B1 φ1 S1 H2 /\ Ext φ1 S1 H1 φ1 S1 H2 /\ Rep K (iW B1 φ1 S1) H2 d x
def RI (K : aC) : Rl (List PH.D) It := fun B φ S H ds J => Ik K B φ S H J ds
abbrev Iv (K : aC) (W : WX) (m : FI) : TI := rd K W (RI K) m
theorem BN {tg iter : Expr} {t u : TI} (h : PI X tg iter t) (i : ∀ σ H R, u σ H R -> t σ H R) : PI X tg iter u := ⟨fun pins s σ H R I q => h.run pins s σ H R I (i σ H R q)⟩
theorem Ext.kpB {B1 : Addr -> Prop} {φ1 : List Addr} {S1 : aL} {H1 : Hp} (h1 : ∀ a, B a -> B1 a) (h2 : ∀ a, H a ≠ none -> B1 a -> B a) (I : GInv K B φ S H) (x : Ext φ S H φ1 S1 H1) : Kp (iW B φ S) H (iW B1 φ1 S1) H1 where
 old := fun b o h n => by
  obtain ⟨h3, h4⟩ := x.old b o h (fun q => n (.inr q))
  exact ⟨h3, fun q => by
   rcases q with q | q
   ·exact n (.inl (h2 b (by rw [h]; simp) q))
   ·exact h4 q⟩
 tup := (x.kp I).tup
theorem M3 {v : L2.V} {ds : List PH.D} (I : GInv K B φ S H) (r : Rep K (iW B φ S) H (.lst ds) v) : ∃ a, v = .ref a /\ (∃ xs, SqL K H a xs) /\ Ik K B φ S H (Itl K a) ds := by
 obtain ⟨a, vs, rfl, nb, h1, l⟩ := r;refine ⟨a, rfl, ⟨vs, SqL.of h1⟩, fun φ1 S1 H1 B1 I1 X1 => ?_⟩
 have h2 := (X1.old a _ h1 nb).1;have l2 := RepL.kp X1 ds vs l;have hl := l.len;refine ⟨fun i hi => ⟨vs, vs[i], SqL.of h2, by simp [hl, hi]⟩, ⟨vs, SqL.of h2, by omega⟩, fun i x H2 d hd y => ?_⟩
 obtain ⟨rfl, y⟩ := y;obtain ⟨v', h3, h4⟩ := l2.get hd;rw [y vs (SqL.of h2)] at h3;cases h3;exact ⟨I1, Ext.refl, h4⟩
theorem OZ {v : L2.V} {ds : List PH.D} (I : GInv K B φ S H) (r : Rep K (iW B φ S) H (.tup ds) v) : ∃ a, v = .ref a /\ (∃ xs, SqT K H a xs) /\ Ik K B φ S H (Itt K a) ds := by
 obtain ⟨a, vs, rfl, h1, l⟩ := r;refine ⟨a, rfl, ⟨vs, h1⟩, fun φ1 S1 H1 B1 I1 X1 => ?_⟩
 have h2 : SqT K H1 a vs := SqT.kp X1.tup h1;have l2 := RepL.kp X1 ds vs l;have hl := l.len;refine ⟨fun i hi => ⟨vs, vs[i], h2, by simp [hl, hi]⟩, ⟨vs, h2, by omega⟩, fun i x H2 d hd y => ?_⟩
 obtain ⟨rfl, y⟩ := y;obtain ⟨v', h3, h4⟩ := l2.get hd;rw [y vs h2] at h3;cases h3;exact ⟨I1, Ext.refl, h4⟩
def itemsOf : Vl -> aL -> Res (List PH.D)
 | .dat (.lst ds), S => .ok ds S
 | .dat (.tup ds), S => .ok ds S
 | _, _ => .stuck
def gE (a : FE) : FI := fun ρ S => (a ρ S).bind itemsOf
theorem eV {tg : Expr} (ha : PE X a (cL X.K W ma)) : PI X tg a (Iv X.K W (gE ma)) := BN (FQ ha) fun σ H R h =>
 bT (k := fun x _ S => itemsOf x S) h fun B φ S ρ d v H1 I E r f => by
  unfold itemsOf at f;split at f
  ·obtain ⟨a, rfl, h1, h2⟩ := M3 I r
   exact tT ⟨h1, Fin.now f I h2⟩
  ·obtain ⟨a, rfl, h1, h2⟩ := OZ I r
   exact oC ⟨h1, Fin.now f I h2⟩
  ·exact f.elim
def gH (lo : Int) (n : Nat) : List PH.D := (mQ n).map fun (k : Nat) => PH.D.int (lo + (k : Int))
theorem Oa {lo : Int} {n : Nat} : Ik K B φ S H (Itr lo n) (gH lo n) := fun φ1 S1 H1 B1 I1 X1 => by
 refine ⟨fun i hi => by show i < n; simpa [gH] using hi, by show n <= _; simp [gH], fun i x H2 d hd y => ?_⟩
 obtain ⟨rfl, rfl⟩ := y;have : d = .int (lo + (i : Int)) := by
  unfold gH at hd;rw [bZ] at hd;cases q : (mQ n)[i]? with
  | none => rw [q] at hd; cases hd
  | some k =>
   rw [q] at hd;have := aI.mp q;obtain ⟨_, e⟩ := this;simp at e;subst e;cases hd;rfl
 subst this;exact ⟨I1, Ext.refl, rfl⟩
def oO (a : FE) : FI := fun ρ S => (a ρ S).bind fun x S1 => match x with
 | .dat (.int j) => if -(2 ^ 62) <= j /\ j < 2 ^ 62 then .ok (gH 0 j.toNat) S1 else .stuck
 | _ => .stuck
theorem lU {tg : Expr} (hg : Gl X "range") (hm : X.mg "range" = none) (ha : PE X a (cL X.K W ma)) (hs : starEach [a] X.env = [(false, eval a X.env)] := by rfl) : PI X tg (.Call (.Name "range" p) [a] [] pos) (Iv X.K W (oO ma)) := BN (pi_range1 hg hm (pa_cons ha pa_nil hs) hs) fun σ H R h =>
 bT (k := fun x _ S1 => match x with | Vl.dat (PH.D.int j) => if -(2 ^ 62) <= j /\ j < 2 ^ 62 then Res.ok (gH 0 j.toNat) S1 else .stuck | _ => .stuck) h fun B φ S ρ d v H1 I E r f => by
  split at f
  ·rename_i j
   cases r;split at f
   ·rename_i hj
    exact ⟨j, rfl, hj.1, hj.2, Fin.now f I Oa⟩
   ·exact f.elim
  ·exact f.elim
def dA : Nat -> List PH.D -> List PH.D
 | _, [] => []
 | n, d :: r => .tup [.int (n : Nat), d] :: dA (n + 1) r
theorem tG : ∀ (n : Nat) (ds : List PH.D), (dA n ds).length = ds.length
 | _, [] => rfl
 | n, d :: r => by simp [dA, tG (n + 1) r]
theorem yA : ∀ (n : Nat) (ds : List PH.D) (i : Nat), (dA n ds)[i]? = (ds[i]?).map fun d => PH.D.tup [.int ((n + i : Nat) : Int), d]
 | n, [], i => by simp [dA]
 | n, d :: r, 0 => by simp [dA]
 | n, d :: r, i + 1 => by
  simp only [dA, kZ];rw [yA (n + 1) r i, show n + 1 + i = n + (i + 1) by omega]
def vU (a : FE) : FI := fun ρ S => (a ρ S).bind fun x S1 => match x with
 | .dat (.lst ds) => .ok (dA 0 ds) S1
 | _ => .stuck
theorem M4 {a : Addr} {vs : List L2.V} {ds : List PH.D} (I : GInv K B φ S H) (nb : ¬ iW B φ S a) (h1 : H a = some (.lst vs)) (l : RepL K (iW B φ S) H ds vs) : Ik K B φ S H (Ite K a) (dA 0 ds) := fun φ1 S1 H1 B1 I1 X1 => by
 have h2 := (X1.old a _ h1 nb).1;have l2 := RepL.kp X1 ds vs l;have hl := l.len;rw [tG];refine ⟨fun i hi => ⟨vs, vs[i], SqL.of h2, by simp [hl, hi]⟩, ⟨vs, SqL.of h2, by omega⟩, fun i x H2 d hd y => ?_⟩
 obtain ⟨T, x', rfl, nT, rfl, y⟩ := y;rw [yA, jD] at hd;cases q : ds[i]? with
 | none => rw [q] at hd; cases hd
 | some d' =>
  rw [q] at hd;cases hd;obtain ⟨v', h3, h4⟩ := l2.get q;rw [y vs (SqL.of h2)] at h3;cases h3;have X2 := Ext.new (o := .tup [.int (i : Nat), x']) I1 nT;exact ⟨I1.new nT, X2, T, _, rfl, .inl (.inl upd_same), _, _, rfl, rfl, _, _, rfl, Rep.kp (X2.kp I1) _ _ h4, rfl⟩
theorem wA {elts : List Expr} {kk : Nat} {tpos : Pos} (hg : Gl X "enumerate") (hm : X.mg "enumerate" = none) (ha : PE X a (cL X.K W ma)) (hs : starEach [a] X.env = [(false, eval a X.env)] := by rfl) : PI X (.Tuple elts kk tpos) (.Call (.Name "enumerate" p) [a] [] pos) (Iv X.K W (vU ma)) := BN (pi_enum hg hm (pa_cons ha pa_nil hs) hs) fun σ H R h =>
 bT (k := fun x _ S1 => match x with | Vl.dat (PH.D.lst ds) => Res.ok (dA 0 ds) S1 | _ => .stuck) h fun B φ S ρ d v H1 I E r f => by
  split at f
  ·obtain ⟨a, vs, rfl, nb, h1, l⟩ := r
   exact ⟨a, vs, rfl, SqL.of h1, Fin.now f I (M4 I nb h1 l)⟩
  ·exact f.elim
def zN : List PH.D -> List PH.D -> List PH.D
 | a :: r, b :: s => .tup [a, b] :: zN r s
 | _, _ => []
theorem Dh : ∀ (xs ys : List PH.D) (i : Nat) (d : PH.D), (zN xs ys)[i]? = some d -> ∃ a b, xs[i]? = some a /\ ys[i]? = some b /\ d = .tup [a, b]
 | [], ys, i, d, h => by simp [zN] at h
 | _ :: _, [], i, d, h => by simp [zN] at h
 | a :: r, b :: s, 0, d, h => by simp [zN] at h; exact ⟨a, b, rfl, rfl, h.symm⟩
 | a :: r, b :: s, i + 1, d, h => by
  simp only [zN, kZ] at h;obtain ⟨x, y, h1, h2, h3⟩ := Dh r s i d h;exact ⟨x, y, by simpa using h1, by simpa using h2, h3⟩
theorem Dg : ∀ (xs ys : List PH.D), (zN xs ys).length = min xs.length ys.length
 | [], ys => by simp [zN]
 | _ :: _, [] => by simp [zN]
 | a :: r, b :: s => by simp [zN, Dg r s]
def OF (a b : FE) : FI := fun ρ S => (a ρ S).bind fun x S1 => (b ρ S1).bind fun y S2 => match x, y with
 | .dat (.lst ds), .dat (.lst es) => .ok (zN ds es) S2
 | _, _ => .stuck
theorem KY {elts : List Expr} {kk : Nat} {tpos : Pos} (hg : Gl X "zip") (hm : X.mg "zip" = none) (ha : PE X a (cL X.K W ma)) (hb : PE X b (cL X.K W mb)) (hs : starEach [a, b] X.env = (false, eval a X.env) :: starEach [b] X.env := by rfl) (hs2 : starEach [b] X.env = [(false, eval b X.env)] := by rfl) (hpl : (backTo pos (starEach [b] X.env)).any (·.1) = false := by rfl) : PI X (.Tuple elts kk tpos) (.Call (.Name "zip" p) [a, b] [] pos) (Iv X.K W (OF ma mb)) := BN (pi_zip hg hm (pa_cons ha (pa_cons hb pa_nil hs2) hs) hs hpl) fun σ H R h =>
 bT (k := fun x ρ S1 => (mb ρ S1).bind fun y S2 => match x, y with | Vl.dat (PH.D.lst ds), Vl.dat (PH.D.lst es) => Res.ok (zN ds es) S2 | _, _ => .stuck) h fun B φ S ρ d v H1 I E r f => gF I E f fun φ' S' d2 v2 H2 I2 X2 E2 r2 f2 => by
  split at f2
  ·rename_i ds es
   replace r := r.ext X2 I
   obtain ⟨a, vs, rfl, na, h1, l1⟩ := r;obtain ⟨b, ws, rfl, nb, h2, l2⟩ := r2;refine ⟨a, b, vs, ws, rfl, SqL.of h1, SqL.of h2, Fin.now f2 I2 fun φ3 S3 H3 B3 I3 X3 => ?_⟩
   have h1' := (X3.old a _ h1 na).1;have h2' := (X3.old b _ h2 nb).1;have l1' := RepL.kp X3 ds vs l1;have l2' := RepL.kp X3 es ws l2;have e1 := l1.len;have e2 := l2.len;rw [Dg];refine ⟨fun i hi => ?_, ⟨vs, ws, SqL.of h1', SqL.of h2', by omega⟩, fun i x H4 d hd y => ?_⟩
   ·have i1 : i < vs.length := by omega
    have i2 : i < ws.length := by omega
    exact ⟨vs, ws, vs[i], ws[i], SqL.of h1', SqL.of h2', by simp [i1], by simp [i2]⟩
   ·obtain ⟨T, x', y', rfl, nT, rfl, y1, y2⟩ := y
    obtain ⟨a', b', g1, g2, rfl⟩ := Dh ds es i d hd;obtain ⟨v1, k1, k2⟩ := l1'.get g1;obtain ⟨v2, k3, k4⟩ := l2'.get g2;rw [y1 vs (SqL.of h1')] at k1;rw [y2 ws (SqL.of h2')] at k3;cases k1;cases k3;have X4 := Ext.new (o := .tup [x', y']) I3 nT;exact ⟨I3.new nT, X4, T, _, rfl, .inl (.inl upd_same), _, _, rfl, Rep.kp (X4.kp I3) _ _ k2, _, _, rfl, Rep.kp (X4.kp I3) _ _ k4, rfl⟩
  ·exact f2.elim
end
section
variable {X : Cx} {W : WX} {e a b c : Expr} {es rest : List Expr} {pos p q p2 : Pos} {x y z : Str} {K : aC} {ma mb mc : FE} {mt mu : FT} {mas : FA} {mi : FI} {B : Addr -> Prop} {φ φ' : List Addr} {S S' : aL} {H H' : Hp} {σ : L2.St} {Q : VK} {m n : FS} {st : Stmt} {BW : List Stmt} {D : Ends} {t : Tg}
def loop (t : Tg) (mb : FS) : List PH.D -> Ev -> aL -> Out
 | [], ρ, S => .next ρ S
 | d :: r, ρ, S => match mR t (.dat d) ρ with
  | none => .stuck
  | some ρ1 => match mb ρ1 S with
   | .next ρ2 S2 => loop t mb r ρ2 S2
   | .cnt ρ2 S2 => loop t mb r ρ2 S2
   | .brk ρ2 S2 => .next ρ2 S2
   | .ret d S2 => .ret d S2
   | .err e ρ2 S2 => .err e ρ2 S2
   | .stuck => .stuck
def lN (mi : FI) (t : Tg) (mb : FS) : FS := fun ρ S => (mi ρ S).toS ρ fun ds S1 => loop t mb ds ρ S1
theorem LP (h : jX K W (lN mi t m) D σ H) : tFor (Iv K W mi) (GL K t) (jX K W m) D σ H := by
 obtain ⟨B, φ, S, ρ, I, E, f⟩ := h;refine cO I E f fun φ0 S0 ds J H0 I0 X0 E0 r f0 => ?_
 refine ⟨fun i k σ' H' => i <= ds.length /\ k = ds.length - i /\ ∃ φ1 S1 ρ1, GInv K B φ1 S1 H' /\ Ext φ0 S0 H0 φ1 S1 H' /\ RepE K B φ1 S1 H' ρ1 σ' /\ FinS K W D B φ1 S1 H' (loop t m (ds.drop i) ρ1 S1), ⟨_, nI _, rfl, φ0, S0, ρ, I0, Ext.refl, E0, f0⟩, ?_⟩
 rintro i k σ' H' ⟨hi, rfl, φ1, S1, ρ1, I1, X1, E1, f1⟩
 obtain ⟨hgo, hstop, hyld⟩ := r φ1 S1 H' B I1 (X1.kp I0)
 by_cases hlt : i < ds.length
 ·refine .inr ⟨hgo i hlt, fun σ2 H2 => i + 1 <= ds.length /\ ∃ φ2 S2 ρ2, GInv K B φ2 S2 H2 /\ Ext φ0 S0 H0 φ2 S2 H2 /\ RepE K B φ2 S2 H2 ρ2 σ2 /\ FinS K W D B φ2 S2 H2 (loop t m (ds.drop (i + 1)) ρ2 S2), fun σ2 H2 ⟨h1, h2⟩ => ⟨ds.length - (i + 1), by omega, h1, rfl, h2⟩, fun x H2 y => ?_⟩
  have hd : ds[i]? = some ds[i] := by simp [hlt]
  obtain ⟨I2, X2, r2⟩ := hyld i x H2 ds[i] hd y;rw [dB hlt] at f1;unfold loop at f1;have E2 := E1.ext X2 I1;have f2 := FinS.ext f1 X2;split at f2
  ·exact f2.elim
  ·rename_i ρ2 q2
   refine xG E2 (d := .dat ds[i]) r2 q2 fun vs E3 => ⟨B, φ1, S1, ρ2, I2, E3, ?_⟩
   cases q3 : m ρ2 S1 with
   | next ρ3 S3 =>
    rw [q3] at f2;exact fun φ3 σ3 H3 I3 X3 E4 => ⟨hlt, φ3, S3, ρ3, I3, X1.trans (X2.trans X3), E4, FinS.ext f2 X3⟩
   | cnt ρ3 S3 =>
    rw [q3] at f2;exact fun φ3 σ3 H3 I3 X3 E4 => ⟨hlt, φ3, S3, ρ3, I3, X1.trans (X2.trans X3), E4, FinS.ext f2 X3⟩
   | brk ρ3 S3 => rw [q3] at f2; exact f2
   | ret d S3 => rw [q3] at f2; exact f2
   | err e ρ3 S3 => rw [q3] at f2; exact f2
   | stuck => rw [q3] at f2; exact f2
 ·have e : i = ds.length := by omega
  subst e;rw [rL] at f1;exact .inl ⟨hstop, f1 φ1 σ' H' I1 Ext.refl E1⟩
theorem fL {tg iter : Expr} (hp : PassesOwn (model X.prog X.w) X.A X.env X.xe) (hc : X.calm = true) (hi : PI X tg iter (Iv X.K W mi)) (hg : PG X tg (GL X.K t)) (hb : PSs X BW (jX X.K W m))
  (hs : ∀ x, foldedSetIterable iter X.env x = pure x := by intro _; rfl) : PS X (.For tg iter BW [] pos) (jX X.K W (lN mi t m)) := gO (ps_for hp hc hi hg hb hs) fun D σ H h => LP h
def Di (mt : FT) (mb : FS) : Nat -> Ev -> aL -> Out
 | 0, _, _ => .stuck
 | n + 1, ρ, S => (mt ρ S).toS ρ fun c S1 => if c = true then (match mb ρ S1 with
   | .next ρ2 S2 => Di mt mb n ρ2 S2
   | .cnt ρ2 S2 => Di mt mb n ρ2 S2
   | .brk ρ2 S2 => .next ρ2 S2
   | .ret d S2 => .ret d S2
   | .err e ρ2 S2 => .err e ρ2 S2
   | .stuck => .stuck) else .next ρ S1
def Fe (k : Nat) (mt : FT) (mb : FS) : FS := fun ρ S => Di mt mb k ρ S
theorem Hg {k : Nat} (h : jX K W (Fe k mt m) D σ H) : tWhile (tO K W mt) (jX K W m) D σ H := by
 obtain ⟨B, φ, S, ρ, I, E, f⟩ := h;refine ⟨fun k σ' H' => ∃ φ1 S1 ρ1, GInv K B φ1 S1 H' /\ RepE K B φ1 S1 H' ρ1 σ' /\ FinS K W D B φ1 S1 H' (Di mt m k ρ1 S1), ⟨k, φ, S, ρ, I, E, f⟩, ?_⟩
 rintro k σ' H' ⟨φ1, S1, ρ1, I1, E1, f1⟩
 cases k with
 | zero => exact f1.elim
 | succ k =>
  refine cO I1 E1 f1 fun φ2 S2 d v H2 I2 X2 E2 r f2 => ?_
  have r : v = d := r;subst r;cases v with
  | false => exact f2 φ2 σ' H2 I2 Ext.refl E2
  | true =>
   refine ⟨fun σ3 H3 => ∃ φ1 S1 ρ1, GInv K B φ1 S1 H3 /\ RepE K B φ1 S1 H3 ρ1 σ3 /\ FinS K W D B φ1 S1 H3 (Di mt m k ρ1 S1), fun σ3 H3 h3 => ⟨k, Nat.lt_succ_self _, h3⟩, ⟨B, φ2, S2, ρ1, I2, E2, ?_⟩⟩
   rw [if_pos rfl] at f2;cases q3 : m ρ1 S2 with
   | next ρ3 S3 =>
    rw [q3] at f2;exact fun φ3 σ3 H3 I3 X3 E4 => ⟨φ3, S3, ρ3, I3, E4, FinS.ext f2 X3⟩
   | cnt ρ3 S3 =>
    rw [q3] at f2;exact fun φ3 σ3 H3 I3 X3 E4 => ⟨φ3, S3, ρ3, I3, E4, FinS.ext f2 X3⟩
   | brk ρ3 S3 => rw [q3] at f2; exact f2
   | ret d S3 => rw [q3] at f2; exact f2
   | err e ρ3 S3 => rw [q3] at f2; exact f2
   | stuck => rw [q3] at f2; exact f2
theorem KS {k : Nat} (hp : PassesOwn (model X.prog X.w) X.A X.env X.xe) (hc : PT X c (tO X.K W mt)) (hb : PSs X BW (jX X.K W m)) : PS X (.While c BW [] pos) (jX X.K W (Fe k mt m)) := gO (ps_while hp hc hb) fun D σ H h => Hg h
theorem sW : ∀ (vs : List Nat) (σ : L2.St) (j : Nat), (wipe σ vs)[j]? = if j ∈ vs then (σ[j]?).map (fun _ => none) else σ[j]?
 | [], σ, j => by simp [wipe]
 | v :: vs, σ, j => by
  unfold wipe;rw [bC, sW vs σ j, wipe_length]
  by_cases e : v = j
  ·subst e
   rw [if_pos rfl, if_pos (aW ..)]
   by_cases hl : v < σ.length
   ·rw [if_pos hl]; simp [hl]
   ·rw [if_neg hl]; simp [rO hl]
  ·rw [if_neg e]
   by_cases hm : j ∈ vs
   ·rw [if_pos hm, if_pos (aQ _ hm)]
   ·rw [if_neg hm, if_neg]
    intro h;rcases cJ.mp h with h | h
    ·exact e h.symm
    ·exact hm h
theorem AG {vs : List Nat} {σ : L2.St} {i : Nat} {v : Option L2.V} (hi : i ∈ vs) : wipe (σ.set i v) vs = wipe σ vs := by
 apply fP
 intro j;rw [sW, sW]
 by_cases hj : j ∈ vs
 ·rw [if_pos hj, if_pos hj, bC]
  by_cases e : i = j
  ·subst e
   rw [if_pos rfl]
   by_cases hl : i < σ.length
   ·rw [if_pos hl]; simp [hl]
   ·rw [if_neg hl]; simp [rO hl]
  ·rw [if_neg e]
 ·rw [if_neg hj, if_neg hj, bC, if_neg]
  intro e;subst e;exact hj hi
theorem xE {vs : List Nat} {σ : L2.St} : wipe (wipe σ vs) vs = wipe σ vs := by
 apply fP
 intro j;rw [sW]
 by_cases hj : j ∈ vs
 ·rw [if_pos hj, sW, if_pos hj]
  cases σ[j]? <;> rfl
 ·rw [if_neg hj]
theorem rP {vs : List Nat} : ∀ {is : List Nat} {ws : List L2.V} {σ : L2.St}, (∀ i ∈ is, i ∈ vs) -> wipe (putAll is ws σ) vs = wipe σ vs
 | [], ws, σ, _ => by cases ws <;> rfl
 | i :: is, [], σ, _ => rfl
 | i :: is, w :: ws, σ, h => by
  unfold putAll;rw [rP (is := is) fun j hj => h j (aQ _ hj), AG (h i (aW ..))]
theorem xF {vs : List Nat} {v : L2.V} {ws : List L2.V} (h : ∀ i ∈ LH t, i ∈ vs) : wipe (O0 t v ws σ) vs = wipe σ vs := by
 cases t with
 | nm i => exact AG (h i (by simp [LH]))
 | tp is => exact rP h
 | tn i is =>
  cases ws with
  | nil => rfl
  | cons w ws =>
   show wipe (putAll is ws (σ.set i (some w))) vs = _
   rw [rP fun j hj => h j (aQ _ hj), AG (h i (aW ..))]
theorem RepE.wipes {ρ : Ev} (E : RepE K B φ S H ρ σ) (vs : List Nat) : RepE K B φ S H (PH.wipeE ρ vs) (wipe σ vs) := by
 have hl : ∀ vs : List Nat, (PH.wipeE ρ vs).length = ρ.length := fun vs => by
  induction vs with
  | nil => rfl
  | cons v vs ih => simp [PH.wipeE, ih]
 have hg : ∀ (vs : List Nat) (i : Nat) (d : Vl), (PH.wipeE ρ vs)[i]? = some (some d) -> i ∉ vs /\ ρ[i]? = some (some d) := fun vs => by
  induction vs with
  | nil => intro i d h; exact ⟨by simp, h⟩
  | cons v vs ih =>
   intro i d h;unfold PH.wipeE at h;rw [bC] at h
   by_cases e : v = i
   ·rw [if_pos e] at h
    by_cases hv : v < (PH.wipeE ρ vs).length
    ·rw [if_pos hv] at h; cases h
    ·rw [if_neg hv] at h; cases h
   ·rw [if_neg e] at h
    obtain ⟨h1, h2⟩ := ih i d h;exact ⟨fun q => by
     rcases cJ.mp q with q | q
     ·exact e q.symm
     ·exact h1 q, h2⟩
 refine ⟨by rw [hl, wipe_length]; exact E.1, fun i d h => ?_⟩
 obtain ⟨h1, h2⟩ := hg vs i d h;obtain ⟨v, h3, h4⟩ := E.2 i d h2;exact ⟨v, by rw [sW, if_neg h1]; exact h3, h4⟩
def hC (B : Addr -> Prop) (a : Addr) : Addr -> Prop := fun b => B b \/ b = a
theorem GInv.plus {a : Addr} {o : HO} (I : GInv K B φ S H) (ha : H a = none) : GInv K (hC B a) φ S (upd H a o) where
 len := I.len
 ok := fun n c b h1 h2 => by
  have q := I.ok n c b h1 h2;have k : Kp (iW B φ S) H (iW (hC B a) φ S) (upd H a o) := Ext.kpB (B1 := hC B a) (fun _ h => .inl h) (fun b hb h => by
   rcases h with h | h
   ·exact h
   ·exact absurd (by rw [h]; exact ha) hb) I (Ext.new I ha)
  have hb : c ≠ .dead -> upd H a o b = H b := fun hc => upd_ne fun e => by
   subst e;exact I.fresh ha ⟨n, c, h1, hc, h2⟩
  have hV : ∀ {d : Vl} {v : L2.V}, RepV K B φ S H d v -> RepV K (hC B a) φ S (upd H a o) d v := fun {d v} r => by
   cases d with
   | dat d => exact Rep.kp k d v r
   | cel n => exact r
   | cels ns => obtain ⟨a', as, e1, e2, e3, e4⟩ := r; exact ⟨a', as, e1, (k.old _ _ e3 e2).2, (k.old _ _ e3 e2).1, e4⟩
   | scr ns => obtain ⟨a', e1, e2⟩ := r; exact ⟨a', e1, e2.keep fun o u h => by rw [upd_ne (ne_of_none h ha)]; exact h⟩
   | tc xs => obtain ⟨a', vs, e1, e2, e3⟩ := r; exact ⟨a', vs, e1, SqT.kp k.tup e2, e3.kp k (fun _ _ h => h)⟩
  have hF : ∀ {fs : List (Str × Vl)} {vs : List (Str × L2.V)}, RepF K B φ S H fs vs -> RepF K (hC B a) φ S (upd H a o) fs vs := fun {fs} => by
   induction fs with
   | nil => intro vs r; exact r
   | cons f fs ih => rintro vs ⟨v, ws, e, h1, h2⟩; exact ⟨v, ws, e, hV h1, ih h2⟩
  cases c with
  | dead => trivial
  | lst ds => obtain ⟨vs, e, r⟩ := q; exact ⟨vs, by rw [hb (by simp)]; exact e, RepL.kp k ds vs r⟩
  | ins C fs => obtain ⟨dx, vs, e, r⟩ := q; exact ⟨dx, vs, by rw [hb (by simp)]; exact e, hF r⟩
  | dct fs => obtain ⟨vs, e, r⟩ := q; exact ⟨vs, by rw [hb (by simp)]; exact e, hF r⟩
  | lv xs => obtain ⟨vs, e, r⟩ := q; exact ⟨vs, by rw [hb (by simp)]; exact e, cW hV r⟩
  | dki ks xs => obtain ⟨vs, e, r⟩ := q; exact ⟨vs, by rw [hb (by simp)]; exact e, cW hV r⟩
  | dkt ks xs => obtain ⟨vs, e, r⟩ := q; exact ⟨vs, by rw [hb (by simp)]; exact e, cW hV r⟩
 inj := I.inj
 blk := fun b h q => by
  rcases q with q | q
  ·exact I.blk b h q
  ·subst q; exact I.fresh ha h
 btr := fun b h => by
  rcases h with h | h
  ·obtain ⟨u, e⟩ := I.btr b h
   exact ⟨u, by rw [upd_ne (ne_of_none e ha)]; exact e⟩
  ·subst h; exact ⟨o, upd_same⟩
theorem RepV.less {a : Addr} {d : Vl} {v : L2.V} (r : RepV K (hC B a) φ S H d v) : RepV K B φ S H d v := by
 have k : Kp (iW (hC B a) φ S) H (iW B φ S) H := ⟨fun b o h n => ⟨h, fun q => n (by
  rcases q with q | q
  ·exact .inl (.inl q)
  ·exact .inr q)⟩, fun _ _ h => h⟩
 cases d with
 | dat d => exact Rep.kp k d v r
 | cel n => exact r
 | cels ns => obtain ⟨a', as, e1, e2, e3, e4⟩ := r; exact ⟨a', as, e1, (k.old _ _ e3 e2).2, e3, e4⟩
 | scr ns => exact r
 | tc xs => obtain ⟨a', vs, e1, e2, e3⟩ := r; exact ⟨a', vs, e1, SqT.kp k.tup e2, e3.kp k (fun _ _ h => h)⟩
theorem RepL.less {a : Addr} {ds : List PH.D} {vs : List L2.V} (r : RepL K (iW (hC B a) φ S) H ds vs) : RepL K (iW B φ S) H ds vs :=
 RepL.kp ⟨fun b o h n => ⟨h, fun q => n (by
  rcases q with q | q
  ·exact .inl (.inl q)
  ·exact .inr q)⟩, fun _ _ h => h⟩ ds vs r
theorem RepF.less {a : Addr} : ∀ {fs : List (Str × Vl)} {vs : List (Str × L2.V)}, RepF K (hC B a) φ S H fs vs -> RepF K B φ S H fs vs
 | [], vs, r => r
 | f :: fs, vs, ⟨v, ws, e, h1, h2⟩ => ⟨v, ws, e, h1.less, RepF.less h2⟩
theorem GInv.less {a : Addr} (I : GInv K (hC B a) φ S H) : GInv K B φ S H where
 len := I.len
 ok := fun n c b h1 h2 => by
  have q := I.ok n c b h1 h2;cases c with
  | dead => trivial
  | lst ds => obtain ⟨vs, e, r⟩ := q; exact ⟨vs, e, r.less⟩
  | ins C fs => obtain ⟨dx, vs, e, r⟩ := q; exact ⟨dx, vs, e, r.less⟩
  | dct fs => obtain ⟨vs, e, r⟩ := q; exact ⟨vs, e, r.less⟩
  | lv xs => obtain ⟨vs, e, r⟩ := q; exact ⟨vs, e, cW RepV.less r⟩
  | dki ks xs => obtain ⟨vs, e, r⟩ := q; exact ⟨vs, e, cW RepV.less r⟩
  | dkt ks xs => obtain ⟨vs, e, r⟩ := q; exact ⟨vs, e, cW RepV.less r⟩
 inj := I.inj
 blk := fun b h q => I.blk b h (.inl q)
 btr := fun b h => I.btr b (.inl h)
theorem Kp.plusPut {a : Addr} {acc : List L2.V} {o : HO} (ha : H a = some (.lst acc)) : Kp (iW (hC B a) φ S) H (iW (hC B a) φ S) (upd H a o) :=
 ⟨fun b o' h n => ⟨by
  rw [upd_ne]
  ·exact h
  ·intro e; subst e; exact n (.inl (.inr rfl)), n⟩, fun b w h => by
  have ne : b ≠ a := fun e => by
   subst e;rcases h with h | ⟨o', h⟩
   ·rw [ha] at h; cases h
   ·rw [ha] at h; cases h
  rcases h with h | ⟨o', h⟩
  ·exact .inl (by rw [upd_ne ne]; exact h)
  ·exact .inr ⟨o', by rw [upd_ne ne]; exact h⟩⟩
theorem RepV.plusPut {a : Addr} {acc : List L2.V} {o : HO} (ha : H a = some (.lst acc)) {d : Vl} {v : L2.V} (r : RepV K (hC B a) φ S H d v) : RepV K (hC B a) φ S (upd H a o) d v := by
 have k := Kp.plusPut (B := B) (φ := φ) (S := S) (o := o) ha;cases d with
 | dat d => exact Rep.kp k d v r
 | cel n => exact r
 | cels ns => obtain ⟨a', as, e1, e2, e3, e4⟩ := r; exact ⟨a', as, e1, (k.old _ _ e3 e2).2, (k.old _ _ e3 e2).1, e4⟩
 | scr ns =>
  obtain ⟨a', e1, e2⟩ := r;refine ⟨a', e1, e2.keep fun o u h => ?_⟩
  rw [upd_ne]
  ·exact h
  ·intro e; subst e; rw [ha] at h; cases h
 | tc xs => obtain ⟨a', vs, e1, e2, e3⟩ := r; exact ⟨a', vs, e1, SqT.kp k.tup e2, e3.kp k (fun _ _ h => h)⟩
theorem RepF.plusPut {a : Addr} {acc : List L2.V} {o : HO} (ha : H a = some (.lst acc)) : ∀ {fs : List (Str × Vl)} {vs : List (Str × L2.V)}, RepF K (hC B a) φ S H fs vs -> RepF K (hC B a) φ S (upd H a o) fs vs
 | [], vs, r => r
 | f :: fs, vs, ⟨v, ws, e, h1, h2⟩ => ⟨v, ws, e, h1.plusPut ha, RepF.plusPut ha h2⟩
theorem GInv.plusPut {a : Addr} {acc : List L2.V} {o : HO} (I : GInv K (hC B a) φ S H) (ha : H a = some (.lst acc)) : GInv K (hC B a) φ S (upd H a o) where
 len := I.len
 ok := fun n c b h1 h2 => by
  have q := I.ok n c b h1 h2;have k := Kp.plusPut (B := B) (φ := φ) (S := S) (o := o) ha;have hb : c ≠ .dead -> upd H a o b = H b := fun hc => upd_ne fun e => by
   subst e;exact I.blk b ⟨n, c, h1, hc, h2⟩ (.inr rfl)
  cases c with
  | dead => trivial
  | lst ds => obtain ⟨vs, e, r⟩ := q; exact ⟨vs, by rw [hb (by simp)]; exact e, RepL.kp k ds vs r⟩
  | ins C fs => obtain ⟨dx, vs, e, r⟩ := q; exact ⟨dx, vs, by rw [hb (by simp)]; exact e, r.plusPut ha⟩
  | dct fs => obtain ⟨vs, e, r⟩ := q; exact ⟨vs, by rw [hb (by simp)]; exact e, r.plusPut ha⟩
  | lv xs => obtain ⟨vs, e, r⟩ := q; exact ⟨vs, by rw [hb (by simp)]; exact e, cW (RepV.plusPut ha) r⟩
  | dki ks xs => obtain ⟨vs, e, r⟩ := q; exact ⟨vs, by rw [hb (by simp)]; exact e, cW (RepV.plusPut ha) r⟩
  | dkt ks xs => obtain ⟨vs, e, r⟩ := q; exact ⟨vs, by rw [hb (by simp)]; exact e, cW (RepV.plusPut ha) r⟩
 inj := I.inj
 blk := I.blk
 btr := fun b h => by
  by_cases e : b = a
  ·subst e; exact ⟨o, upd_same⟩
  ·obtain ⟨u, h1⟩ := I.btr b h
   exact ⟨u, by rw [upd_ne e]; exact h1⟩
theorem RepV.plus {a : Addr} {o : HO} (I : GInv K B φ S H) (ha : H a = none) {d : Vl} {v : L2.V} (r : RepV K B φ S H d v) : RepV K (hC B a) φ S (upd H a o) d v := by
 have k : Kp (iW B φ S) H (iW (hC B a) φ S) (upd H a o) := Ext.kpB (B1 := hC B a) (fun _ h => .inl h) (fun b hb h => by
  rcases h with h | h
  ·exact h
  ·exact absurd (by rw [h]; exact ha) hb) I (Ext.new I ha)
 cases d with
 | dat d => exact Rep.kp k d v r
 | cel n => exact r
 | cels ns => obtain ⟨a', as, e1, e2, e3, e4⟩ := r; exact ⟨a', as, e1, (k.old _ _ e3 e2).2, (k.old _ _ e3 e2).1, e4⟩
 | scr ns => obtain ⟨a', e1, e2⟩ := r; exact ⟨a', e1, e2.keep fun o u h => by rw [upd_ne (ne_of_none h ha)]; exact h⟩
 | tc xs => obtain ⟨a', vs, e1, e2, e3⟩ := r; exact ⟨a', vs, e1, SqT.kp k.tup e2, e3.kp k (fun _ _ h => h)⟩
theorem RepE.plus {a : Addr} {o : HO} {ρ : Ev} (I : GInv K B φ S H) (ha : H a = none) (E : RepE K B φ S H ρ σ) : RepE K (hC B a) φ S (upd H a o) ρ σ :=
 ⟨E.1, fun i d h => by
  obtain ⟨v, h1, h2⟩ := E.2 i d h;exact ⟨v, h1, h2.plus I ha⟩⟩
theorem RepE.plusPut {a : Addr} {acc : List L2.V} {o : HO} {ρ : Ev} (ha : H a = some (.lst acc)) (E : RepE K (hC B a) φ S H ρ σ) : RepE K (hC B a) φ S (upd H a o) ρ σ :=
 ⟨E.1, fun i d h => by
  obtain ⟨v, h1, h2⟩ := E.2 i d h;exact ⟨v, h1, h2.plusPut ha⟩⟩
theorem Fin.done {cl : Bool} {a : Addr} {ds : List PH.D} {vs : List L2.V} {H0 : Hp} {φ0 : List Addr} {S0 : aL} (f : Fin K W σ (RepV K) B φ0 S0 H0 (PH.newL cl ds S) Q) (I : GInv K (hC B a) φ S H) (X0 : Ext φ0 S0 H0 φ S H) (h0 : H0 a = none) (nB : ¬ B a) (ha : H a = some (.lst vs)) (l : RepL K (iW (hC B a) φ S) H ds vs) : Q (.ref a) H := by
 have na : ¬ kU φ S a := fun q => I.blk a q (.inr rfl)
 unfold PH.newL at f;cases cl with
 | false =>
  refine f φ _ H I.less X0 ⟨a, vs, rfl, fun q => ?_, ha, l.less⟩
  rcases q with q | q
  ·exact nB q
  ·exact na q
 | true =>
  have X1 : Ext φ0 S0 H0 (φ ++ [a]) (S ++ [.lst ds]) H := {
   old := fun b o h n => by
    obtain ⟨h1, h2⟩ := X0.old b o h n;refine ⟨h1, fun q => ?_⟩
    rcases (jP I.len).mp q with q | ⟨_, q⟩
    ·exact h2 q
    ·subst q; rw [h0] at h; cases h
   ids := fun n b h => by
    have := X0.ids n b h;rw [aK (aI.mp this).1]; exact this }
  have hS : ∀ b, iW B (φ ++ [a]) (S ++ [.lst ds]) b -> iW (hC B a) φ S b := fun b q => by
   rcases q with q | q
   ·exact .inl (.inl q)
   ·rcases (jP I.len).mp q with q | ⟨_, q⟩
    ·exact .inr q
    ·exact .inl (.inr q)
  have k : Kp (iW (hC B a) φ S) H (iW B (φ ++ [a]) (S ++ [.lst ds])) H := ⟨fun b o h n => ⟨h, fun q => n (hS b q)⟩, fun _ _ h => h⟩
  have hφ : ∀ (n : Nat) (b : Addr), φ[n]? = some b -> (φ ++ [a])[n]? = some b := fun n b h => by rw [aK (aI.mp h).1]; exact h
  have hV : ∀ {d : Vl} {v : L2.V}, RepV K (hC B a) φ S H d v -> RepV K B (φ ++ [a]) (S ++ [.lst ds]) H d v := fun {d v} r => by
   cases d with
   | dat d => exact Rep.kp k d v r
   | cel n => obtain ⟨b, e1, e2⟩ := r; exact ⟨b, e1, hφ _ _ e2⟩
   | cels ns => obtain ⟨a', as, e1, e2, e3, e4⟩ := r; exact ⟨a', as, e1, (k.old _ _ e3 e2).2, e3, A3 hφ ns as e4⟩
   | scr ns => exact r
   | tc xs => obtain ⟨a', vs, e1, e2, e3⟩ := r; exact ⟨a', vs, e1, SqT.kp k.tup e2, e3.kp k hφ⟩
  have hF : ∀ {fs : List (Str × Vl)} {vs : List (Str × L2.V)}, RepF K (hC B a) φ S H fs vs -> RepF K B (φ ++ [a]) (S ++ [.lst ds]) H fs vs := fun {fs} => by
   induction fs with
   | nil => intro vs r; exact r
   | cons f fs ih => rintro vs ⟨v, ws, e, h1, h2⟩; exact ⟨v, ws, e, hV h1, ih h2⟩
  refine f (φ ++ [a]) _ H ?_ X1 ⟨a, rfl, by rw [<- I.len]; exact jN⟩
  exact {
   len := by simp [I.len]
   ok := fun n c b h1 h2 => by
    by_cases hn : n < S.length
    ·rw [aK hn] at h1
     rw [aK (by rw [I.len]; exact hn)] at h2
     have q := I.ok n c b h1 h2;cases c with
     | dead => trivial
     | lst es => obtain ⟨us, e, r⟩ := q; exact ⟨us, e, RepL.kp k es us r⟩
     | ins C fs => obtain ⟨dx, us, e, r⟩ := q; exact ⟨dx, us, e, hF r⟩
     | dct fs => obtain ⟨us, e, r⟩ := q; exact ⟨us, e, hF r⟩
     | lv xs => obtain ⟨us, e, r⟩ := q; exact ⟨us, e, cW hV r⟩
     | dki ks xs => obtain ⟨us, e, r⟩ := q; exact ⟨us, e, cW hV r⟩
     | dkt ks xs => obtain ⟨us, e, r⟩ := q; exact ⟨us, e, cW hV r⟩
    ·have e : n = S.length := by
      have := (aI.mp h1).1;simp at this;omega
     subst e;rw [cA (bH _)] at h1;rw [<- I.len, cA (bH _)] at h2;simp at h1 h2;subst h1 h2;exact ⟨vs, ha, RepL.kp k ds vs l⟩
   inj := fun n m c c' b h1 h2 h3 h4 h5 h6 => by
    have key : ∀ (n : Nat) (c : Cell), (S ++ [.lst ds])[n]? = some c -> (n < S.length /\ S[n]? = some c) \/ n = S.length := fun n c h => by
     by_cases hn : n < S.length
     ·rw [aK hn] at h; exact .inl ⟨hn, h⟩
     ·have := (aI.mp h).1
      simp at this;exact .inr (by omega)
    have kφ : ∀ n : Nat, n < S.length -> (φ ++ [a])[n]? = φ[n]? := fun n hn => aK (by rw [I.len]; exact hn)
    have kp : (φ ++ [a])[S.length]? = some a := by rw [<- I.len]; simp
    rcases key n c h1 with ⟨hn, e1⟩ | e1 <;> rcases key m c' h3 with ⟨hm, e2⟩ | e2
    ·rw [kφ n hn] at h5
     rw [kφ m hm] at h6;exact I.inj n m c c' b e1 h2 e2 h4 h5 h6
    ·subst e2
     rw [kp] at h6;cases h6;rw [kφ n hn] at h5;exact absurd ⟨n, c, e1, h2, h5⟩ na
    ·subst e1
     rw [kp] at h5;cases h5;rw [kφ m hm] at h6;exact absurd ⟨m, c', e2, h4, h6⟩ na
    ·omega
   blk := fun b h => by
    rcases (jP I.len).mp h with h | ⟨_, h⟩
    ·exact fun q => I.blk b h (.inl q)
    ·subst h; exact nB
   btr := fun b h => I.btr b (.inl h) }
end
section
variable {X : Cx} {W : WX} {e a b c : Expr} {es rest : List Expr} {pos p q p2 : Pos} {x y z : Str} {K : aC} {ma mb mc : FE} {mt mu : FT} {mas : FA} {mi mj : FI} {B : Addr -> Prop} {φ φ' : List Addr} {S S' : aL} {H H' : Hp} {σ : L2.St} {Q : VK} {m n : FS} {st : Stmt} {BW : List Stmt} {D : Ends} {t t1 : Tg}
def hW : FT := fun _ S => .ok true S
theorem LL {Q : Bool -> Hp -> Prop} (h : tO K W hW σ H Q) : tYes σ H Q := by
 obtain ⟨B, φ, S, ρ, I, E, f⟩ := h;exact Fin.now (v := true) f I rfl
theorem NB {es : List Expr} {t u : TT} (h : PTs X es t) (i : ∀ σ H Q, u σ H Q -> t σ H Q) : PTs X es u := ⟨fun pins s σ H Q I q => h.run pins s σ H Q I (i σ H Q q)⟩
theorem eK : PTs X [] (tO X.K W hW) := NB pts_nil fun σ H Q h => LL h
theorem H6 {c : Expr} (h : PT X c (tO X.K W mt)) : PTs X [c] (tO X.K W mt) := pts_one h
def lB (t : Tg) (mt : FT) (me : FE) (ρ : Ev) : List PH.D -> aL -> Res (List PH.D)
 | [], S => .ok [] S
 | d :: r, S => match mR t (.dat d) ρ with
  | none => .stuck
  | some ρ1 => match mt ρ1 S with
   | .ok b S1 => if b = true then (match me ρ1 S1 with
     | .ok (.dat e) S2 => (match lB t mt me ρ r S2 with
      | .ok es S3 => .ok (e :: es) S3
      | _ => .stuck)
     | _ => .stuck) else lB t mt me ρ r S1
   | _ => .stuck
def A4 (cl : Bool) (mi : FI) (t : Tg) (mt : FT) (me : FE) (vs : List Nat) : FE := fun ρ S => (mi ρ S).bind fun ds S1 => if ds.length <= sizeLine then (match lB t mt me (wipeE ρ vs) ds S1 with
 | .ok es S2 => newL cl es S2
 | _ => .stuck) else .stuck
theorem JB {cl : Bool} {me : FE} {vs : List Nat} (ht : ∀ i ∈ LH t, i ∈ vs) (h : cL K W (A4 cl mi t mt me vs) σ H Q) : tLc (Iv K W mi) (GL K t) (tO K wNo mt) (cL K wNo me) vs σ H Q := by
 refine bT (k := fun ds ρ S1 => if ds.length <= sizeLine then (match lB t mt me (wipeE ρ vs) ds S1 with | .ok es S2 => newL cl es S2 | _ => .stuck) else .stuck) h fun B φ0 S0 ρ ds J H0 I0 E0 r f0 => ?_
 intro A hA;split at f0
 case isFalse => exact f0.elim
 rename_i hsz;cases q0 : lB t mt me (wipeE ρ vs) ds S0 with
 | stuck => rw [q0] at f0; exact f0.elim
 | err e S' => rw [q0] at f0; exact f0.elim
 | ok es0 Sz =>
 rw [q0] at f0;have nB : ¬ B A := fun q => by obtain ⟨u, e⟩ := I0.btr A q; rw [hA] at e; cases e
 have IA : GInv K (hC B A) φ0 S0 (upd H0 A (.lst [])) := I0.plus hA;have b2 : ∀ a, H0 a ≠ none -> hC B A a -> B a := fun b hb h => by
  rcases h with h | h
  ·exact h
  ·exact absurd (by rw [h]; exact hA) hb
 -- what is known at a turn
 refine ⟨fun i k H' => i <= ds.length /\ k = ds.length - i /\ ∃ φ1 S1 us acc rest, GInv K (hC B A) φ1 S1 H' /\ Ext φ0 S0 H0 φ1 S1 H' /\ RepE K (hC B A) φ1 S1 H' (wipeE ρ vs) (wipe σ vs) /\ H' A = some (.lst us) /\ us.length <= i /\ RepL K (iW (hC B A) φ1 S1) H' acc us /\ lB t mt me (wipeE ρ vs) (ds.drop i) S1 = .ok rest Sz /\ acc ++ rest = es0,
  ⟨_, nI _, rfl, φ0, S0, [], [], es0, IA, Ext.new I0 hA, (E0.wipes vs).plus I0 hA, upd_same, bH _, rfl, q0, rfl⟩, ?_⟩
 rintro i k H' ⟨hi, rfl, φ1, S1, us, acc, rs, I1, X1, E1, hA1, hul, l1, g1, ea⟩
 obtain ⟨hgo, hstop, hyld⟩ := r φ1 S1 H' (hC B A) I1 (X1.kpB (fun _ h => .inl h) b2 I0)
 by_cases hlt : i < ds.length
 ·refine .inr ⟨hgo i hlt, fun H2 => i + 1 <= ds.length /\ ∃ φ1 S1 us acc rest, GInv K (hC B A) φ1 S1 H2 /\ Ext φ0 S0 H0 φ1 S1 H2 /\ RepE K (hC B A) φ1 S1 H2 (wipeE ρ vs) (wipe σ vs) /\ H2 A = some (.lst us) /\ us.length <= i + 1 /\ RepL K (iW (hC B A) φ1 S1) H2 acc us /\ lB t mt me (wipeE ρ vs) (ds.drop (i + 1)) S1 = .ok rest Sz /\ acc ++ rest = es0, fun H2 ⟨h1, h2⟩ => ⟨ds.length - (i + 1), by omega, h1, rfl, h2⟩, fun x H2 y => ?_⟩
  have hd : ds[i]? = some ds[i] := by simp [hlt]
  obtain ⟨I2, X2, r2⟩ := hyld i x H2 ds[i] hd y;rw [dB hlt] at g1;unfold lB at g1;split at g1
  case h_1 => cases g1
  rename_i ρ2 q2;have hA2 := (X2.old A _ hA1 fun q => I1.blk A q (.inr rfl)).1
  refine xG (E1.ext X2 I1) (d := .dat ds[i]) r2 q2 fun ws E3 => ⟨by rw [xF ht, xE], hC B A, φ1, S1, ρ2, I2, E3, ?_⟩
  split at g1
  case h_2 => cases g1
  rename_i b S3 q3;rw [q3];intro φ3 b' H3 I3 X3 rb;have rb : b' = b := rb;subst rb;have hA3 := (X3.old A _ hA2 fun q => I2.blk A q (.inr rfl)).1
  have Xa := X1.trans (X2.trans X3);cases b' with
  | false =>
   exact ⟨hlt, φ3, S3, us, acc, rs, I3, Xa, (E1.ext X2 I1).ext X3 I2, hA3, Nat.le_succ_of_le hul, X3.repL I2 (X2.repL I1 l1), g1, ea⟩
  | true =>
   rw [if_pos rfl];rw [if_pos rfl] at g1;refine ⟨hC B A, φ3, S3, ρ2, I3, E3.ext X3 I2, ?_⟩
   split at g1
   case h_2 => cases g1
   rename_i e S4 q4;rw [q4];intro φ4 v4 H4 I4 X4 r4;have hA4 := (X4.old A _ hA3 fun q => I3.blk A q (.inr rfl)).1
   split at g1
   case h_2 => cases g1
   rename_i es S5 q5;cases g1;have l4 : RepL K (iW (hC B A) φ4 S4) H4 (acc ++ [e]) (us ++ [v4]) := (X4.repL I3 (X3.repL I2 (X2.repL I1 l1))).snoc r4;refine ⟨us, hA4, by omega, hlt, φ4, S4, us ++ [v4], acc ++ [e], es, I4.plusPut hA4, ?_, (((E1.ext X2 I1).ext X3 I2).ext X4 I3).plusPut hA4, upd_same, by simp; omega, RepL.kp (Kp.plusPut hA4) _ _ l4, q5, by rw [<- ea]; simp⟩
   exact ⟨fun b o h nb => by
    obtain ⟨h1, h2⟩ := (Xa.trans X4).old b o h nb;exact ⟨by rw [upd_ne (fun e => by subst e; rw [hA] at h; cases h)]; exact h1, h2⟩, (Xa.trans X4).ids⟩
 ·have e : i = ds.length := by omega
  subst e;rw [rL] at g1;cases g1;rw [hG] at ea;subst ea;exact .inl ⟨hstop, Fin.done f0 I1 X1 hA nB hA1 l1⟩
theorem sL {cl : Bool} {me : FE} {elt tg iter : Expr} {ifs : List Expr} {scope : Scope} {own : List (Str × Nat)} (hc : X.calm = true) (hN : X.N.Nodup) (hi : PI X tg iter (Iv X.K W mi)) (ok : BlkOk X.N X.env.scope scope own)
  (hg : ∀ (s : Shared) (H : Hp) (C : Addr) (cl : List (Str × Addr)) (fp : List Addr), PG (X.blk s H scope (compEnvC scope cl C X.env) fp) tg (GL X.K t)) (ht : ∀ (s : Shared) (H : Hp) (C : Addr) (cl : List (Str × Addr)) (fp : List Addr), PTs (X.blk s H scope (compEnvC scope cl C X.env) fp) ifs (tO X.K wNo mt))
  (he : ∀ (s : Shared) (H : Hp) (C : Addr) (cl : List (Str × Addr)) (fp : List Addr), PE (X.blk s H scope (compEnvC scope cl C X.env) fp) elt (cL X.K wNo me)) (hs : ∀ x, foldedSetIterable iter X.env x = pure x := by intro _; rfl) (hv : ∀ i ∈ LH t, i ∈ own.map (·.2) := by decide) :
  PE X (.ListComp elt [⟨tg, iter, ifs, 0⟩] scope pos) (cL X.K W (A4 cl mi t mt me (own.map (·.2)))) := cG (pe_lc hc hN hi ok hg ht he hs) fun σ H Q h => JB hv h
theorem Ea {i : Nat} {y : Str} {py : Pos} {cl : Bool} {me : FE} {elt tg iter : Expr} {ifs : List Expr} {scope : Scope} {own : List (Str × Nat)} {spos : Pos} (hc : X.calm = true) (hN : X.N.Nodup) (hy : X.N[i]? = some y) (hyl : X.env.scope.names.lookup y = some .local)
  (hsw : swapsWith (.ListComp elt [⟨tg, iter, ifs, 0⟩] scope pos) (some (.Name y py)) spos.line X.env = pure true) (hi : PI X tg iter (Iv X.K W mi)) (ok : BlkOk X.N X.env.scope scope own)
  (hg : ∀ (s : Shared) (H : Hp) (C : Addr) (cl : List (Str × Addr)) (fp : List Addr), PG (X.blk s H scope (compEnvC scope cl C X.env) fp) tg (GL X.K t)) (ht : ∀ (s : Shared) (H : Hp) (C : Addr) (cl : List (Str × Addr)) (fp : List Addr), PTs (X.blk s H scope (compEnvC scope cl C X.env) fp) ifs (tO X.K wNo mt))
  (he : ∀ (s : Shared) (H : Hp) (C : Addr) (cl : List (Str × Addr)) (fp : List Addr), PE (X.blk s H scope (compEnvC scope cl C X.env) fp) elt (cL X.K wNo me)) (hs : ∀ x, foldedSetIterable iter X.env x = pure x := by intro _; rfl) (hv : ∀ i ∈ LH t, i ∈ own.map (·.2) := by decide) :
  PS X (.Assign [.Name y py] (.ListComp elt [⟨tg, iter, ifs, 0⟩] scope pos) spos) (jX X.K W (bK (A4 cl mi t mt me (own.map (·.2))) (.nm i))) := gO (ps_setLc hc hN hy hyl hsw hi ok hg ht he hs) fun D σ H h => by
 obtain ⟨B, φ, S, ρ, I, E, f⟩ := h;refine JB hv (cO I E f fun φ' S' d v H1 I1 X1 E1 r f1 => ?_)
 exact f1 φ' _ H1 I1 Ext.refl (E1.set r i)
end
section
variable {X : Cx} {W : WX} {e a b c o i : Expr} {es rest : List Expr} {pos p q p2 tpos apos cpos : Pos} {x y z : Str} {K : aC} {ma mb mc mo mx : FE} {mt mt1 mu : FT} {mas : FA} {mi mj : FI} {B : Addr -> Prop} {φ φ' : List Addr} {S S' : aL} {H H' : Hp} {σ : L2.St} {Q : VK} {m n : FS} {st : Stmt} {BW : List Stmt} {D : Ends} {t t1 : Tg}
def Eh (x y : Vl) (S : aL) : Res Vl := match x, y with
 | .cel n, .dat d => (match S[n]? with
  | some (.lst ds) => if ds.length < sizeLine then .ok (.dat .non) (S.set n (.lst (ds ++ [d]))) else .stuck
  | _ => .stuck)
 | _, _ => .stuck
theorem Kq {n : Nat} {ds ds' : List PH.D} {v v' : L2.V} {d' : Vl} {vs vs' : List L2.V} {a : Addr} (I : GInv K B φ S H) (hn : S[n]? = some (.lst ds)) (ha : φ[n]? = some a) (l : RepL K (iW B φ S) H ds' vs') (r : RepV K B φ S H d' v')
  (f : Fin K W σ (RepV K) B φ S H (.ok d' (S.set n (.lst ds'))) Q) : Q v' (upd H a (.lst vs')) := by
 have X1 := Ext.put (H := H) (o := .lst vs') (x := .lst ds') hn (by simp) ha (by simp)
 have I1 : GInv K B φ (S.set n (.lst ds')) (upd H a (.lst vs')) := I.put hn (by simp) ha (by simp) ⟨vs', upd_same, X1.repL I l⟩
 exact f φ v' _ I1 X1 (r.ext X1 I)
theorem OE : ∀ {x : L2.V} {y : L2.V} {d e : Vl}, GInv K B φ S H -> RepV K B φ S H d x -> RepV K B φ S H e y -> Fin K W σ (RepV K) B φ S H (Eh d e S) Q -> HI x [y] H Q := fun {x y d e} I r1 r2 f => by
 unfold Eh at f;split at f
 ·rename_i n d
  obtain ⟨a, rfl, h1⟩ := r1;split at f
  ·rename_i ds q
   obtain ⟨vs, h2, l⟩ := I.ok n _ a q h1;split at f
   ·rename_i hl
    exact ⟨vs, h2, by rw [l.len]; exact hl, Kq (v := .non) (v' := .non) (d' := .dat .non) (vs := vs) I q h1 (l.snoc r2) rfl f⟩
   ·exact f.elim
  ·exact f.elim
 ·exact f.elim
theorem Pq {d e : Vl} {v : L2.V} (I : GInv K B φ S H) (r : RepV K B φ S H d v) (h : ∃ ds, lA S d = some ds) : tyV K "list" v H := by
 obtain ⟨ds, q⟩ := h;obtain ⟨a, vs, rfl, h1, l⟩ := jT I q r;exact .inl ⟨rfl, vs, SqL.of h1⟩
def I6 (a b : FE) : FE := fun ρ S => (a ρ S).bind fun x S1 => match lA S1 x with
 | some _ => (b ρ S1).bind fun y S2 => Eh x y S2
 | none => .stuck
theorem Ki (ha : PE X a (cL X.K W ma)) (hb : PE X b (cL X.K W mb)) (hs : starEach [b] X.env = (false, eval b X.env) :: starEach [] X.env := by rfl) (hbase : attributeBase a "append" X.env (eval a X.env) = eval a X.env := by rfl) (hline : (apos.endLine == cpos.line) = true := by rfl)
  (hfew : ((backTo cpos (starEach [b] X.env)).all (fun x => !x.1) && (backToKw cpos (keywordEach [] X.env)).all (fun x => x.1.isSome)
   && decide ([b].length + ([] : List Keyword).length + (if ([] : List Keyword).isEmpty then 0 else 1) < 30)) = true := by rfl)
  (hpl : (backTo cpos (starEach ([] : List Expr) X.env)).any (·.1) = false := by rfl) : PE X (.Call (.Attribute a "append" apos) [b] [] cpos) (cL X.K W (I6 ma mb)) :=
 cG (pe_bm PySem.F.plainAttrs_list PySem.F.slot_list_append PySem.F.type_list_append Ai ha (pa_cons hb pa_nil hs) hbase hfew hline hs hpl) fun σ H Q h =>
  bT (k := fun x ρ S1 => match lA S1 x with | some _ => (mb ρ S1).bind fun y S2 => Eh x y S2 | none => .stuck) h fun B φ S ρ d v H1 I E r f => by
   split at f
   ·rename_i ds q
    exact ⟨Pq (e := d) I r ⟨ds, q⟩, gF I E f fun φ' S' d2 v2 H2 I2 X2 E2 r2 f2 => OE I2 (r.ext X2 I) r2 f2⟩
   ·exact f.elim
def fPop (x : Vl) (S : aL) : Res Vl := match x with
 | .cel n => (match S[n]? with
  | some (.lst ds) => (match ds[ds.length - 1]? with
   | some d => .ok (.dat d) (S.set n (.lst ds.dropLast))
   | none => .stuck)
  | _ => .stuck)
 | _ => .stuck
def setC (x : Vl) (k : Int) (d : PH.D) (S : aL) : Option aL := match x with
 | .cel n => (match S[n]? with
  | some (.lst ds) => if 0 <= k /\ k.toNat < ds.length then some (S.set n (.lst (ds.set k.toNat d))) else none
  | _ => none)
 | _ => none
theorem GO {x : Vl} {k : Int} {d : PH.D} {v u : L2.V} {Qh : Hp -> Prop} (I : GInv K B φ S H) (r : RepV K B φ S H x v) (rd' : Rep K (iW B φ S) H d u) (h : setC x k d S = some S') (q : ∀ H', GInv K B φ S' H' -> Ext φ S H φ S' H' -> Qh H') : HG v (.int k) u H Qh := by
 unfold setC at h;split at h
 ·rename_i n
  obtain ⟨a, rfl, h1⟩ := r;split at h
  ·rename_i ds q1
   split at h
   ·rename_i hk
    cases h;obtain ⟨vs, h2, l⟩ := I.ok n _ a q1 h1;have X1 := Ext.put (H := H) (o := .lst (vs.set k.toNat u)) (x := .lst (ds.set k.toNat d)) q1 (by simp) h1 (by simp)
    exact ⟨vs, h2, hk.1, by rw [l.len]; exact hk.2, q _ (I.put q1 (by simp) h1 (by simp) ⟨_, upd_same, X1.repL I (l.set rd' _)⟩) X1⟩
   ·cases h
  ·cases h
 ·cases h
def yV (a o i : FE) : FS := fun ρ S => (a ρ S).toS ρ fun v S1 => (o ρ S1).toS ρ fun x S2 => (i ρ S2).toS ρ fun k S3 => match v, k with
 | .dat d, .dat (.int k) => (match setC x k d S3 with
  | some S4 => .next ρ S4
  | none => .stuck)
 | _, _ => .stuck
theorem H7 (ha : PE X a (cL X.K W ma)) (ho : PE X o (cL X.K W mo)) (hi : PE X i (cL X.K W mx)) (hs : swapsWithSole [.Subscript o i tpos] a pos.line X.env = pure false := by rfl) (hw : swappedStores [.Subscript o i tpos] a X.env = pure none := by rfl)
  (h1 : (assignEach [.Subscript o i tpos] X.env).map (·.2) = [assign (.Subscript o i tpos) X.env] := by rfl)
  (hz : ∀ v, assign (.Subscript o i tpos) X.env v = (do
   let ov <- holding [v] (eval o X.env)
   let iv <- holding [v, ov] (eval i X.env)
   standAt tpos
   holding [v, ov, iv] (setItem ov iv v)
   release [v, ov, iv] []) := by intro _; rfl) : PS X (.Assign [.Subscript o i tpos] a pos) (jX X.K W (yV ma mo mx)) := gO (ps_asg ha (pg_sub ho hi Bo hz) hs hw h1) fun D σ H h => by
 obtain ⟨B, φ, S, ρ, I, E, f⟩ := h;refine cO I E f fun φ1 S1 d1 v1 H1 I1 X1 E1 r1 f1 => cO I1 E1 f1 fun φ2 S2 d2 v2 H2 I2 X2 E2 r2 f2 => cO I2 E2 f2 fun φ3 S3 d3 v3 H3 I3 X3 E3 r3 f3 => ?_
 split at f3
 ·rename_i d k
  cases r3;split at f3
  ·rename_i S4 q
   exact GO I3 (r2.ext X3 I2) ((r1.ext X2 I1).ext X3 I2) q fun H' I' X' => f3 φ3 σ H' I' X' (E3.ext X' I3)
  ·exact f3.elim
 ·exact f3.elim
def K0 (x : Vl) (k : Int) (S : aL) : Option PH.D := match x with
 | .cel n => (match S[n]? with
  | some (.lst ds) => if 0 <= k then ds[k.toNat]? else none
  | _ => none)
 | _ => none
theorem MA {x : Vl} {k : Int} {d : PH.D} {v : L2.V} {Q' : VK} (I : GInv K B φ S H) (r : RepV K B φ S H x v) (h : K0 x k S = some d) (q : ∀ u, Rep K (iW B φ S) H d u -> Q' u H) : HH v (.int k) H Q' := by
 unfold K0 at h;split at h
 ·rename_i n
  obtain ⟨a, rfl, h1⟩ := r;split at h
  ·rename_i ds q1
   split at h
   ·rename_i hk
    obtain ⟨vs, h2, l⟩ := I.ok n _ a q1 h1;obtain ⟨u, h3, h4⟩ := l.get h;exact ⟨vs, u, h2, hk, h3, q u h4⟩
   ·cases h
  ·cases h
 ·cases h
def kG (g : Int -> Int -> Int) (o i e : FE) : FS := fun ρ S => (o ρ S).toS ρ fun x S1 => (i ρ S1).toS ρ fun k S2 => match k with
 | .dat (.int k) => (match K0 x k S2 with
  | some (.int u) => (e ρ S2).toS ρ fun w S3 => (match w with
   | .dat (.int w) => (match setC x k (.int (g u w)) S3 with
    | some S4 => .next ρ S4
    | none => .stuck)
   | _ => .stuck)
  | _ => .stuck)
 | _ => .stuck
theorem Du {g : Int -> Int -> Int} {r : R2} {me : FE} (hr : ∀ i j H Q, Q (.int (g i j)) H -> r (.int i) (.int j) H Q) (h : jX K W (kG g mo mx me) D σ H) : tAugS (cL K W mo) (cL K W mx) (cL K W me) HH (cIp r) HG D σ H := by
 obtain ⟨B, φ, S, ρ, I, E, f⟩ := h;refine cO I E f fun φ1 S1 d1 v1 H1 I1 X1 E1 r1 f1 => cO I1 E1 f1 fun φ2 S2 d2 v2 H2 I2 X2 E2 r2 f2 => ?_
 split at f2
 ·rename_i k
  cases r2;split at f2
  ·rename_i u q
   refine MA I2 (r1.ext X2 I1) q fun u' ru => ?_
   cases ru;refine cO I2 E2 f2 fun φ3 S3 d3 v3 H3 I3 X3 E3 r3 f3 => ?_
   split at f3
   ·rename_i w
    cases r3;split at f3
    ·rename_i S4 q4
     refine hr _ _ _ _ ?_
     exact GO I3 ((r1.ext X2 I1).ext X3 I2) (d := .int (g u w)) rfl q4 fun H' I' X' => f3 φ3 σ H' I' X' (E3.ext X' I3)
    ·exact f3.elim
   ·exact f3.elim
  ·exact f2.elim
 ·exact f2.elim
theorem Fy {me : FE} (ho : PE X o (cL X.K W mo)) (hi : PE X i (cL X.K W mx)) (he : PE X e (cL X.K W me)) (ha : ∀ ov iv new, augStore i ov iv new = (do holding [new, ov, iv] (setItem ov iv new); release [new, ov, iv] []; pure .next) := by intros; rfl) : PS X (.AugAssign (.Subscript o i tpos) .Add e pos) (jX X.K W (kG (fun x y => x + y) mo mx me)) :=
 gO (JK ho hi he Gn ha) fun D σ H h => Du (fun _ _ _ _ q => q) h
theorem nU {me : FE} (ho : PE X o (cL X.K W mo)) (hi : PE X i (cL X.K W mx)) (he : PE X e (cL X.K W me)) (ha : ∀ ov iv new, augStore i ov iv new = (do holding [new, ov, iv] (setItem ov iv new); release [new, ov, iv] []; pure .next) := by intros; rfl) : PS X (.AugAssign (.Subscript o i tpos) .Sub e pos) (jX X.K W (kG (fun x y => x - y) mo mx me)) :=
 gO (JK ho hi he M5 ha) fun D σ H h => Du (fun _ _ _ _ q => q) h
def Je (g : Int -> Int -> Int) (k : Nat) (e : FE) : FS := fun ρ S => match lk ρ k with
 | some (.dat (.int u)) => (e ρ S).toS ρ fun w S1 => (match w with
  | .dat (.int w) => .next (ρ.set k (some (.dat (.int (g u w))))) S1
  | _ => .stuck)
 | _ => .stuck
theorem LQ {g : Int -> Int -> Int} {k : Nat} {r : R2} {me : FE} (hr : ∀ i j H Q, Q (.int (g i j)) H -> r (.int i) (.int j) H Q) (h : jX K W (Je g k me) D σ H) : tAug k (cL K W me) (cIp r) D σ H := by
 obtain ⟨B, φ, S, ρ, I, E, f⟩ := h;unfold Je at f;split at f
 ·rename_i u q
  obtain ⟨v, h1, h2⟩ := E.2 k _ (Ji q);cases h2;refine ⟨_, h1, cO I E f fun φ3 S3 d3 v3 H3 I3 X3 E3 r3 f3 => ?_⟩
  split at f3
  ·cases r3
   exact hr _ _ _ _ (f3 φ3 _ H3 I3 Ext.refl (E3.set (d := .dat (.int (g _ _))) (v := .int (g _ _)) rfl k))
  ·exact f3.elim
 ·exact f.elim
theorem IT {k : Nat} {me : FE} {pos' : Pos} (hN : X.N.Nodup) (hi : X.N[k]? = some x) (hx : Loc X.env.scope x) (he : PE X e (cL X.K W me)) (hf : X.fn x = true \/ X.env.scope.names.lookup x = some .local := by first | exact .inl rfl | exact .inr rfl | assumption) : PS X (.AugAssign (.Name x pos') .Add e pos) (jX X.K W (Je (fun x y => x + y) k me)) :=
 gO (ps_aug hN hi hx he Gn hf) fun D σ H h => LQ (fun _ _ _ _ q => q) h
def mPar (i j : Nat) (a b : FE) : FS := fun ρ S => (a ρ S).toS ρ fun x S1 => (b ρ S1).toS ρ fun y S2 => .next ((ρ.set i (some x)).set j (some y)) S2
end
abbrev FD := List Vl -> aL -> Res Vl
def spF (K : aC) (m : FD) : Sp := fun vs H Q E => ∃ B φ S ds, GInv K B φ S H /\ RepVs K B φ S H ds vs /\ Fin K (fun c x _ H => E c x H) [] (RepV K) B φ S H (m ds S) Q
section
variable {X : Cx} {W : WX} {e a b c o i : Expr} {es rest : List Expr} {pos p q p2 tpos apos cpos : Pos} {x y z : Str} {K : aC} {ma mb mc mo mx : FE} {mt mt1 mu : FT} {mas : FA} {mi mj : FI} {B : Addr -> Prop} {φ φ' : List Addr} {S S' : aL} {H H' : Hp} {σ : L2.St} {Q : VK} {m n : FS} {st : Stmt} {BW : List Stmt} {D : Ends} {t t1 : Tg} {ps : List Str} {md : FD} {j k : Nat}
theorem Fin.toE {r : Res Vl} (f : Fin K W σ (RepV K) B φ S H r Q) : Fin K (fun c x _ H => WE W σ c x H) [] (RepV K) B φ S H r Q := by
 cases r with
 | ok d S' => exact f
 | err e S' => exact f
 | stuck => exact f
def aR (md : FD) (as : FA) : FE := fun ρ S => (as ρ S).bind md
theorem aN (F : kW X.prog X.w X.K X.mg X.base j x ps (spF X.K md)) (hr : Room k X.A) (tk : Takes X W) (ha : PA X (e :: es) (JM X.K W mas)) (hjk : j <= k := by decide) (hg : Gl X x := by rfl) (hdb : (x == ("__debug__" : Str)) = false := by decide)
  (he : starEach (e :: es) X.env = (false, eval e X.env) :: starEach es X.env := by rfl) (hpl : (backTo pos (starEach es X.env)).any (·.1) = false := by rfl) : PE X (.Call (.Name x p) (e :: es) [] pos) (cL X.K W (aR md mas)) := by
 obtain ⟨fd, F, hm, hk, hb⟩ := F;refine cG (pe_callS (E := WE W) F (hr.mono hjk) hg hm hk hb (fun σ => passAt tk σ) ha hdb he hpl) fun σ H Q h => ?_
 exact bT (k := fun ds _ S => md ds S) h fun B φ S ρ d v H1 I E r f => ⟨B, φ, S, d, I, r, f.toE⟩
mutual
def F3 (n : Nat) : TIt -> Bool
 | .inl _ => true
 | .inr m => decide (m < n)
 | .tup xs => Av n xs
def Av (n : Nat) : List TIt -> Bool
 | [] => true
 | x :: xs => F3 n x && Av n xs
end
theorem EK {n : Nat} : ∀ xs : List TIt, Av n xs = xs.all (F3 n)
 | [] => by simp [Av]
 | x :: xs => by rw [Av, EK xs, jR]
def Vl.below (n : Nat) : Vl -> Bool
 | .dat _ => true
 | .cel m => decide (m < n)
 | .cels ms => ms.all fun m => decide (m < n)
 | .scr _ => true
 | .tc xs => xs.all (F3 n)
def Cell.below (n : Nat) : Cell -> Bool
 | .dead => true
 | .lst _ => true
 | .ins _ fs => fs.all fun f => f.2.below n
 | .dct fs => fs.all fun f => f.2.below n
 | .lv xs => xs.all fun x => x.below n
 | .dki _ xs => xs.all fun x => x.below n
 | .dkt _ xs => xs.all fun x => x.below n
mutual
theorem EL {m n : Nat} (h : m <= n) : ∀ x : TIt, F3 m x = true -> F3 n x = true
 | .inl _, _ => by rw [F3]
 | .inr k, q => by
  rw [F3, decide_eq_true_eq] at q ⊢;omega
 | .tup xs, q => by
  rw [F3] at q ⊢;exact C6 h xs q
theorem C6 {m n : Nat} (h : m <= n) : ∀ xs : List TIt, Av m xs = true -> Av n xs = true
 | [], _ => by rw [Av]
 | x :: xs, q => by
  rw [Av, dM] at q ⊢;exact ⟨EL h x q.1, C6 h xs q.2⟩
end
def trunc (n : Nat) (r : Res Vl) : Res Vl := match r with
 | .ok d S => if d.below n && ((S.take n).all fun c => c.below n) then .ok d (S.take n) else .stuck
 | .err e S => if (S.take n).all fun c => c.below n then .err e (S.take n) else .stuck
 | .stuck => .stuck
def cC : Out -> Res Vl
 | .ret d S => .ok d S
 | .next _ S => .ok (.dat .non) S
 | .err e _ S => .err e S
 | _ => .stuck
def envOf (n : Nat) (ds : List Vl) : Ev := ds.map some ++ pM (n - ds.length) none
def run (n np : Nat) (mb : FS) : FD := fun ds S => if ds.length = np then cC (mb (envOf n ds) S) else .stuck
def Ct (n np : Nat) (mb : FS) : FD := fun ds S => if ds.length = np then trunc S.length (cC (mb (envOf n ds) S)) else .stuck
theorem uX {α : Type} {n m : Nat} {l : List α} (h : m < n) : (l.take n)[m]? = l[m]? := by
 rw [eI, if_pos h]
theorem jH {n : Nat} {a : Addr} (h : kU (φ.take n) (S.take n) a) : kU φ S a := by
 obtain ⟨m, c, h1, h2, h3⟩ := h;rw [eI] at h1 h3
 by_cases hm : m < n
 ·rw [if_pos hm] at h1 h3; exact ⟨m, c, h1, h2, h3⟩
 ·rw [if_neg hm] at h1; cases h1
mutual
theorem RepI.takeN {n : Nat} {K : aC} {Bk Bk' : Addr -> Prop} {φ : List Addr} {H : Hp} (k : Kp Bk H Bk' H) : ∀ {x : TIt} {v : L2.V}, RepI K Bk φ H x v -> F3 n x = true -> RepI K Bk' (φ.take n) H x v
 | .inl d, v, r, _ => Rep.kp k d v r
 | .inr m, v, ⟨b, q1, q2⟩, h => ⟨b, q1, by rw [F3] at h; rw [uX (of_decide_eq_true h)]; exact q2⟩
 | .tup xs, v, ⟨a, vs, h1, h2, h3⟩, h => ⟨a, vs, h1, SqT.kp k.tup h2, RepIs.takeM k h3 (by rw [F3] at h; exact h)⟩
theorem RepIs.takeM {n : Nat} {K : aC} {Bk Bk' : Addr -> Prop} {φ : List Addr} {H : Hp} (k : Kp Bk H Bk' H) : ∀ {xs : List TIt} {vs : List L2.V}, RepIs K Bk φ H xs vs -> Av n xs = true -> RepIs K Bk' (φ.take n) H xs vs
 | [], vs, r, _ => r
 | x :: xs, vs, ⟨v, ws, e, h1, h2⟩, h => by
  rw [Av, dM] at h;exact ⟨v, ws, e, RepI.takeN k h1 h.1, RepIs.takeM k h2 h.2⟩
end
theorem RepIs.takeN {n : Nat} {K : aC} {Bk Bk' : Addr -> Prop} {φ : List Addr} {H : Hp} (k : Kp Bk H Bk' H) {xs : List TIt} {vs : List L2.V} (r : RepIs K Bk φ H xs vs) (h : xs.all (F3 n) = true) : RepIs K Bk' (φ.take n) H xs vs := RepIs.takeM k r (by rw [EK]; exact h)
theorem RepV.take {n : Nat} {d : Vl} {v : L2.V} (r : RepV K B φ S H d v) (h : d.below n = true) : RepV K B (φ.take n) (S.take n) H d v := by
 have k : Kp (iW B φ S) H (iW B (φ.take n) (S.take n)) H := ⟨fun b o h nb => ⟨h, fun q => nb (by
  rcases q with q | q
  ·exact .inl q
  ·exact .inr (jH q))⟩, fun _ _ h => h⟩
 cases d with
 | dat d => exact Rep.kp k d v r
 | cel m =>
  obtain ⟨a, e, h1⟩ := r;exact ⟨a, e, by rw [uX (of_decide_eq_true h)]; exact h1⟩
 | cels ms =>
  obtain ⟨a, as, e1, e2, e3, e4⟩ := r;refine ⟨a, as, e1, (k.old _ _ e3 e2).2, e3, ?_⟩
  rw [<- e4]
  apply nZ
  intro m hm;exact uX (of_decide_eq_true (bA.mp h m hm))
 | scr ns => exact r
 | tc xs => obtain ⟨a, vs, e1, e2, e3⟩ := r; exact ⟨a, vs, e1, SqT.kp k.tup e2, RepIs.takeN k e3 h⟩
theorem RepF.take {n : Nat} : ∀ {fs : List (Str × Vl)} {vs : List (Str × L2.V)}, RepF K B φ S H fs vs -> (fs.all fun f => f.2.below n) = true -> RepF K B (φ.take n) (S.take n) H fs vs
 | [], vs, r, _ => r
 | f :: fs, vs, ⟨v, ws, e, h1, h2⟩, h => by
  simp only [jR, dM] at h;exact ⟨v, ws, e, h1.take h.1, RepF.take h2 h.2⟩
theorem RepVs.take {n : Nat} : ∀ {fs : List Vl} {vs : List L2.V}, RepVs K B φ S H fs vs -> (fs.all fun f => f.below n) = true -> RepVs K B (φ.take n) (S.take n) H fs vs
 | [], vs, r, _ => r
 | f :: fs, vs, ⟨v, ws, e, h1, h2⟩, h => by
  simp only [jR, dM] at h;exact ⟨v, ws, e, h1.take h.1, RepVs.take h2 h.2⟩
theorem GInv.take {n : Nat} (I : GInv K B φ S H) (h : ((S.take n).all fun c => c.below n) = true) : GInv K B (φ.take n) (S.take n) H where
 len := by rw [rM, rM, I.len]
 ok := fun m c a h1 h2 => by
  have hc := bA.mp h c (bU h1);rw [eI] at h1 h2
  by_cases hm : m < n
  ·rw [if_pos hm] at h1 h2
   have q := I.ok m c a h1 h2;have k : Kp (iW B φ S) H (iW B (φ.take n) (S.take n)) H := ⟨fun b o h nb => ⟨h, fun q => nb (by
    rcases q with q | q
    ·exact .inl q
    ·exact .inr (jH q))⟩, fun _ _ h => h⟩
   cases c with
   | dead => trivial
   | lst ds => obtain ⟨vs, e, r⟩ := q; exact ⟨vs, e, RepL.kp k ds vs r⟩
   | ins C fs => obtain ⟨dx, vs, e, r⟩ := q; exact ⟨dx, vs, e, r.take hc⟩
   | dct fs => obtain ⟨vs, e, r⟩ := q; exact ⟨vs, e, r.take hc⟩
   | lv xs => obtain ⟨vs, e, r⟩ := q; exact ⟨vs, e, r.take hc⟩
   | dki ks xs => obtain ⟨vs, e, r⟩ := q; exact ⟨vs, e, r.take hc⟩
   | dkt ks xs => obtain ⟨vs, e, r⟩ := q; exact ⟨vs, e, r.take hc⟩
  ·rw [if_neg hm] at h1; cases h1
 inj := fun i j d d' b h1 h2 h3 h4 h5 h6 => by
  rw [eI] at h1 h3 h5 h6
  by_cases hi : i < n
  ·by_cases hj : j < n
   ·rw [if_pos hi] at h1 h5
    rw [if_pos hj] at h3 h6;exact I.inj i j d d' b h1 h2 h3 h4 h5 h6
   ·rw [if_neg hj] at h3; cases h3
  ·rw [if_neg hi] at h1; cases h1
 blk := fun b h => I.blk b (jH h)
 btr := I.btr
theorem Ext.take {n : Nat} {φ0 : List Addr} {S0 : aL} {H0 : Hp} (x : Ext φ0 S0 H0 φ S H) (hn : φ0.length <= n) : Ext φ0 S0 H0 (φ.take n) (S.take n) H :=
 ⟨fun b o h nb => ⟨(x.old b o h nb).1, fun q => (x.old b o h nb).2 (jH q)⟩, fun m a h => by
  have := (aI.mp h).1;rw [uX (by omega)]
  exact x.ids m a h⟩
theorem Fin.trunc {r : Res Vl} {n : Nat} (f : Fin K W σ (RepV K) B φ S H (PH.trunc n r) Q) (I : GInv K B φ S H) (hn : n = S.length) : Fin K W σ (RepV K) B φ S H r Q := by
 have hl : φ.length <= n := by rw [hn, I.len]; exact bH _
 cases r with
 | ok d S' =>
  unfold PH.trunc at f;dsimp only at f;split at f
  ·rename_i h
   obtain ⟨h1, h2⟩ := Bool.and_eq_true_iff.mp h;exact fun φ' v H' I' X' r' => f (φ'.take n) v H' (I'.take h2) (X'.take hl) (r'.take h1)
  ·exact f.elim
 | err e S' =>
  unfold PH.trunc at f;dsimp only at f;split at f
  ·rename_i h
   refine fun φ' c x H' I' X' r' => f (φ'.take n) c x H' (I'.take h) (X'.take hl) ⟨r'.1, ?_⟩
   rcases r'.2 with h0 | ⟨d, vs, e1, e2, e3⟩
   ·exact .inl h0
   ·refine .inr ⟨d, vs, e1, e2, RepL.kp ⟨fun b o h nb => ⟨h, fun q => nb (by
     rcases q with q | q
     ·exact .inl q
     ·exact .inr (jH q))⟩, fun _ _ h => h⟩ _ _ e3⟩
  ·exact f.elim
 | stuck => exact f
theorem Kl {ds : List Vl} {vs : List L2.V} {N : List Str} (r : RepVs K B φ S H ds vs) : RepE K B φ S H (envOf N.length ds) (start N vs) := by
 have hl := r.len;have hg : ∀ {ds : List Vl} {vs : List L2.V}, RepVs K B φ S H ds vs -> ∀ (i : Nat) (d : Vl), ds[i]? = some d -> ∃ v, vs[i]? = some v /\ RepV K B φ S H d v := fun {ds} => by
  induction ds with
  | nil => intro vs r i d h; simp at h
  | cons d ds ih =>
   rintro vs ⟨v, ws, e, h1, h2⟩ i d' h
   subst e;cases i with
   | zero => simp at h; subst h; exact ⟨v, rfl, h1⟩
   | succ i =>
    obtain ⟨v', h3, h4⟩ := ih h2 i d' (by simpa using h)
    exact ⟨v', by simpa using h3, h4⟩
 unfold envOf L2.start;refine ⟨by simp [hl], fun i d h => ?_⟩
 by_cases hi : i < ds.length
 ·rw [aK (by simpa using hi)] at h
  rw [aK (by simp [hl, hi])]
  rw [bZ] at h ⊢;cases q : ds[i]? with
  | none => rw [q] at h; cases h
  | some d' =>
   rw [q] at h;have : d' = d := by simpa using h
   subst this;obtain ⟨v, h1, h2⟩ := hg r i d' q;exact ⟨v, by rw [h1]; rfl, h2⟩
 ·rw [cA (by simpa using rO hi)] at h
  rw [List.getElem?_replicate] at h
  split at h <;> cases h
theorem Ec {mb : FS} {E : XK} {ds : List Vl} {vs : List L2.V} {N : List Str} (I : GInv K B φ S H) (r : RepVs K B φ S H ds vs) (f : Fin K (fun c x _ H => E c x H) [] (RepV K) B φ S H (cC (mb (envOf N.length ds) S)) Q) : jX K (fun c x _ H => E c x H) mb { nx := fun _ H' => Q .non H', rt := Q } (start N vs) H := by
 refine ⟨B, φ, S, envOf N.length ds, I, Kl r, ?_⟩
 unfold cC at f;cases q : mb (envOf N.length ds) S with
 | next ρ' S' => rw [q] at f; exact fun φ' σ' H' I' X' _ => f φ' _ H' I' X' rfl
 | ret d S' => rw [q] at f; exact f
 | brk ρ' S' => rw [q] at f; exact f.elim
 | cnt ρ' S' => rw [q] at f; exact f.elim
 | err e ρ' S' => rw [q] at f; exact fun φ' σ' c x H' I' X' _ r' => f φ' c x H' I' X' r'
 | stuck => rw [q] at f; exact f
end
section
variable {P : Program} {w : World} {K : aC} {mg : Str -> Option Value} {base : Heap}
structure Runs (md : FD) (n np : Nat) (mb : FS) : Prop where
 ok : ∀ ds S, ds.length = np -> md ds S = cC (mb (envOf n ds) S) \/ md ds S = trunc S.length (cC (mb (envOf n ds) S))
 no : ∀ ds S, ds.length ≠ np -> md ds S = .stuck
theorem Runs.plain {n np : Nat} {mb : FS} : Runs (run n np mb) n np mb := ⟨fun ds S h => .inl (by unfold run; rw [if_pos h]), fun ds S h => by unfold run; rw [if_neg h]⟩
theorem Runs.cut {n np : Nat} {mb : FS} : Runs (Ct n np mb) n np mb := ⟨fun ds S h => .inr (by unfold Ct; rw [if_pos h]), fun ds S h => by unfold Ct; rw [if_neg h]⟩
theorem Ci {md : FD} {n np : Nat} {mb : FS} (R : Runs md n np mb) : ∀ vs H Q E, spF K md vs H Q E -> vs.length = np := fun vs H Q E ⟨B, φ, S, ds, I, r, f⟩ => by
 rw [r.len]
 by_cases h : ds.length = np
 ·exact h
 ·rw [R.no ds S h] at f; exact f.elim
theorem AJ {md : FD} {np : Nat} {mb : FS} {N : List Str} (R : Runs md N.length np mb) {vs : List L2.V} {H : Hp} {Q : VK} {E : XK} (h : spF K md vs H Q E) : jX K (fun c x _ H => E c x H) mb { nx := fun _ H' => Q .non H', rt := Q } (start N vs) H := by
 obtain ⟨B, φ, S, ds, I, r, f⟩ := h
 by_cases hl : ds.length = np
 ·rcases R.ok ds S hl with e | e
  ·rw [e] at f; exact Ec I r f
  ·rw [e] at f; exact Ec I r (Fin.trunc f I rfl)
 ·rw [R.no ds S hl] at f; exact f.elim
theorem okF {x : Str} {st : Stmt} {N ps : List Str} {k : Nat} {md : FD} {mb : FS} (F : mJ K x st) (g : mg x = some (.ref (He.ga K x))) (S : FnScope N ps (defScope st)) (R : Runs md N.length ps.length mb)
  (bnd : ∀ (kV doc pm : Value) (an : Option Addr) (cdv ct : Value) (us : List Value), us.length = ps.length -> bindArgs (gP x x (defArgs st) (defBody st) (defScope st) .none kV doc pm an cdv ct) ⟨us, []⟩ = pure (ps.zip us))
  (hbody : ∀ (cdv : Value) (A : Around) (outer : List Env) (s : Shared) (H : Hp) (E : XK), Room k (A.deeper (envOfC x (defScope st) s.heap.objs.size (He.ga K x) cdv)) ->
   PSs (cxOf (L2.CX P w) P w K mg base N x (defScope st) (He.ga K x) cdv A outer s H E) (defBody st) (jX K (fun c x _ H => E c x H) mb)) : kW P w K mg base (k + 1) x ps (spF K md) :=
 JZ F g S (Ci R) bnd fun cdv A outer s H vs Q E hr h => ⟨_, hbody cdv A outer s H E hr, AJ R h⟩
theorem okFM {C m q : Str} {st : Stmt} {N ps : List Str} {k : Nat} {md : FD} {mb : FS} (F : HS K C m q st) (g : Meth K (He.ga K C) m (He.ma K (He.ga K C) m)) (S : FnScope N ps (defScope st)) (R : Runs md N.length ps.length mb)
  (bnd : ∀ (kV doc pm : Value) (an : Option Addr) (cdv ct : Value) (us : List Value), us.length = ps.length -> bindArgs (gP m q (defArgs st) (defBody st) (defScope st) .none kV doc pm an cdv ct) ⟨us, []⟩ = pure (ps.zip us))
  (hbody : ∀ (cdv : Value) (A : Around) (outer : List Env) (s : Shared) (H : Hp) (E : XK), Room k (A.deeper (envOfC q (defScope st) s.heap.objs.size (He.ma K (He.ga K C) m) cdv)) ->
   PSs (cxOf (L2.CX P w) P w K mg base N q (defScope st) (He.ma K (He.ga K C) m) cdv A outer s H E) (defBody st) (jX K (fun c x _ H => E c x H) mb)) : OkMX P w K mg base (k + 1) C m ps (spF K md) :=
 Ll F g S (Ci R) bnd fun cdv A outer s H vs Q E hr h => ⟨_, hbody cdv A outer s H E hr, AJ R h⟩
end
section
variable {X : Cx} {W : WX} {e a b c o i : Expr} {es rest : List Expr} {pos p q p2 tpos apos cpos pos' : Pos} {x y z f C mn : Str} {K : aC} {ma mb mc mo mx : FE} {mt mt1 mu : FT} {mas : FA} {B : Addr -> Prop} {φ φ' : List Addr} {S S' : aL} {H H' : Hp} {σ : L2.St} {Q : VK} {m n : FS} {D : Ends} {ps : List Str} {md : FD} {j k : Nat}
def rB (S : aL) (C mn : Str) : Vl -> Bool
 | .cel n => match S[n]? with
  | some (.ins C' fs) => decide (C' = C) && fs.all fun f => decide (f.1 ≠ mn)
  | _ => false
 | .dat (.ins C' ns _) => decide (C' = C) && ns.all fun f => decide (f ≠ mn)
 | _ => false
theorem RepF.miss : ∀ {fs : List (Str × Vl)} {vs : List (Str × L2.V)}, RepF K B φ S H fs vs -> (fs.all fun f => decide (f.1 ≠ mn)) = true -> vs.lookup mn = none
 | [], vs, r, _ => by cases r; rfl
 | d :: ds, vs, ⟨v, ws, e, h1, h2⟩, h => by
  subst e;simp only [jR, dM, decide_eq_true_eq] at h;rw [eY, show (mn == d.1) = false by simpa using Ne.symm h.1]
  exact RepF.miss h2 h.2
theorem De : ∀ {ns : List Str} {vs : List L2.V}, (ns.all fun f => decide (f ≠ mn)) = true -> (ns.zip vs).lookup mn = none
 | [], vs, _ => by simp
 | d :: ds, [], _ => by simp
 | d :: ds, v :: vs, h => by
  simp only [jR, dM, decide_eq_true_eq] at h;rw [pN, eY, show (mn == d) = false by simpa using Ne.symm h.1]
  exact De h.2
theorem DF {d : Vl} {v : L2.V} (I : GInv K B φ S H) (r : RepV K B φ S H d v) (h : rB S C mn d = true) : ∃ a dx fs, v = .ref a /\ H a = some (.ins (He.ga K C) dx fs) /\ fs.lookup mn = none := by
 cases d with
 | cel n =>
  obtain ⟨a, rfl, h1⟩ := r;have h : (match S[n]? with | some (.ins C' fs) => decide (C' = C) && fs.all fun f => decide (f.1 ≠ mn) | _ => false) = true := h
  split at h
  ·rename_i C' fs q
   obtain ⟨h2, h3⟩ := He.ba h;have e : C' = C := of_decide_eq_true h2;subst e;obtain ⟨dx, vs, h4, h5⟩ := I.ok n _ a q h1;exact ⟨a, dx, vs, rfl, h4, h5.miss h3⟩
  ·cases h
 | dat d =>
  cases d with
  | ins C' ns xs =>
   obtain ⟨h2, h3⟩ := He.ba (show (decide (C' = C) && ns.all fun f => decide (f ≠ mn)) = true from h)
   have e : C' = C := of_decide_eq_true h2;subst e;obtain ⟨a, dx, vs, rfl, _, h4, _⟩ := r;exact ⟨a, dx, _, rfl, h4, De h3⟩
  | _ => cases h
 | cels ns => cases h
 | scr ns => cases h
 | tc _ => cases h
def Gg (C mn : Str) (md : FD) (o : FE) (as : FA) : FE := fun ρ S => (o ρ S).bind fun x S1 => if rB S1 C mn x = true then (as ρ S1).bind fun ds S2 => md (x :: ds) S2 else .stuck
theorem HA {pl : Sem Bool} (F : OkMX X.prog X.w X.K X.mg X.base j C mn ps (spF X.K md)) (hr : Room k X.A) (tk : Takes X W) (c : Cls X.K (He.ga X.K C)) (ho : PE X o (cL X.K W mo)) (hjk : j <= k := by decide)
  (ht : eval (.Call (.Attribute o mn apos) [] [] pos) X.env = eval o X.env >>= fun ov => standAt apos.atName >>= fun _ => holding [ov] (getMethod ov mn pl) >>= fun q => callWith pos q.1 q.2 (backTo pos (starEach [] X.env)) (backToKw pos (keywordEach [] X.env)) := by rfl) :
  PE X (.Call (.Attribute o mn apos) [] [] pos) (cL X.K W (Gg C mn md mo aJ)) := by
 obtain ⟨⟨fd, F, hb⟩, mt⟩ := F;refine ⟨fun pins s σ H Q I h => ?_⟩
 have h' : cL X.K W mo σ H fun v H1 => ∃ a dx fs, v = .ref a /\ H1 a = some (.ins (He.ga X.K C) dx fs) /\ fs.lookup mn = none /\ spF X.K md [.ref a] H1 Q (WE W σ) :=
  bT (k := fun x ρ S1 => if rB S1 C mn x = true then md [x] S1 else .stuck) h fun B φ S ρ d v H1 I E r f => by
   split at f
   ·rename_i hi
    obtain ⟨a, dx, fs, rfl, h1, h2⟩ := DF I r hi;exact ⟨a, dx, fs, rfl, h1, h2, B, φ, S, [d], I, ⟨_, _, rfl, r, rfl⟩, f.toE⟩
   ·exact f.elim
 refine PySem.W.methodCall_KW (pl := pl) (thn (ho.run pins s σ H _ I h') fun u s1 hh => ?_) ht
 obtain ⟨x, H1, I1, rx, a, dx, fs, rfl, ea, l, q⟩ := hh;obtain rfl : u = Value.ref a := rx;exact getmeth_ok I1 ea c mt l (GH (first := [.ref a]) I1.kIn mt.kp (run_fnS (us := [.ref a]) (vs := [.ref a]) (E := WE W) F (hr.mono hjk) hb (passAt tk σ) I1 (.cons rfl .nil) q))
def Eb (S : aL) (C f : Str) : Vl -> Option Vl
 | .cel n => match S[n]? with
  | some (.ins C' fs) => if C' = C then fs.lookup f else none
  | _ => none
 | .dat (.ins C' ns xs) => if C' = C then ((ns.zip xs).lookup f).map Vl.dat else none
 | _ => none
theorem RepF.look {d : Vl} : ∀ {fs : List (Str × Vl)} {vs : List (Str × L2.V)}, RepF K B φ S H fs vs -> fs.lookup f = some d -> ∃ v, vs.lookup f = some v /\ RepV K B φ S H d v
 | [], vs, r, h => by cases h
 | g :: fs, vs, ⟨v, ws, e, h1, h2⟩, h => by
  subst e;obtain ⟨g1, g2⟩ := g;rw [eY] at h ⊢;cases q : f == g1 with
  | true => rw [q] at h; cases h; exact ⟨v, rfl, h1⟩
  | false => rw [q] at h; exact RepF.look h2 h
theorem Df {Bk : Addr -> Prop} {d : PH.D} : ∀ {ns : List Str} {ds : List PH.D} {vs : List L2.V}, RepL K Bk H ds vs -> (ns.zip ds).lookup f = some d -> ∃ v, (ns.zip vs).lookup f = some v /\ Rep K Bk H d v
 | [], ds, vs, r, h => by simp at h
 | n :: ns, [], vs, r, h => by simp at h
 | n :: ns, d' :: ds, vs, ⟨v, ws, e, h1, h2⟩, h => by
  subst e;rw [pN, eY] at h ⊢;cases q : f == n with
  | true => rw [q] at h; cases h; exact ⟨v, rfl, h1⟩
  | false => rw [q] at h; exact Df h2 h
def Fg (C f : Str) (o : FE) : FE := fun ρ S => (o ρ S).bind fun x S1 => match Eb S1 C f x with
 | some d => .ok d S1
 | none => .stuck
theorem KU {x d : Vl} {v : L2.V} (I : GInv K B φ S H) (r : RepV K B φ S H x v) (h : Eb S C f x = some d) : ∃ a dx fs u, v = .ref a /\ H a = some (.ins (He.ga K C) dx fs) /\ fs.lookup f = some u /\ RepV K B φ S H d u := by
 cases x with
 | cel n =>
  obtain ⟨a, rfl, h1⟩ := r
  replace h : (match S[n]? with | some (.ins C' fs) => if C' = C then fs.lookup f else none | _ => none) = some d := h
  split at h
  ·rename_i C' fs q
   split at h
   ·rename_i e
    subst e;obtain ⟨dx, vs, h4, h5⟩ := I.ok n _ a q h1;obtain ⟨u, h6, h7⟩ := h5.look h;exact ⟨a, dx, vs, u, rfl, h4, h6, h7⟩
   ·cases h
  ·cases h
 | dat d' =>
  cases d' with
  | ins C' ns xs =>
   replace h : (if C' = C then ((ns.zip xs).lookup f).map Vl.dat else none) = some d := h
   split at h
   ·rename_i e
    subst e;obtain ⟨a, dx, vs, rfl, _, h4, l⟩ := r;cases q : (ns.zip xs).lookup f with
    | none => rw [q] at h; cases h
    | some d0 =>
     rw [q] at h;cases h;obtain ⟨u, h6, h7⟩ := Df l q;exact ⟨a, dx, _, u, rfl, h4, h6, h7⟩
   ·cases h
  | _ => cases h
 | cels ns => cases h
 | scr ns => cases h
 | tc _ => cases h
theorem Ee (c : Cls X.K (He.ga X.K C)) (n : NoAttr X.K (He.ga X.K C) f) (ho : PE X o (cL X.K W mo)) (hb : attributeBase o f X.env (eval o X.env) = eval o X.env := by rfl) : PE X (.Attribute o f pos) (cL X.K W (Fg C f mo)) := cG (e_fld c n ho hb) fun σ H Q h =>
 bT (k := fun x _ S1 => match Eb S1 C f x with | some d => .ok d S1 | none => .stuck) h fun B φ S ρ d v H1 I E r f' => by
  split at f'
  ·rename_i d' q
   obtain ⟨a, dx, fs, u, rfl, h1, h2, h3⟩ := KU I r q;exact ⟨dx, fs, u, h1, h2, Fin.now f' I h3⟩
  ·exact f'.elim
def Bv (f : Str) (v : Vl) : List (Str × Vl) -> List (Str × Vl)
 | [] => [(f, v)]
 | (g, x) :: r => if g = f then (g, v) :: r else (g, x) :: Bv f v r
theorem RepF.put {d : Vl} {v : L2.V} (r : RepV K B φ S H d v) : ∀ {fs : List (Str × Vl)} {vs : List (Str × L2.V)}, RepF K B φ S H fs vs -> RepF K B φ S H (Bv f d fs) (putF f v vs)
 | [], vs, h => by cases h; exact ⟨v, [], rfl, r, rfl⟩
 | (g, x) :: fs, vs, ⟨u, ws, e, h1, h2⟩ => by
  subst e;unfold Bv putF;split
  ·exact ⟨v, ws, rfl, r, h2⟩
  ·exact ⟨u, _, rfl, h1, RepF.put r h2⟩
theorem RepF.len : ∀ {fs : List (Str × Vl)} {vs : List (Str × L2.V)}, RepF K B φ S H fs vs -> vs.length = fs.length
 | [], vs, h => by cases h; rfl
 | d :: ds, vs, ⟨v, ws, e, _, h2⟩ => by subst e; simp [RepF.len h2]
def LU (S : aL) (C f : Str) (x d : Vl) : Option aL := match x with
 | .cel n => (match S[n]? with
  | some (.ins C' fs) => if C' = C /\ fs.length < 1000 then some (S.set n (.ins C (Bv f d fs))) else none
  | _ => none)
 | _ => none
def Gf (C f : Str) (o v : FE) : FS := fun ρ S => (v ρ S).toS ρ fun d S1 => (o ρ S1).toS ρ fun x S2 => match LU S2 C f x d with
 | some S3 => .next ρ S3
 | none => .stuck
theorem H8 {value : Expr} {mv : FE} (c : Cls X.K (He.ga X.K C)) (na : NoAttr X.K (He.ga X.K C) f) (ho : PE X o (cL X.K W mo)) (hv : PE X value (cL X.K W mv)) (hs : swapsWith value (some (.Attribute o f pos')) pos.line X.env = pure false := by rfl) : PS X (.Assign [.Attribute o f pos'] value pos) (jX X.K W (Gf C f mo mv)) := gO (O5 c na ho hv hs) fun D σ H h => by
 obtain ⟨B, φ, S, ρ, I, E, f'⟩ := h;refine cO I E f' fun φ1 S1 d1 v1 H1 I1 X1 E1 r1 f1 => cO I1 E1 f1 fun φ2 S2 d2 v2 H2 I2 X2 E2 r2 f2 => ?_
 split at f2
 ·rename_i S3 q
  unfold LU at q;split at q
  ·rename_i n
   obtain ⟨a, rfl, h1⟩ := r2;split at q
   ·rename_i C' fs q1
    split at q
    ·rename_i hc
     obtain ⟨e, hl⟩ := hc;subst e;cases q;obtain ⟨dx, vs, h4, h5⟩ := I2.ok n _ a q1 h1;have X3 := Ext.put (H := H2) (o := .ins (He.ga X.K C') dx (putF f v1 vs)) (x := .ins C' (Bv f d1 fs)) q1 (by simp) h1 (by simp)
     have r1' := r1.ext X2 I1;refine ⟨dx, vs, h4, by rw [h5.len]; exact hl, f2 φ2 σ _ (I2.put q1 (by simp) h1 (by simp) ⟨dx, _, upd_same, (h5.put r1').ext X3 I2⟩) X3 (E2.ext X3 I2)⟩
    ·cases q
   ·cases q
  ·cases q
 ·exact f2.elim
end
section
variable {X : Cx} {W : WX} {e a b c o i : Expr} {es rest : List Expr} {pos p q p2 tpos apos cpos pos' : Pos} {x y z f mn : Str} {K : aC} {ma mb mc mo mx : FE} {mas : FA} {B : Addr -> Prop} {φ φ' : List Addr} {S S' : aL} {H H' : Hp} {σ : L2.St} {Q : VK} {m n : FS} {D : Ends} {ps : List Str} {md : FD} {j k : Nat}
theorem Hq {C fA : Addr} {fd : FuncData} {sp : Sp} {CX : CXT} {E : L2.St -> XK} {pins : List (Addr × Obj)} {s : Shared} {us : List Value} {vs : List L2.V} (M : Mk X.K C fA) (F : FnOk X.prog X.w X.K X.mg X.base CX k fA fd ps sp) (hr : Room (k + 1) X.A) (hb : Binds X.K fd ps [])
  (hx : PassesAt CX X σ (E σ)) (I : Inv X pins σ H s) (r : Vals vs us)
  (h : ∀ x dx, H x = none -> H dx = none -> dx ≠ x -> sp (.ref x :: vs) (upd (upd H dx (.own x)) x (.ins C dx [])) (fun v H2 => v = .non /\ Q (.ref x) H2) (E σ)) :
  wpAny (model X.prog X.w) X.A (call (.ref C) us) (EP X pins σ Q) X.xe s := by
 have hq := h (s.heap.objs.size + 1) s.heap.objs.size (I.hok.fresh (qV _)) (I.hok.fresh (bH _)) (AF (Nat.lt_succ_self _));have I2 := Inv.made (C := C) I;have r2 : Vals (V.ref (s.heap.objs.size + 1) :: vs) (Value.ref (s.heap.objs.size + 1) :: us) := .cons rfl r;have hl : (Value.ref (s.heap.objs.size + 1) :: us ++ []).length = ps.length := by
  have e := r2.length;rw [F.len _ _ _ _ hq] at e;rw [hG];exact e.symm
 have b := hb _ (Value.ref (s.heap.objs.size + 1) :: us) I2.kIn hl;rw [hG] at b;refine wpAny_call (make_map (f := fA) I.kIn M.makes M.init (beq_iff_eq.mp M.fn) (codeAny_mono (F.run _ X.stack _ _ ⟨Value.ref (s.heap.objs.size + 1) :: us, []⟩ (Value.ref (s.heap.objs.size + 1) :: us) _ _ (E σ) (hr.make C us [])
  (I2.env0.make C us []) b r2 hq) fun r s' hq' => ?_))
 cases r with
 | error e => exact hx pins _ _ e s' I2 hq'
 | ok fl =>
  cases fl with
  | ret u =>
   obtain ⟨v, H', I3, rv, ev, q3⟩ := I2.after hq';subst ev;exact ⟨rv, ⟨V.ref (s.heap.objs.size + 1), H', I3, rfl, q3⟩⟩
  | next => exact False.elim hq'
  | brk => exact False.elim hq'
  | cont => exact False.elim hq'
def BJ : List (Str × Vl) -> Option (List PH.D)
 | [] => some []
 | (_, .dat d) :: r => match BJ r with
  | some ds => some (d :: ds)
  | none => none
 | _ :: _ => none
theorem Et : ∀ {fs : List (Str × Vl)} {vs : List (Str × L2.V)} {ds : List PH.D}, BJ fs = some ds -> RepF K B φ S H fs vs -> ∃ ws, vs = (fs.map (·.1)).zip ws /\ RepL K (iW B φ S) H ds ws
 | [], vs, ds, h, r => by cases h; cases r; exact ⟨[], rfl, rfl⟩
 | (g, .dat d) :: fs, vs, ds, h, ⟨v, ws, e, h1, h2⟩ => by
  unfold BJ at h;cases q : BJ fs with
  | none => rw [q] at h; cases h
  | some es =>
   rw [q] at h;cases h;obtain ⟨us, e2, l⟩ := Et q h2;subst e e2;exact ⟨v :: us, rfl, v, us, rfl, h1, l⟩
 | (_, .cel _) :: fs, vs, ds, h, _ => by cases h
 | (_, .cels _) :: fs, vs, ds, h, _ => by cases h
 | (_, .scr _) :: fs, vs, ds, h, _ => by cases h
 | (_, .tc _) :: fs, vs, ds, h, _ => by cases h
def made (kp : Bool) (n : Nat) (r : Res Vl) : Res Vl := match r with
 | .ok (.dat .non) S => if kp then .ok (.cel n) S else (match S[n]? with
  | some (.ins C fs) => (match BJ fs with
   | some ds => if ((S.take n).all fun c => c.below n) then .ok (.dat (.ins C (fs.map (·.1)) ds)) (S.take n) else .stuck
   | none => .stuck)
  | _ => .stuck)
 | .err e S => if ((S.take n).all fun c => c.below n) then .err e (S.take n) else .stuck
 | _ => .stuck
def vT (kp : Bool) (C : Str) (md : FD) (as : FA) : FE := fun ρ S => (as ρ S).bind fun ds S1 => made kp S1.length (md (.cel S1.length :: ds) (S1 ++ [.ins C []]))
theorem Ex {n : Nat} {c : Cell} {a : Addr} (I : GInv K B φ S H) (hn : S[n]? = some c) (hc : c ≠ .dead) (ha : φ[n]? = some a) : ¬ iW B (φ.take n) (S.take n) a := fun q => by
 rcases q with q | ⟨m, c', h1, h2, h3⟩
 ·exact I.blk a ⟨n, c, hn, hc, ha⟩ q
 ·rw [eI] at h1 h3
  by_cases hm : m < n
  ·rw [if_pos hm] at h1 h3
   have := I.inj n m c c' a hn hc h1 h2 ha h3;omega
  ·rw [if_neg hm] at h1; cases h1
theorem KW {kp : Bool} {C : Str} {ds : List Vl} {vs : List L2.V} (I : GInv K B φ S H) (r : RepVs K B φ S H ds vs) (f : Fin K W σ (RepV K) B φ S H (made kp S.length (md (.cel S.length :: ds) (S ++ [.ins C []]))) Q) :
  ∀ x dx, H x = none -> H dx = none -> dx ≠ x -> spF K md (.ref x :: vs) (upd (upd H dx (.own x)) x (.ins (He.ga K C) dx [])) (fun v H2 => v = .non /\ Q (.ref x) H2) (WE W σ) := fun x dx nx ndx ne => by
 have I1 := I.new (o := .own x) ndx;have X1 := Ext.new (o := .own x) I ndx;have nx1 : upd H dx (.own x) x = none := by rw [upd_ne (Ne.symm ne)]; exact nx
 have X2 := Ext.newC (o := .ins (He.ga K C) dx []) (x := .ins C []) I1 nx1;have I2 : GInv K B (φ ++ [x]) (S ++ [.ins C []]) (upd (upd H dx (.own x)) x (.ins (He.ga K C) dx [])) := I1.newC nx1 fun _ => ⟨dx, [], upd_same, rfl⟩
 have X12 := X1.trans X2;refine ⟨B, φ ++ [x], S ++ [.ins C []], .cel S.length :: ds, I2, ⟨_, _, rfl, ⟨x, rfl, by rw [<- I.len]; exact jN⟩, RepVs.ext X2 I1 (RepVs.ext X1 I r)⟩, ?_⟩
 have hφ : φ.length <= S.length := by rw [I.len]; exact bH _
 cases q : md (.cel S.length :: ds) (S ++ [.ins C []]) with
 | stuck => rw [q] at f; exact f
 | err e S' =>
  rw [q] at f;unfold made at f;dsimp only at f;split at f
  ·rename_i h
   intro φ' c y H' I' X' r';refine f (φ'.take S.length) c y H' (I'.take h) ((X12.trans X').take hφ) ⟨r'.1, ?_⟩
   rcases r'.2 with h0 | ⟨d, us, e1, e2, e3⟩
   ·exact .inl h0
   ·refine .inr ⟨d, us, e1, e2, RepL.kp ⟨fun b o h nb => ⟨h, fun q => nb (by
     rcases q with q | q
     ·exact .inl q
     ·exact .inr (jH q))⟩, fun _ _ h => h⟩ _ _ e3⟩
  ·exact f.elim
 | ok d S' =>
  rw [q] at f;intro φ' v H' I' X' r';unfold made at f;split at f
  ·rename_i S0 e
   cases e;cases r';refine ⟨rfl, ?_⟩
   have hx' : φ'[S.length]? = some x := X'.ids _ _ (by rw [<- I.len]; exact jN)
   split at f
   ·exact f φ' _ H' I' (X12.trans X') ⟨x, rfl, hx'⟩
   ·split at f
    ·rename_i C' fs q1
     split at f
     ·rename_i ds' q2
      split at f
      ·rename_i h
       obtain ⟨dx', vs', h4, h5⟩ := I'.ok _ _ _ q1 hx';obtain ⟨ws, e2, l⟩ := Et q2 h5;subst e2;refine f (φ'.take S.length) _ H' (I'.take h) ((X12.trans X').take hφ) ⟨x, dx', ws, rfl, Ex I' q1 (by simp) hx', h4, RepL.kp ⟨fun b o h nb => ⟨h, fun q => nb (by
        rcases q with q | q
        ·exact .inl q
        ·exact .inr (jH q))⟩, fun _ _ h => h⟩ _ _ l⟩
      ·exact f.elim
     ·exact f.elim
    ·exact f.elim
  ·rename_i e; cases e
  ·exact f.elim
theorem G2 {kp : Bool} {C : Str} (T : ClF X.K X.mg C) (F : OkMX X.prog X.w X.K X.mg X.base j C "__init__" ps (spF X.K md)) (hr : Room k X.A) (tk : Takes X W) (ha : PA X (e :: es) (JM X.K W mas)) (hjk : j + 1 <= k := by decide) (hg : Gl X C := by rfl) (hdb : (C == ("__debug__" : Str)) = false := by decide)
  (he : starEach (e :: es) X.env = (false, eval e X.env) :: starEach es X.env := by rfl) (hpl : (backTo pos (starEach es X.env)).any (·.1) = false := by rfl) : PE X (.Call (.Name C p) (e :: es) [] pos) (cL X.K W (vT kp C md mas)) := by
 obtain ⟨⟨fd, F, hb⟩, mt⟩ := F;refine ⟨fun pins s σ H Q I h => ?_⟩
 refine wpAny_Call_Name_kw (ld_glob I hg T.glo ?_ hdb)
 have h' : JM X.K W mas σ H fun vs H1 => ∀ x dx, H1 x = none -> H1 dx = none -> dx ≠ x -> spF X.K md (.ref x :: vs) (upd (upd H1 dx (.own x)) x (.ins (He.ga X.K C) dx [])) (fun v H2 => v = .non /\ Q (.ref x) H2) (WE W σ) :=
  bT (k := fun ds _ S1 => made kp S1.length (md (.cel S1.length :: ds) (S1 ++ [.ins C []]))) h fun B φ S ρ d v H1 I E r f => KW I r f
 refine PySem.W.callWith_K (h₀ := X.base) I.ok.mod.kin T.mak.kp (thn (ha.run pos pins s σ H _ I h') fun us s1 ⟨vs, H1, I1, r, q⟩ => ⟨I1.kIn, ?_⟩) he hpl
 exact Hq (E := WE W) T.mak F (hr.mono hjk) hb (passAt tk σ) I1 r q
def xQ (cls : Str) : FS := fun ρ S => .err ⟨cls, [], []⟩ ρ S
theorem vZ (F : XcF X.K X.mg x) (tk : Takes X W) (hc : X.calm = true := by rfl) (hg : Gl X x := by rfl) (hdb : (x == ("__debug__" : Str)) = false := by decide) : PS X (.Raise (some (.Call (.Name x p) [] [] pos)) none pos') (jX X.K W (xQ x)) := gO (Li F tk hc hg hdb) fun D σ H h => by
 obtain ⟨B, φ, S, ρ, I, E, f⟩ := h;exact f φ σ _ _ H I Ext.refl E ⟨rfl, .inl ⟨rfl, rfl⟩⟩
end
def O3 (C : Addr) (f : Str) : Sp := fun vs H Q _ => ∃ a y, vs = [.ref a, y] /\ H a = some (exo a C none) /\ ∀ dx, H dx = none -> dx ≠ a -> Q .non (upd (upd H dx (exd dx [(f, y)])) a (exo a C (some dx)))
def O2 (C : Addr) (f g : Str) : Sp := fun vs H Q _ => ∃ a y z, vs = [.ref a, y, z] /\ H a = some (exo a C none) /\ ∀ dx, H dx = none -> dx ≠ a -> Q .non (upd (upd (upd H dx (exd dx [(f, y)])) a (exo a C (some dx))) dx (exd dx [(g, z), (f, y)]))
structure XcA (P : Program) (w : World) (K : aC) (mg : Str -> Option Value) (base : Heap) (k : Nat) (x : Str) (ps : List Str) (sp : Sp) : Prop where
 cls : OexC K (He.ga K x)
 ini : dW K (.ref (He.ga K x)) "__init__" = some (some (.ref (He.ma K (He.ga K x) "__init__")))
 ty : kX K (.ref (He.ma K (He.ga K x) "__init__")) = some (.type "function")
 fn : ∃ fd, FnOk P w K mg base CX0 k (He.ma K (He.ga K x) "__init__") fd ps sp /\ Binds K fd ps []
 glo : mg x = some (.ref (He.ga K x))
section
variable {X : Cx} {W : WX} {e : Expr} {es : List Expr} {pos p pos' : Pos} {x f g : Str} {K : aC} {mas : FA} {B : Addr -> Prop} {φ φ' : List Addr} {S S' : aL} {H H' : Hp} {σ : L2.St} {ps : List Str} {j k : Nat}
def oP (cls : Str) (ns : List Str) (as : FA) : FS := fun ρ S => (as ρ S).toS ρ fun xs S1 => match tS xs with
 | some ds => if ds.length = ns.length then .err ⟨cls, ns, ds.reverse⟩ ρ S1 else .stuck
 | none => .stuck
theorem CC (F : XcA X.prog X.w X.K X.mg X.base j x ps (O3 (He.ga X.K x) f)) (hr : Room k X.A) (tk : Takes X W) (ha : PA X (e :: es) (JM X.K W mas)) (hjk : j + 1 <= k := by decide) (hc : X.calm = true := by rfl) (hg : Gl X x := by rfl) (hdb : (x == ("__debug__" : Str)) = false := by decide)
  (he : starEach (e :: es) X.env = (false, eval e X.env) :: starEach es X.env := by rfl) (hpl : (backTo pos (starEach es X.env)).any (·.1) = false := by rfl) : PS X (.Raise (some (.Call (.Name x p) (e :: es) [] pos)) none pos') (jX X.K W (oP x [f] mas)) := by
 obtain ⟨fd, F1, hb⟩ := F.fn;refine gO (ps_raise hc tk (pmk_oex F.cls F.ini F.ty F1 (hr.mono hjk) hb .nil (fun _ _ _ _ _ _ _ h => h.elim) hg F.glo ha hdb he hpl)) fun D σ H h => ?_
 obtain ⟨B, φ, S, ρ, I, E, f'⟩ := h;refine cO I E f' fun φ1 S1 ds vs H1 I1 X1 E1 r f1 => ?_
 split at f1
 ·rename_i xs q
  have l := tL q r;split at f1
  ·rename_i hl
   match xs, hl with
   | [d], _ =>
    obtain ⟨v, ws, rfl, h1, h2⟩ := l;cases h2;refine ⟨by simp, fun a na => ⟨a, v, rfl, upd_same, fun dx ndx ne => ⟨rfl, dx, [(f, v)], upd_same, ?_, ?_, ?_⟩⟩⟩
    ·rw [upd_ne ne, upd_same]
    ·rw [upd_ne ne] at ndx; exact ndx
    ·have n1 : H1 dx = none := by rw [upd_ne ne] at ndx; exact ndx
     have eH : (upd (del (upd (upd (upd H1 a (exo a (He.ga X.K x) none)) dx (exd dx [(f, v)])) a (exo a (He.ga X.K x) (some dx))) a) dx (.xd [(f, v)])) = upd H1 dx (.xd [(f, v)]) := by
      funext b
      unfold upd del
      by_cases hb : b = dx
      ·rw [if_pos hb, if_pos hb]
      ·rw [if_neg hb, if_neg hb]
       by_cases hba : b = a
       ·rw [if_pos hba, hba]; exact na.symm
       ·rw [if_neg hba]; simp only [if_neg hba, if_neg hb]
     rw [eH];have X2 := Ext.new (o := .xd [(f, v)]) I1 n1;exact f1 φ1 σ _ _ _ (I1.new n1) X2 (E1.ext X2 I1) ⟨rfl, .inr ⟨dx, [v], rfl, upd_same, v, [], rfl, Rep.kp (X2.kp I1) _ _ h1, rfl⟩⟩
  ·exact f1.elim
 ·exact f1.elim
theorem xV (F : XcA X.prog X.w X.K X.mg X.base j x ps (O2 (He.ga X.K x) f g)) (hr : Room k X.A) (tk : Takes X W) (ha : PA X (e :: es) (JM X.K W mas)) (hjk : j + 1 <= k := by decide) (hc : X.calm = true := by rfl) (hg : Gl X x := by rfl) (hdb : (x == ("__debug__" : Str)) = false := by decide)
  (he : starEach (e :: es) X.env = (false, eval e X.env) :: starEach es X.env := by rfl) (hpl : (backTo pos (starEach es X.env)).any (·.1) = false := by rfl) : PS X (.Raise (some (.Call (.Name x p) (e :: es) [] pos)) none pos') (jX X.K W (oP x [g, f] mas)) := by
 obtain ⟨fd, F1, hb⟩ := F.fn;refine gO (ps_raise hc tk (pmk_oex F.cls F.ini F.ty F1 (hr.mono hjk) hb .nil (fun _ _ _ _ _ _ _ h => h.elim) hg F.glo ha hdb he hpl)) fun D σ H h => ?_
 obtain ⟨B, φ, S, ρ, I, E, f'⟩ := h;refine cO I E f' fun φ1 S1 ds vs H1 I1 X1 E1 r f1 => ?_
 split at f1
 ·rename_i xs q
  have l := tL q r;split at f1
  ·rename_i hl
   match xs, hl with
   | [d, d2], _ =>
    obtain ⟨v, ws, rfl, h1, u, ws', rfl, h2, h3⟩ := l;cases h3;refine ⟨by simp, fun a na => ⟨a, v, u, rfl, upd_same, fun dx ndx ne => ⟨rfl, dx, [(g, u), (f, v)], ?_, upd_same, ?_, ?_⟩⟩⟩
    ·rw [upd_ne (Ne.symm ne), upd_same]
    ·rw [upd_ne ne] at ndx; exact ndx
    ·have n1 : H1 dx = none := by rw [upd_ne ne] at ndx; exact ndx
     have eH : (upd (del (upd (upd (upd (upd H1 a (exo a (He.ga X.K x) none)) dx (exd dx [(f, v)])) a (exo a (He.ga X.K x) (some dx))) dx (exd dx [(g, u), (f, v)])) a) dx (.xd [(g, u), (f, v)])) = upd H1 dx (.xd [(g, u), (f, v)]) := by
      funext b
      unfold upd del
      by_cases hb : b = dx
      ·rw [if_pos hb, if_pos hb]
      ·rw [if_neg hb, if_neg hb]
       by_cases hba : b = a
       ·rw [if_pos hba, hba]; exact na.symm
       ·rw [if_neg hba]; simp only [if_neg hba, if_neg hb]
     rw [eH];have X2 := Ext.new (o := .xd [(g, u), (f, v)]) I1 n1;exact f1 φ1 σ _ _ _ (I1.new n1) X2 (E1.ext X2 I1) ⟨rfl, .inr ⟨dx, [u, v], rfl, upd_same, u, [v], rfl, Rep.kp (X2.kp I1) _ _ h2, v, [], rfl, Rep.kp (X2.kp I1) _ _ h1, rfl⟩⟩
  ·exact f1.elim
 ·exact f1.elim
end
def XMs (K : aC) (cs : List Str) : Prop := ∀ c ∈ cs, ∀ d ∈ cs, PySem.W.exmOne K (.ref (He.ga K c)) (.ref (He.ga K d)) = some (decide (c = d))
theorem Nv {K : aC} {cs : List Str} (h : xmB K cs = true) : XMs K cs := fun c hc d hd => of_decide_eq_true (bA.mp (bA.mp h c hc) d hd)
section
variable {X : Cx} {W : WX} {e a b c o i : Expr} {es rest : List Expr} {pos p q p2 tpos apos cpos pos' np : Pos} {x y z f mn : Str} {K : aC} {ma mb mc mo mx : FE} {mas : FA} {B : Addr -> Prop} {φ φ' : List Addr} {S S' : aL} {H H' : Hp} {σ : L2.St} {Q : VK} {m n : FS} {D : Ends} {cs : List Str}
def handle (cs : List Str) : List (Str × FS) -> Er -> Ev -> aL -> Out
 | [], e, ρ, S => .err e ρ S
 | (c, m) :: r, e, ρ, S => if e.cls = c then (match m ρ S with
   | .err _ _ _ => .stuck
   | o => o) else handle cs r e ρ S
def Am (cs : List Str) (m : FS) (hs : List (Str × FS)) : FS := fun ρ S => match m ρ S with
 | .err e ρ' S' => if e.cls ∈ cs /\ ∀ h ∈ hs, h.1 ∈ cs then handle cs hs e ρ' S' else .stuck
 | o => o
theorem FinS.wNo {o : Out} (f : FinS K W D B φ S H (match o with | .err _ _ _ => .stuck | o => o)) : FinS K PH.wNo D B φ S H o := by
 cases o with
 | err e ρ S' => exact f.elim
 | next ρ S' => exact f
 | ret d S' => exact f
 | brk ρ S' => exact f
 | cnt ρ S' => exact f
 | stuck => exact f
def hsR (K : aC) (hs : List (Str × FS)) : List (Value × (Addr -> Value -> Option Addr -> TS)) := hs.map fun h => (.ref (He.ga K h.1), fun _ _ _ => jX K wNo h.2)
theorem C9 {e : Er} {c : Value} {d : Option Addr} {Wout : WX} (M : XMs K cs) (he : e.cls ∈ cs) (rx : Pr K B φ S H e c d) (I : GInv K B φ S H) {ρ : Ev} (E : RepE K B φ S H ρ σ) : ∀ {hs : List (Str × FS)}, (∀ h ∈ hs, h.1 ∈ cs) -> FinS K Wout D B φ S H (handle cs hs e ρ S) -> wMany K Wout D (hsR K hs) c d σ H
 | [], _, f => f φ σ c d H I Ext.refl E rx
 | (c', m) :: r, hc, f => by
  unfold handle at f;have q := M e.cls he c' (hc _ (aW ..));have ec : c = .ref (He.ga K e.cls) := rx.1;refine ⟨decide (e.cls = c'), by rw [ec]; exact q, fun h a na => ?_, fun h => ?_⟩
  ·rw [if_pos (of_decide_eq_true h)] at f
   exact ⟨B, φ, S, ρ, I, E, f.wNo⟩
  ·rw [if_neg (of_decide_eq_false h)] at f
   exact C9 M he rx I E (hs := r) (fun h hh => hc h (aQ _ hh)) f
theorem JA {hs : List (Str × FS)} (M : XMs K cs) (h : jX K W (Am cs m hs) D σ H) : jX K (wMany K W D (hsR K hs)) m D σ H := by
 obtain ⟨B, φ, S, ρ, I, E, f⟩ := h;refine ⟨B, φ, S, ρ, I, E, ?_⟩
 unfold Am at f;cases q : m ρ S with
 | err e ρ' S' =>
  rw [q] at f;dsimp only at f;split at f
  ·rename_i hh
   exact fun φ' σ' c x H' I' X' E' r => C9 M hh.1 r I' E' hh.2 (FinS.ext f X')
  ·exact f.elim
 | next ρ S' => rw [q] at f; exact f
 | ret d S' => rw [q] at f; exact f
 | brk ρ S' => rw [q] at f; exact f
 | cnt ρ S' => rw [q] at f; exact f
 | stuck => rw [q] at f; exact f
theorem Mm {body : List Stmt} {h₀ : ExceptHandler} {hds : List ExceptHandler} {hs' : List (Str × FS)} (M : XMs X.K cs) (hs : X.stack = X.env :: X.outer) (hf : X.env.frame = some X.env.locals) (tk : Takes X W)
  (hb : ∀ (W : WX) (pn : List (Addr × Obj)) (xe : Value -> Shared -> Prop), Takes (X.tr pn xe) W -> PassesOwn (model X.prog X.w) X.A X.env xe -> PSs (X.tr pn xe) body (jX X.K W m))
  (hh : HdsOk X (h₀ :: hds) (hsR X.K hs')) : PS X (.Try body (h₀ :: hds) [] [] pos) (jX X.K W (Am cs m hs')) := gO (ps_try_many (tb := fun W => jX X.K W m) hs hf tk hb hh) fun D σ H h => JA M h
theorem Of : HdsOk X [] (hsR X.K []) := .nil
theorem Gq {b₀ : Stmt} {suite : List Stmt} {hds : List ExceptHandler} {m : FS} {hs' : List (Str × FS)} (g : X.mg x = some (.ref (He.ga X.K x)))
  (hsu : ∀ (a : Addr) (oe : Obj) (cls : Value) (d : Option Addr) (pn : List (Addr × Obj)), PSs (X.suite a ((a, oe) :: pn)) (b₀ :: suite) (jX X.K wNo m)) (r : HdsOk X hds (hsR X.K hs')) (hg : Gl X x := by rfl) (hd : (x == ("__debug__" : Str)) = false := by decide) :
  HdsOk X (.ExceptHandler (some (.Name x np)) none (b₀ :: suite) pos' :: hds) (hsR X.K ((x, m) :: hs')) := .cons ⟨hg, hd, .inl g⟩ (fun a oe cls d pn _ _ => hsu a oe cls d pn) r
inductive XIt where
 | c (v : L2.V) (d : PH.D) | f (n : Str)
def itR (a : Addr) (cls : Value) (d : Option Addr) (C : Addr) (i : Nat) : List XIt -> TA
 | [] => tNil
 | .c v _ :: r => tCons (tC v) (itR a cls d C i r)
 | .f n :: r => tCons (tXf a cls d C n (zX i)) (itR a cls d C i r)
def itF (e : Er) : List XIt -> Option (List PH.D)
 | [] => some []
 | .c _ d :: r => match itF e r with
  | some ds => some (d :: ds)
  | none => none
 | .f n :: r => match (e.ns.zip e.xs).lookup n, itF e r with
  | some d, some ds => some (d :: ds)
  | _, _ => none
def NS (cs : List Str) (m : FS) (c : Str) (k : Nat) (its : List XIt) : FS := fun ρ S => match m ρ S with
 | .err e ρ' S' => if (e.cls ∈ cs /\ c ∈ cs) /\ k < ρ'.length then (if e.cls = c then (match itF e its with
   | some ds => if ds.length <= sizeLine then .ret (.dat (.tup ds)) S' else .stuck
   | none => .stuck) else .err e ρ' S') else .stuck
 | o => o
end
structure Lim (K : aC) : Prop where
 pos : ∀ z m lo hi, limits.lookup z = some (m, lo, hi) -> iR K (He.ga K "LIMITS") z = some (some (.ref (EG K z))) /\ ∀ H, SqT K H (EG K z) [.int (m : Nat), .int lo, .int hi]
 neg : ∀ z, limits.lookup z = none -> iR K (He.ga K "LIMITS") z = some none
section
variable {X : Cx} {W : WX} {e a b c o i : Expr} {es rest : List Expr} {pos p q p2 tpos apos cpos pos' np : Pos} {x y z f mn C : Str} {K : aC} {ma mb mc mo mx : FE} {mas : FA} {B : Addr -> Prop} {φ φ' : List Addr} {S S' : aL} {H H' : Hp} {σ : L2.St} {Q : VK} {m n : FS} {D : Ends} {ps : List Str} {md : FD} {j k : Nat}
def fM (neg : Bool) (x : Vl) (S : aL) : Res Vl := match x with
 | .dat (.str z) => .ok (.dat (.bl (if neg then (limits.lookup z).isNone else (limits.lookup z).isSome))) S
 | _ => .stuck
def xZ (x : Vl) (S : aL) : Res Vl := match x with
 | .dat (.str z) => (match limits.lookup z with
  | some (m, lo, hi) => .ok (.dat (.tup [.int (m : Nat), .int lo, .int hi])) S
  | none => .stuck)
 | _ => .stuck
theorem JI (L : Lim K) {x : L2.V} {d : Vl} (I : GInv K B φ S H) (r : RepV K B φ S H d x) (f : Fin K W σ (RepV K) B φ S H (fM true d S) Q) : Nr K (He.ga K "LIMITS") true x (.ref (He.ga K "LIMITS")) H Q := by
 unfold fM at f;split at f
 ·rename_i z
  cases r;cases q : limits.lookup z with
  | none =>
   refine ⟨rfl, none, L.neg z q, ?_⟩
   rw [q] at f;exact Fin.now f I rfl
  | some t =>
   obtain ⟨m, lo, hi⟩ := t;refine ⟨rfl, _, (L.pos z m lo hi q).1, ?_⟩
   rw [q] at f;exact Fin.now f I rfl
 ·exact f.elim
theorem IS {py : Pos} (L : Lim X.K) (D : ∃ es n, KDict X.K X.w (He.ga X.K "LIMITS") es n) (g : X.mg "LIMITS" = some (.ref (He.ga X.K "LIMITS"))) (ha : PE X a (cL X.K W ma)) (hg : Gl X "LIMITS" := by rfl) (hm : behindInMarks .NotIn (.Name "LIMITS" py) = false := by rfl) : PT X (.Compare a [.NotIn] [.Name "LIMITS" py] pos) (tO X.K W (mB (m1 (fM true) ma))) :=
 BM (ND (Cv D) ha (pe_glob (v := .ref (He.ga X.K "LIMITS")) hg g rfl) hm) fun σ H Q h => bT (k := fun x _ S => fM true x S) (JD h) fun B φ S ρ d v H1 I E r f => JI L I r f
theorem f_lim {py : Pos} (L : Lim X.K) (D : ∃ es n, KDict X.K X.w (He.ga X.K "LIMITS") es n) (g : X.mg "LIMITS" = some (.ref (He.ga X.K "LIMITS"))) (ha : PE X a (cL X.K W ma)) (hg : Gl X "LIMITS" := by rfl) (hs : PlainIx a := by intro _ _; rfl) : PE X (.Subscript (.Name "LIMITS" py) a pos) (cL X.K W (m1 xZ ma)) :=
 cG (pe_ix (OX D) (pe_glob (v := .ref (He.ga X.K "LIMITS")) hg g rfl) ha hs) fun σ H Q h => bT (k := fun x _ S => xZ x S) h fun B φ S ρ d v H1 I E r f => by
  unfold xZ at f;split at f
  ·rename_i z
   cases r;split at f
   ·rename_i m lo hi q
    obtain ⟨h1, h2⟩ := L.pos z m lo hi q;exact ⟨rfl, _, .ref (EG X.K z), h1, rfl, Fin.now f I ⟨_, _, rfl, h2 H1, _, _, rfl, rfl, _, _, rfl, rfl, _, _, rfl, rfl, rfl⟩⟩
   ·exact f.elim
  ·exact f.elim
theorem IW {sp : Sp} (F : OkMX X.prog X.w X.K X.mg X.base j C "__len__" ps sp) (hr : Room (j + 1) X.A) : CallR X (.builtin "len") (c1 (rLenO (He.ga X.K C) sp E0)) := by
 intro pins s σ H xs us Q I r h;obtain ⟨⟨fd, F, hb⟩, mt⟩ := F
 match xs, h with
 | [x], h =>
  cases x with
  | ref a =>
   obtain ⟨dx, fs, ha, h⟩ := h;cases r with
   | cons r1 r2 =>
    cases r1;cases r2;obtain ⟨mA, J, _⟩ := ins_get I.hok ha;obtain ⟨od, J, _⟩ := J.look;obtain ⟨fm, hF⟩ := I.fr;refine PySem.W.len_K hF I.ok.mod.kin J mt.at_ mt.fn ?_
    have e := I.env0;have hl := F.len _ _ _ _ h;have b := hb s [.ref a] I.kIn (by simpa using hl)
    have run := F.run X.A.in1 X.stack s H ⟨[.ref a], []⟩ [.ref a] [.ref a] _ E0 hr.in1 ⟨e.frames, e.mod, e.bs, e.bsz, e.funs, e.frf, e.hok, e.bare⟩ (by simpa using b) (.cons rfl .nil) h
    refine wpAny_call (codeAny_mono run fun q s' hq => ?_)
    cases q with
    | error e => obtain ⟨_, _, _, _, _, _, _, _, _, _, _, _, z⟩ := hq; exact z.elim
    | ok fl =>
     cases fl with
     | ret w =>
      obtain ⟨z, H', I', rz, hz⟩ := I.after hq;cases z with
      | int n =>
       obtain ⟨tk, rfl⟩ := rz;exact ⟨⟨hz.1.1, by have := hz.1.2; omega⟩, .int n, H', I'.tok _, ⟨_, rfl⟩, hz.2⟩
      | _ => exact hz.elim
     | next => exact False.elim hq
     | brk => exact False.elim hq
     | cont => exact False.elim hq
  | _ => exact h.elim
def OM (r : Res Vl) : Res Vl := match r with
 | .ok (.dat (.int n)) S => if 0 <= n /\ n < 2 ^ 62 then .ok (.dat (.int n)) S else .stuck
 | _ => .stuck
def Az (C : Str) (md : FD) (x : Vl) (S : aL) : Res Vl := if rB S C "__len__" x = true then OM (md [x] S) else .stuck
theorem Ke (hm : X.mg "len" = none) (F : OkMX X.prog X.w X.K X.mg X.base j C "__len__" ps (spF X.K md)) (hr : Room k X.A) (ha : PE X a (cL X.K W ma)) (hjk : j + 1 <= k := by decide) (hg : Gl X "len" := by rfl) (hs : starEach [a] X.env = [(false, eval a X.env)] := by rfl) : PE X (.Call (.Name "len" p) [a] [] pos) (cL X.K W (m1 (Az C md) ma)) :=
 cG (pe_callB (IW F (hr.mono hjk)) hg hm boot_len (pa_cons ha pa_nil hs) (he := hs)) fun σ H Q h => bT (k := fun x _ S => Az C md x S) h fun B φ S ρ d v H1 I E r f => by
  unfold Az at f;split at f
  ·rename_i hi
   obtain ⟨a, dx, fs, rfl, h1, h2⟩ := DF I r hi;refine ⟨dx, fs, h1, B, φ, S, [d], I, ⟨_, _, rfl, r, rfl⟩, ?_⟩
   unfold OM at f;split at f
   ·rename_i n S' q
    rw [q];split at f
    ·rename_i hn
     intro φ' v H' I' X' r';cases r';exact ⟨hn, f φ' _ H' I' X' rfl⟩
    ·exact f.elim
   ·exact f.elim
  ·exact f.elim
def HK (r : Res Vl) : Res Vl := match r with
 | .ok (.dat (.bl n)) S => .ok (.dat (.bl n)) S
 | _ => .stuck
theorem DN {n : Int} {x : Str} (h : ∃ t, X.mg x = some (.int n t)) (hg : Gl X x := by rfl) (hd : (x == ("__debug__" : Str)) = false := by decide) : PE X (.Name x pos) (cL X.K W (mC (.int n))) := Kb (Pm h hg hd) fun _ _ => rfl
theorem Nm : PE X (.Dict [] [] pos) (cL X.K W (mC .dct)) := cG pe_dnewK fun σ H Q h => by
 obtain ⟨B, φ, S, ρ, I, E, f⟩ := h;exact fun p hp => f φ _ _ (I.new hp) (Ext.new I hp) ⟨p, rfl, I.nblk hp, upd_same⟩
end
section
variable {P : Program} {w : World} {K : aC} {mg : Str -> Option Value} {base : Heap}
def jS : FD := fun _ _ => .stuck
theorem kB {x : Str} {st : Stmt} {N ps : List Str} {k : Nat} (F : mJ K x st) (g : mg x = some (.ref (He.ga K x))) (S : FnScope N ps (defScope st))
  (bnd : ∀ (kV doc pm : Value) (an : Option Addr) (cdv ct : Value) (us : List Value), us.length = ps.length -> bindArgs (gP x x (defArgs st) (defBody st) (defScope st) .none kV doc pm an cdv ct) ⟨us, []⟩ = pure (ps.zip us)) : kW P w K mg base (k + 1) x ps (spF K jS) :=
 JZ F g S (fun vs H Q E ⟨_, _, _, _, _, _, f⟩ => f.elim) bnd fun cdv A outer s H vs Q E hr ⟨_, _, _, _, _, _, f⟩ => f.elim
end
theorem Hb {K : aC} {a : Addr} {vs : List V} (h : F6 K a vs = true) (H : Hp) : SqT K H a vs := by
 unfold F6 at h;cases q : K.lookup a with
 | none => rw [q] at h; cases h
 | some o =>
  obtain ⟨oc, od, dt, osl⟩ := o;rw [q] at h;cases oc with
  | type c =>
   cases dt with
   | seq its n =>
    obtain ⟨h1, h2⟩ := He.ba (show (decide (c = "tuple") && (decide (its.size <= sizeLine) && He.relAll vs its.toList)) = true from h)
    obtain ⟨h3, h4⟩ := He.ba h2;exact .inr ⟨_, its, n, q, congrArg Value.type (of_decide_eq_true h1), rfl, of_decide_eq_true h3, He.relAll_ok h4⟩
   | _ => cases h
  | _ => cases dt <;> cases h
theorem Ij {fa : List He.Fa} {fn : List He.DefD} {ts : List He.Tab} {w : World} {K : aC} (c : He.SaysT fa fn ts w K) (i : Nat) {t : He.Tab} (h : ts[i]? = some t := by rfl) : He.dicW K (t.1 K) = some (He.keysIn w.params t.2) := by
 have e : ts.map (fun t => He.dicW K (t.1 K)) = ts.map fun t => some (He.keysIn w.params t.2) := congrArg (fun z : He.AlT => z.2) c
 have e2 : (ts.map fun t => He.dicW K (t.1 K))[i]? = (ts.map fun t => some (He.keysIn w.params t.2))[i]? := by rw [e]
 rw [bZ, bZ, h] at e2;exact Option.some.inj e2
theorem C3 {P : Params} {z : Str} : ∀ {l : List DictEntry} {ks : List Str}, l.map He.keyOf = He.keysIn P ks -> z ∉ ks -> (l.find? (·.key.isStr z) = none) /\ l.any (·.refKey) = false
 | [], _, _, _ => ⟨rfl, rfl⟩
 | e :: r, [], h, _ => by cases h
 | e :: r, k :: ks, h, hz => by
  have h1 : He.keyOf e :: r.map He.keyOf = some (k, PyData.keyHash P k) :: He.keysIn P ks := h
  injection h1 with h2 h3
  obtain ⟨i1, i2⟩ := C3 h3 (fun m => hz (aQ _ m))
  unfold He.keyOf at h2;split at h2
  ·rename_i x t q
   obtain ⟨h5, h6⟩ := Prod.mk.inj (Option.some.inj h2);have nz : e.key.isStr z = false := by
    rw [q]
    show decide (x = z) = false
    exact decide_eq_false fun e => hz (by rw [<- e, h5]; exact aW ..)
   constructor
   ·rw [List.find?_cons, nz]; exact i1
   ·rw [List.any_cons, i2, Bool.or_false]
    show e.refKey = false
    unfold DictEntry.refKey;rw [q]
  ·cases h2
theorem Hy {K : aC} {P : Params} {a : Addr} {ks : List Str} {z : Str} (h : He.dicW K a = some (He.keysIn P ks)) (hz : z ∉ ks) : iR K a z = some none := by
 unfold He.dicW at h;cases q : K.lookup a with
 | none => rw [q] at h; cases h
 | some o =>
  obtain ⟨oc, od, dt, osl⟩ := o;rw [q] at h;cases oc with
  | type c =>
   cases od with
   | none =>
    cases dt with
    | dict es n =>
     have h1 : (match decide (c = "dict") && (osl.isEmpty && !(a == sysModules)) with
      | true => some (es.toList.map He.keyOf)
      | false => none) = some (He.keysIn P ks) := h
     cases y : decide (c = "dict") && (osl.isEmpty && !(a == sysModules)) with
     | false => rw [y] at h1; cases h1
     | true =>
      rw [y] at h1;obtain ⟨i1, i2⟩ := C3 (Option.some.inj h1) hz;unfold iR;rw [q]
      show (match es.toList.find? (·.key.isStr z) with | some e => some (some e.val) | none => if es.toList.any (·.refKey) then none else some none) = some none
      rw [i1, i2];rfl
    | _ => cases h
   | some b => cases dt <;> cases h
  | _ => cases od <;> cases dt <;> cases h
theorem yX {κ β : Type} [BEq κ] [LawfulBEq κ] {z : κ} {v : β} : ∀ {l : List (κ × β)}, l.lookup z = some v -> (z, v) ∈ l
 | [], h => by cases h
 | (k, u) :: r, h => by
  rw [eY] at h;cases e : z == k with
  | true =>
   rw [e] at h;have e2 : z = k := eq_of_beq e;have e3 : u = v := Option.some.inj h;rw [e2, e3];exact aW ..
  | false =>
   rw [e] at h;exact aQ _ (yX h)
theorem lookup_none {κ β : Type} [BEq κ] [LawfulBEq κ] {z : κ} : ∀ {l : List (κ × β)}, l.lookup z = none -> z ∉ l.map (·.1)
 | [], _ => by simp
 | (k, u) :: r, h => by
  rw [eY] at h;cases e : z == k with
  | true => rw [e] at h; cases h
  | false =>
   rw [e] at h;have ne : z ≠ k := by simpa using e
   intro m;rcases cJ.mp m with m | m
   ·exact ne m
   ·exact lookup_none h m
theorem OL {K : aC} {P : Params} (h : limB K = true) (d : He.dicW K (He.ga K "LIMITS") = some (He.keysIn P (limits.map (·.1)))) : Lim K where
 pos := fun z m lo hi e => by
  obtain ⟨h1, h2⟩ := He.ba (bA.mp h (z, m, lo, hi) (yX e));exact ⟨He.eqO_ok h1, Hb h2⟩
 neg := fun z e => Hy d (lookup_none e)
theorem Jk {P : Program} {w : World} {K : aC} {mg : Str -> Option Value} {x : Str} {st : Stmt} {N ps : List Str} {k : Nat} {md : FD} {mb : FS} (F : mJ K x st) (S : FnScope N ps (defScope st)) (R : Runs md N.length ps.length mb)
  (bnd : ∀ (kV doc pm : Value) (an : Option Addr) (cdv ct : Value) (us : List Value), us.length = ps.length -> bindArgs (gP x x (defArgs st) (defBody st) (defScope st) .none kV doc pm an cdv ct) ⟨us, []⟩ = pure (ps.zip us))
  (hbody : ∀ (base : Heap) (cdv : Value) (A : Around) (outer : List Env) (s : Shared) (H : Hp) (E : XK), Room k (A.deeper (envOfC x (defScope st) s.heap.objs.size (He.ga K x) cdv)) ->
   PSs (cxOf (L2.CX P w) P w K mg base N x (defScope st) (He.ga K x) cdv A outer s H E) (defBody st) (jX K (fun c x _ H => E c x H) mb)) :
  ∃ fd, (∀ (s : Shared) (us : List Value), us.length = ps.length -> BindsTo s fd ⟨us, []⟩ (ps.zip us)) /\ ∀ base, FnOk P w K mg base (L2.CX P w) (k + 1) (He.ga K x) fd ps (spF K md) := by
 obtain ⟨fd, F⟩ := F;refine ⟨fd, fun s us hl => F.bindsA bnd s us hl, fun base => ?_⟩
 obtain ⟨oc, od, dV, kV, doc, pm, an, cdv, ct, osl, e, lk, hc⟩ := F.ex;subst e;exact fn_of lk hc.1 S (Ci R) fun A outer s H vs Q E hr hsp => ⟨_, hbody base cdv A outer s H E hr, AJ R hsp⟩
theorem law_start {K : aC} {md : FD} {n : Nat} (h : ∀ ns : List Int, ns.length <= n -> ∃ S, md [.scr ns] [] = .ok (.dat (.bl true)) S) (H : Hp) (a : Addr) (ns : List Int) (hl : ns.length <= n) (hO : Only H) (hS : SqL K H a (ns.map V.int)) : spF K md [.ref a] H (fun v _ => v = .bl true) fun _ _ _ => False := by
 obtain ⟨S, e⟩ := h ns hl;refine ⟨fun _ => False, [], [], [.scr ns], ⟨rfl, fun n c a h => by simp at h, fun n m c c' a h => by simp at h, fun a ⟨n, c, h, _⟩ => by simp at h, fun a h => h.elim⟩, ⟨_, _, rfl, ⟨a, rfl, ?_⟩, rfl⟩, ?_⟩
 ·rcases hS with (h | ⟨o, h⟩) | h
  ·rcases hO a with q | ⟨o, xs, q⟩
   ·rw [h] at q; cases q
   ·rw [h] at q; cases q
  ·exact .inl ⟨o, h⟩
  ·exact .inr (.inr h)
 ·rw [e]
  exact fun φ' v H' _ _ r => r
theorem Ln {K : aC} {C : Addr} (q : OC K C = true) : ∃ nm q N bs bm sn sub ab col dd k0 k1 k2 k3 k5, K.lookup C = some (excClassObj nm q C N bs bm true sn sub ab col dd k0 k1 k2 k3 k5 "ValueError.__new__") /\ PySem.HandSPX.refsVE bm = true := by
 unfold OC at q;split at q
 ·rename_i dd cd sl ho
  split at q
  ·rename_i C' bm k0 k1 k2 k3 n k5 hm hs
   simp only [dM, beq_iff_eq, Bool.not_eq_true'] at q;obtain ⟨⟨⟨⟨rfl, rfl⟩, hdel⟩, hdi⟩, hbm⟩ := q;obtain ⟨nm, bs, mro, ns, qn, hd, sn, sub, ab, col, del⟩ := cd;dsimp only at hm hdel hdi;subst hm hdel hdi;have hsl : sl = #[k0, k1, k2, k3, some (.builtin "ValueError.__new__"), k5] := by
    obtain ⟨l⟩ := sl;simp only at hs;rw [hs]
   subst hsl;exact ⟨nm, qn, ns, bs, bm, sn, sub, ab, col, dd, k0, k1, k2, k3, k5, ho, hbm⟩
  ·cases q
 ·cases q
structure XaF (K : aC) (mg : Str -> Option Value) (x : Str) (fs : List Str) : Prop where
 cls : OexC K (He.ga K x)
 ini : dW K (.ref (He.ga K x)) "__init__" = some (some (.ref (He.ma K (He.ga K x) "__init__")))
 ty : kX K (.ref (He.ma K (He.ga K x) "__init__")) = some (.type "function")
 glo : mg x = some (.ref (He.ga K x))
 rd : XfC K (He.ga K x)
 no : ∀ f ∈ fs, dW K (.ref (He.ga K x)) f = some none
theorem J1 {K : aC} {mg : Str -> Option Value} {x : Str} {fs : List Str} (h : xaB K x fs = true) (g : mg x = some (.ref (He.ga K x))) : XaF K mg x fs := by
 obtain ⟨h1, h⟩ := He.ba h;obtain ⟨h2, h⟩ := He.ba h;obtain ⟨h3, h⟩ := He.ba h;obtain ⟨h4, h⟩ := He.ba h;obtain ⟨h5, h⟩ := He.ba h;obtain ⟨h6, h⟩ := He.ba h;obtain ⟨h7, h⟩ := He.ba h;obtain ⟨h8, h9⟩ := He.ba h;exact ⟨⟨Ln h1, of_decide_eq_true h2, of_decide_eq_true h3, of_decide_eq_true h4, h5⟩, of_decide_eq_true h6, of_decide_eq_true h7, g, xfB_ok h8, fun f hf => of_decide_eq_true (bA.mp h9 f hf)⟩
section
variable {P : Program} {w : World} {K : aC} {mg : Str -> Option Value} {base : Heap}
theorem J8 {C : Addr} {f a b : Str} : ∀ vs H Q E, O3 C f vs H Q E -> vs.length = [a, b].length := fun vs H Q E ⟨_, _, e, _⟩ => by rw [e]; rfl
theorem J7 {C : Addr} {f g a b c : Str} : ∀ vs H Q E, O2 C f g vs H Q E -> vs.length = [a, b, c].length := fun vs H Q E ⟨_, _, _, e, _⟩ => by rw [e]; rfl
theorem Ja {x m q : Str} {fs : List Str} {st : Stmt} {N ps : List Str} {k : Nat} {sp : Sp} (T : XaF K mg x fs) (F : HS K x "__init__" q st) (S : FnScope N ps (defScope st)) (len : ∀ vs H Q E, sp vs H Q E -> vs.length = ps.length)
  (bnd : ∀ (kV doc pm : Value) (an : Option Addr) (cdv ct : Value) (us : List Value), us.length = ps.length -> bindArgs (gP "__init__" q (defArgs st) (defBody st) (defScope st) .none kV doc pm an cdv ct) ⟨us, []⟩ = pure (ps.zip us))
  (hbody : ∀ (cdv : Value) (A : Around) (outer : List Env) (s : Shared) (H : Hp) (vs : List V) (Q : VK) (E : XK), Room k (A.deeper (envOfC q (defScope st) s.heap.objs.size (He.ma K (He.ga K x) "__init__") cdv)) -> sp vs H Q E ->
   ∃ t, PSs (cxOf CX0 P w K mg base N q (defScope st) (He.ma K (He.ga K x) "__init__") cdv A outer s H E).nox (defBody st) t /\ t { nx := fun _ H' => Q .non H', rt := Q } (start N vs) H) : XcA P w K mg base (k + 1) x ps sp := by
 obtain ⟨fd, F⟩ := F;refine ⟨T.cls, T.ini, T.ty, ⟨fd, FunD.ok F S len fun cdv A outer s H vs Q E hr hsp => ?_, F.bindsN bnd⟩, T.glo⟩
 obtain ⟨t, h, q⟩ := hbody cdv A outer s H vs Q E hr hsp;exact ⟨t, h.nox, q⟩
end
section
variable {X : Cx} {W : WX} {e a b c o i : Expr} {es rest : List Expr} {pos p q p2 tpos apos cpos pos' np : Pos} {x y z f mn C : Str} {K : aC} {ma mb mc mo mx : FE} {mas : FA} {B : Addr -> Prop} {φ φ' : List Addr} {S S' : aL} {H H' : Hp} {σ : L2.St} {Q : VK} {m n : FS} {D : Ends} {ps : List Str} {md : FD} {j k : Nat}
theorem Pd {i j : Nat} {px py pt : Pos} {kt k2 pt2} (hc : X.calm = true) (hN : X.N.Nodup) (hi : X.N[i]? = some x) (hj : X.N[j]? = some y) (hij : i ≠ j)
  (hx : X.env.scope.names.lookup x = some .local) (hy : X.env.scope.names.lookup y = some .local) (ha : PE X a (cL X.K W ma)) (hb : PE X b (cL X.K W mb))
  (hw : swappedStores [.Tuple [.Name x px, .Name y py] kt pt] (.Tuple [a, b] k2 pt2) X.env = pure (some [x, y]))
  (hs : swapsWithSole [.Tuple [.Name x px, .Name y py] kt pt] (.Tuple [a, b] k2 pt2) pos.line X.env = pure false := by rfl) (h1 : starEach [a, b] X.env = (false, eval a X.env) :: starEach [b] X.env := by rfl) (h2 : starEach [b] X.env = (false, eval b X.env) :: starEach [] X.env := by rfl) :
  PS X (.Assign [.Tuple [.Name x px, .Name y py] kt pt] (.Tuple [a, b] k2 pt2) pos) (jX X.K W (mPar i j ma mb)) := gO (ps_par hc hN hi hj hij hx hy (pa_cons ha (pa_cons hb pa_nil h2) h1) hw hs) fun D σ H h => by
 obtain ⟨B, φ, S, ρ, I, E, f⟩ := h;exact cO I E f fun φ1 S1 d1 v1 H1 I1 X1 E1 r1 f1 => cO I1 E1 f1 fun φ2 S2 d2 v2 H2 I2 X2 E2 r2 f2 => ⟨_, _, rfl, f2 φ2 _ H2 I2 Ext.refl ((E2.set (r1.ext X2 I1) i).set r2 j)⟩
def NK (n : Nat) : List PH.D := (mQ n).map fun (k : Nat) => PH.D.int (((n : Nat) : Int) - 1 - (k : Int))
def OH (a : FE) : FI := fun ρ S => (a ρ S).bind fun x S1 => match x with
 | .dat (.int j) => if -(2 ^ 62) <= j /\ j < 2 ^ 62 then .ok (NK j.toNat) S1 else .stuck
 | _ => .stuck
end
theorem rd_X1 {K : aC} {mg : Str -> Option Value} {x f : Str} {fs : List Str} {a : Addr} {y : V} {H : Hp} {Q : VK} {D : Ends} (T : XaF K mg x fs) (hf : f ∈ fs) (ha : H a = some (exo a (He.ga K x) none)) (hD : ∀ σ H, D.nx σ H = Q .non H) (h : ∀ dx, H dx = none -> dx ≠ a -> Q .non (upd (upd H dx (exd dx [(f, y)])) a (exo a (He.ga K x) (some dx)))) :
  tOst K f (zX 0) (zX 1) D [some (.ref a), some y] H := ⟨a, He.ga K x, rfl, T.cls, T.no f hf, .inl ⟨ha, fun dx n ne => by rw [hD]; exact h dx n ne⟩⟩
theorem rd_X2 {K : aC} {mg : Str -> Option Value} {x f g : Str} {fs : List Str} {a : Addr} {y z : V} {H : Hp} {Q : VK} {D : Ends} (T : XaF K mg x fs) (hf : f ∈ fs) (hg : g ∈ fs) (ha : H a = some (exo a (He.ga K x) none)) (hD : ∀ σ H, D.nx σ H = Q .non H) (h : ∀ dx, H dx = none -> dx ≠ a -> Q .non (upd (upd (upd H dx (exd dx [(f, y)])) a (exo a (He.ga K x) (some dx))) dx (exd dx [(g, z), (f, y)]))) :
  tSeq (tOst K f (zX 0) (zX 1)) (tOst K g (zX 0) (zX 2)) D [some (.ref a), some y, some z] H :=
 ⟨a, He.ga K x, rfl, T.cls, T.no f hf, .inl ⟨ha, fun dx n ne => ⟨a, He.ga K x, rfl, T.cls, T.no g hg, .inr ⟨dx, [(f, y)], upd_same, by rw [upd_ne ne, upd_same], by simp, by rw [hD]; exact h dx n ne⟩⟩⟩⟩
theorem Oc {K : aC} {C : Str} (h : isB K C = true) (c : Cls K (He.ga K C)) : IsF K C := by
 obtain ⟨h1, h⟩ := He.ba h;obtain ⟨h2, h⟩ := He.ba h;obtain ⟨h3, h4⟩ := He.ba h;exact ⟨c, of_decide_eq_true h1, of_decide_eq_true h2, of_decide_eq_true h3, of_decide_eq_true h4⟩
section
variable {α β : Type} {a b c o i e : FE} {r : FA} {t u : FT} {m n : FS} {ρ : Ev} {S : aL} {x y z : Vl} {f g : Vl -> Vl -> aL -> Res Vl} {h : Vl -> aL -> Res Vl} {md : FD}
theorem CB {d : α} {k : α -> aL -> Res β} : (Res.ok d S).bind k = k d S := rfl
theorem Fw {x : Er} {k : α -> aL -> Res β} : (Res.err x S : Res α).bind k = .err x S := rfl
theorem ET {d : α} {k : α -> aL -> Out} : (Res.ok d S).toS ρ k = k d S := rfl
theorem IF {x : Er} {k : α -> aL -> Out} : (Res.err x S : Res α).toS ρ k = .err x ρ S := rfl
theorem Nh {k : Nat} : aD k ρ S = (match lk ρ k with | some d => .ok d S | none => .stuck) := rfl
theorem g_c {d : D} : mC d ρ S = .ok (.dat d) S := rfl
def kOp1 (f : Vl -> Vl -> aL -> Res Vl) (b : FE) (ρ : Ev) (x : Vl) (S : aL) : Res Vl := (b ρ S).bind (f x)
theorem g_op : aV f a b ρ S = (a ρ S).bind (kOp1 f b ρ) := rfl
theorem g_op1 : kOp1 f b ρ x S = (b ρ S).bind (f x) := rfl
theorem g_1 : m1 h a ρ S = (a ρ S).bind h := rfl
theorem g_B : mB a ρ S = (a ρ S).bind unB := rfl
theorem g_unB {k : Bool} : unB (.dat (.bl k)) S = .ok k S := rfl
theorem Ol : dE a ρ S = (a ρ S).bind AH := rfl
def OW (u : FT) (ρ : Ev) (c : Bool) (S : aL) : Res Bool := if c = true then u ρ S else .ok false S
def kOr (u : FT) (ρ : Ev) (c : Bool) (S : aL) : Res Bool := if c = true then .ok true S else u ρ S
def kNot (c : Bool) (S : aL) : Res Bool := .ok (!c) S
theorem g_and : uO t u ρ S = (t ρ S).bind (OW u ρ) := rfl
theorem g_or : rN t u ρ S = (t ρ S).bind (kOr u ρ) := rfl
theorem g_not : jF t ρ S = (t ρ S).bind kNot := rfl
theorem K6 : OW u ρ true S = u ρ S := rfl
theorem K7 : OW u ρ false S = .ok false S := rfl
theorem MF : kOr u ρ true S = .ok true S := rfl
theorem MG : kOr u ρ false S = u ρ S := rfl
theorem PB {c : Bool} : kNot c S = .ok (!c) S := rfl
def Jt (b : FE) (ρ : Ev) (x : Vl) (S : aL) : Res Vl := match x with
 | .dat (.bl c) => if c = true then b ρ S else .ok (.dat (.bl false)) S
 | _ => .stuck
def OR (b : FE) (ρ : Ev) (x : Vl) (S : aL) : Res Vl := match x with
 | .dat (.bl c) => if c = true then .ok (.dat (.bl true)) S else b ρ S
 | _ => .stuck
theorem Pb : jM a b ρ S = (a ρ S).bind (Jt b ρ) := rfl
theorem g_orV : mOrV a b ρ S = (a ρ S).bind (OR b ρ) := rfl
theorem IK : Jt b ρ (.dat (.bl true)) S = b ρ S := rfl
theorem IL : Jt b ρ (.dat (.bl false)) S = .ok (.dat (.bl false)) S := rfl
theorem K4 : OR b ρ (.dat (.bl true)) S = .ok (.dat (.bl true)) S := rfl
theorem K5 : OR b ρ (.dat (.bl false)) S = b ρ S := rfl
def kNV (k : Bool) (S : aL) : Res Vl := .ok (.dat (.bl (!k))) S
def NY (x : Vl) (S : aL) : Res Vl := (AH x S).bind kNV
theorem Ow : EE a ρ S = (a ρ S).bind NY := rfl
theorem MM : NY x S = (AH x S).bind kNV := rfl
theorem g_kNV {k : Bool} : kNV k S = .ok (.dat (.bl (!k))) S := rfl
def Gj (b : FE) (ρ : Ev) (x : Vl) (k : Bool) (S : aL) : Res Vl := if k = true then .ok x S else b ρ S
def kOrT (b : FE) (ρ : Ev) (x : Vl) (S : aL) : Res Vl := (AH x S).bind (Gj b ρ x)
theorem g_orT : OI a b ρ S = (a ρ S).bind (kOrT b ρ) := rfl
theorem PF : kOrT b ρ x S = (AH x S).bind (Gj b ρ x) := rfl
theorem K8 : Gj b ρ x true S = .ok x S := rfl
theorem K9 : Gj b ρ x false S = b ρ S := rfl
theorem K1 {k : Bool} : AH (.dat (.bl k)) S = .ok k S := rfl
def Lw (g : Vl -> Vl -> aL -> Res Vl) (c : FE) (ρ : Ev) (y z : Vl) (S : aL) : Res Vl := match z with
 | .dat (.bl k) => if k = true then (c ρ S).bind (g y) else .ok (.dat (.bl false)) S
 | _ => .stuck
def OU (f g : Vl -> Vl -> aL -> Res Vl) (c : FE) (ρ : Ev) (x y : Vl) (S : aL) : Res Vl := (f x y S).bind (Lw g c ρ y)
def kCh1 (f g : Vl -> Vl -> aL -> Res Vl) (b c : FE) (ρ : Ev) (x : Vl) (S : aL) : Res Vl := (b ρ S).bind (OU f g c ρ x)
theorem MW : mP f g a b c ρ S = (a ρ S).bind (kCh1 f g b c ρ) := rfl
theorem g_ch1 : kCh1 f g b c ρ x S = (b ρ S).bind (OU f g c ρ x) := rfl
theorem g_ch2 : OU f g c ρ x y S = (f x y S).bind (Lw g c ρ y) := rfl
theorem MX : Lw g c ρ y (.dat (.bl true)) S = (c ρ S).bind (g y) := rfl
theorem MY : Lw g c ρ y (.dat (.bl false)) S = .ok (.dat (.bl false)) S := rfl
def kIf (a b : FE) (ρ : Ev) (c : Bool) (S : aL) : Res Vl := if c = true then a ρ S else b ρ S
theorem g_if : mIf t a b ρ S = (t ρ S).bind (kIf a b ρ) := rfl
theorem MH : kIf a b ρ true S = a ρ S := rfl
theorem MI : kIf a b ρ false S = b ρ S := rfl
theorem Ni : aJ ρ S = .ok [] S := rfl
def Fm (x : Vl) (xs : List Vl) (S : aL) : Res (List Vl) := .ok (x :: xs) S
def Jp (r : FA) (ρ : Ev) (x : Vl) (S : aL) : Res (List Vl) := (r ρ S).bind (Fm x)
theorem KJ : aB a r ρ S = (a ρ S).bind (Jp r ρ) := rfl
theorem Gz : Jp r ρ x S = (r ρ S).bind (Fm x) := rfl
theorem Gy {xs : List Vl} : Fm x xs S = .ok (x :: xs) S := rfl
def DC (cl : Bool) (xs : List Vl) (S : aL) : Res Vl := match tS xs with
 | some ds => if ds.length <= sizeLine then newL cl ds S else .stuck
 | none => .stuck
def kTup (xs : List Vl) (S : aL) : Res Vl := match tS xs with
 | some ds => if ds.length <= sizeLine then .ok (.dat (.tup ds)) S else .stuck
 | none => .stuck
theorem g_lst {cl : Bool} : cN cl r ρ S = (r ρ S).bind (DC cl) := rfl
theorem g_tup : cH r ρ S = (r ρ S).bind kTup := rfl
theorem Fx : tS [] = some [] := rfl
theorem EY {d : D} {xs : List Vl} : tS (.dat d :: xs) = (match tS xs with | some ds => some (d :: ds) | none => none) := rfl
theorem kTup0 : kTup [] S = .ok (.dat (.tup [])) S := rfl
theorem kTup1 {d : D} : kTup [.dat d] S = .ok (.dat (.tup [d])) S := rfl
theorem kTup2 {d e : D} : kTup [.dat d, .dat e] S = .ok (.dat (.tup [d, e])) S := rfl
theorem kTup3 {d e f : D} : kTup [.dat d, .dat e, .dat f] S = .ok (.dat (.tup [d, e, f])) S := rfl
theorem kTup4 {d e f g : D} : kTup [.dat d, .dat e, .dat f, .dat g] S = .ok (.dat (.tup [d, e, f, g])) S := rfl
theorem kLst0 {cl : Bool} : DC cl [] S = newL cl [] S := rfl
theorem kLst1 {cl : Bool} {d : D} : DC cl [.dat d] S = newL cl [d] S := rfl
theorem kLst2 {cl : Bool} {d e : D} : DC cl [.dat d, .dat e] S = newL cl [d, e] S := rfl
theorem kLst3 {cl : Bool} {d e f : D} : DC cl [.dat d, .dat e, .dat f] S = newL cl [d, e, f] S := rfl
theorem Oy {ds : List D} : newL false ds S = .ok (.dat (.lst ds)) S := rfl
theorem Ox {ds : List D} : newL true ds S = .ok (.cel S.length) (S ++ [.lst ds]) := rfl
theorem KP : aR md r ρ S = (r ρ S).bind md := rfl
def OO (cl : Bool) (x : Vl) (lo : Option Int) (hi : Option Int) (S : aL) : Res Vl := L9 cl x lo hi S
def OP (cl : Bool) (h : FO) (ρ : Ev) (x : Vl) (lo : Option Int) (S : aL) : Res Vl := (h ρ S).bind (OO cl x lo)
def kSl0 (cl : Bool) (l h : FO) (ρ : Ev) (x : Vl) (S : aL) : Res Vl := (l ρ S).bind (OP cl h ρ x)
theorem g_sl {cl : Bool} {l h : FO} : Jd cl a l h ρ S = (a ρ S).bind (kSl0 cl l h ρ) := rfl
theorem g_sl0 {cl : Bool} {l h : FO} : kSl0 cl l h ρ x S = (l ρ S).bind (OP cl h ρ x) := rfl
theorem g_sl1 {cl : Bool} {h : FO} {lo : Option Int} : OP cl h ρ x lo S = (h ρ S).bind (OO cl x lo) := rfl
theorem g_sl2 {cl : Bool} {lo hi : Option Int} : OO cl x lo hi S = L9 cl x lo hi S := rfl
theorem g_noP : zU ρ S = .ok none S := rfl
def NX (x : Vl) (S : aL) : Res (Option Int) := match x with
 | .dat (.int i) => .ok (some i) S
 | _ => .stuck
theorem Ov : qZ a ρ S = (a ρ S).bind NX := rfl
theorem ML {i : Int} : NX (.dat (.int i)) S = .ok (some i) S := rfl
def OT (x : Vl) (S : aL) : Res Vl := match x with
 | .cel n => (match S[n]? with
  | some (.lst ds) => .ok (.dat (.lst ds)) (S.set n .dead)
  | _ => .stuck)
 | _ => .stuck
theorem g_frz : EF a ρ S = (a ρ S).bind OT := rfl
theorem DJ {n : Nat} {ds : List D} (h : S[n]? = some (.lst ds)) : OT (.cel n) S = .ok (.dat (.lst ds)) (S.set n .dead) := by simp only [OT, h]
def OV (b : FE) (ρ : Ev) (x : Vl) (S : aL) : Res Vl := match lA S x with
 | some _ => (b ρ S).bind (Eh x)
 | none => .stuck
theorem g_app : I6 a b ρ S = (a ρ S).bind (OV b ρ) := rfl
theorem DK {n : Nat} {ds : List D} (h : S[n]? = some (.lst ds)) : OV b ρ (.cel n) S = (b ρ S).bind (Eh (.cel n)) := by simp only [OV, lA, h]
theorem DL {n : Nat} {ds : List D} {d : D} (h : S[n]? = some (.lst ds)) (hl : ds.length < sizeLine) : Eh (.cel n) (.dat d) S = .ok (.dat .non) (S.set n (.lst (ds ++ [d]))) := by simp only [Eh, h, hl, if_true]
def Out.seq (o : Out) (n : FS) : Out := match o with
 | .next ρ S => n ρ S
 | o => o
theorem CA : aP m n ρ S = (m ρ S).seq n := rfl
theorem Fs : (Out.next ρ S).seq n = n ρ S := rfl
theorem IG {d : Vl} : (Out.ret d S).seq n = .ret d S := rfl
theorem IH {x : Er} : (Out.err x ρ S).seq n = .err x ρ S := rfl
theorem IJ : (Out.brk ρ S).seq n = .brk ρ S := rfl
theorem II : (Out.cnt ρ S).seq n = .cnt ρ S := rfl
theorem Oo : bB ρ S = .next ρ S := rfl
def OQ (d : Vl) (S : aL) : Out := .ret d S
theorem g_ret : bG a ρ S = (a ρ S).toS ρ OQ := rfl
theorem PD {d : Vl} : OQ d S = .ret d S := rfl
def Nb (ρ : Ev) (d : Vl) (S : aL) : Out := .next ρ S
theorem PZ : An a ρ S = (a ρ S).toS ρ (Nb ρ) := rfl
theorem MQ {d : Vl} : Nb ρ d S = .next ρ S := rfl
def OS (m n : FS) (ρ : Ev) (c : Bool) (S : aL) : Out := if c = true then m ρ S else n ρ S
theorem g_ifS : bS t m n ρ S = (t ρ S).toS ρ (OS m n ρ) := rfl
theorem KC : OS m n ρ true S = m ρ S := rfl
theorem KD : OS m n ρ false S = n ρ S := rfl
def Lx (t : Tg) (ρ : Ev) (d : Vl) (S : aL) : Out := match mR t d ρ with
 | some ρ' => .next ρ' S
 | none => .stuck
theorem g_asg {t : Tg} : bK a t ρ S = (a ρ S).toS ρ (Lx t ρ) := rfl
theorem PP {k : Nat} {d : Vl} : Lx (.nm k) ρ d S = .next (ρ.set k (some d)) S := rfl
theorem MS {i j : Nat} {d e : D} : Lx (.tp [i, j]) ρ (.dat (.tup [d, e])) S = .next ((ρ.set i (some (.dat d))).set j (some (.dat e))) S := rfl
theorem MR {i j k : Nat} {d e f : D} : Lx (.tp [i, j, k]) ρ (.dat (.tup [d, e, f])) S = .next (((ρ.set i (some (.dat d))).set j (some (.dat e))).set k (some (.dat f))) S := rfl
def kFor (t : Tg) (m : FS) (ρ : Ev) (ds : List D) (S : aL) : Out := loop t m ds ρ S
theorem g_for {mi : FI} {t : Tg} : lN mi t m ρ S = (mi ρ S).toS ρ (kFor t m ρ) := rfl
theorem PN {t : Tg} {ds : List D} : kFor t m ρ ds S = loop t m ds ρ S := rfl
def Bf (cl : Bool) (t : Tg) (u : FT) (e : FE) (ρ : Ev) (vs : List Nat) (ds : List D) (S : aL) : Res Vl := if ds.length <= sizeLine then (match lB t u e (wipeE ρ vs) ds S with
 | .ok es S2 => newL cl es S2
 | _ => .stuck) else .stuck
theorem g_lc {cl : Bool} {mi : FI} {t : Tg} {vs : List Nat} : A4 cl mi t u e vs ρ S = (mi ρ S).bind (Bf cl t u e ρ vs) := rfl
theorem Os : gE a ρ S = (a ρ S).bind itemsOf := rfl
theorem KH {ds : List D} : itemsOf (.dat (.lst ds)) S = .ok ds S := rfl
theorem KG {ds : List D} : itemsOf (.dat (.tup ds)) S = .ok ds S := rfl
def Gi (x : Vl) (S : aL) : Res (List D) := match x with
 | .dat (.int j) => if -(2 ^ 62) <= j /\ j < 2 ^ 62 then .ok (gH 0 j.toNat) S else .stuck
 | _ => .stuck
theorem Ot : oO a ρ S = (a ρ S).bind Gi := rfl
theorem iK {j : Int} (h1 : -(2 ^ 62) <= j) (h2 : j < 2 ^ 62) : Gi (.dat (.int j)) S = .ok (gH 0 j.toNat) S := by unfold Gi; exact if_pos ⟨h1, h2⟩
def kRev1 (x : Vl) (S : aL) : Res (List D) := match x with
 | .dat (.int j) => if -(2 ^ 62) <= j /\ j < 2 ^ 62 then .ok (NK j.toNat) S else .stuck
 | _ => .stuck
theorem MB : OH a ρ S = (a ρ S).bind kRev1 := rfl
def Na (x : Vl) (S : aL) : Res (List D) := match x with
 | .dat (.lst ds) => .ok (dA 0 ds) S
 | _ => .stuck
theorem PY : vU a ρ S = (a ρ S).bind Na := rfl
theorem MP {ds : List D} : Na (.dat (.lst ds)) S = .ok (dA 0 ds) S := rfl
def Out.wipe (o : Out) (is : List Nat) : Out := match o with
 | .next ρ S => .next (wipeE ρ is) S
 | .cnt ρ S => .cnt (wipeE ρ is) S
 | .brk ρ S => .brk (wipeE ρ is) S
 | o => o
theorem Og {is : List Nat} : gD is m ρ S = (m ρ S).wipe is := by unfold gD Out.wipe; cases m ρ S <;> rfl
theorem ER {is : List Nat} : (Out.next ρ S).wipe is = .next (wipeE ρ is) S := rfl
theorem Fo {is : List Nat} {d : Vl} : (Out.ret d S).wipe is = .ret d S := rfl
theorem Fp {is : List Nat} {x : Er} : (Out.err x ρ S).wipe is = .err x ρ S := rfl
theorem Pc {cl : Bool} {i j : Int} : dJ cl (.dat (.int i)) (.dat (.int j)) S = .ok (.dat (.int (i + j))) S := rfl
theorem Om {i j : Int} : oB (.dat (.int i)) (.dat (.int j)) S = .ok (.dat (.int (i - j))) S := rfl
theorem gW {i j : Int} (h : 0 < j) : tQ (.dat (.int i)) (.dat (.int j)) S = .ok (.dat (.int (i % j))) S := if_pos h
theorem Ft {i j : Int} (h : IntMulOk i j) : xX (.dat (.int i)) (.dat (.int j)) S = .ok (.dat (.int (i * j))) S := if_pos h
theorem A9 {i j : Int} (h : CDiv i j) : rC (.dat (.int i)) (.dat (.int j)) S = .ok (.dat (.int (i / j))) S := if_pos h
theorem g_ltI {i j : Int} : BV (.dat (.int i)) (.dat (.int j)) S = .ok (.dat (.bl (decide (i < j)))) S := rfl
theorem g_leI {i j : Int} : HE (.dat (.int i)) (.dat (.int j)) S = .ok (.dat (.bl (decide (i <= j)))) S := rfl
theorem g_gtI {i j : Int} : Eg (.dat (.int i)) (.dat (.int j)) S = .ok (.dat (.bl (decide (j < i)))) S := rfl
theorem g_geI {i j : Int} : fGe (.dat (.int i)) (.dat (.int j)) S = .ok (.dat (.bl (decide (j <= i)))) S := rfl
theorem g_eqI {i j : Int} : eZ (.dat (.int i)) (.dat (.int j)) S = .ok (.dat (.bl (decide (i = j)))) S := rfl
theorem g_neI {i j : Int} : BU (.dat (.int i)) (.dat (.int j)) S = .ok (.dat (.bl (!decide (i = j)))) S := rfl
theorem g_eqS {i j : Str} : eZ (.dat (.str i)) (.dat (.str j)) S = .ok (.dat (.bl (decide (i = j)))) S := rfl
theorem g_neS {i j : Str} : BU (.dat (.str i)) (.dat (.str j)) S = .ok (.dat (.bl (!decide (i = j)))) S := rfl
theorem g_eqB {i j : Bool} : eZ (.dat (.bl i)) (.dat (.bl j)) S = .ok (.dat (.bl (i == j))) S := by cases i <;> cases j <;> rfl
theorem g_neB {i j : Bool} : BU (.dat (.bl i)) (.dat (.bl j)) S = .ok (.dat (.bl (!(i == j)))) S := by cases i <;> cases j <;> rfl
theorem g_neg {i : Int} : sM (.dat (.int i)) S = .ok (.dat (.int (-i))) S := rfl
theorem PQ {i : Int} : B0 (.dat (.int i)) S = .ok (.dat (.int i)) S := rfl
theorem PR {k : Bool} : B0 (.dat (.bl k)) S = .ok (.dat (.int (if k then 1 else 0))) S := rfl
theorem P8 {xs : List D} : dY (.dat (.tup xs)) S = .ok (.dat (.int xs.length)) S := rfl
theorem P9 {xs : List D} : dY (.dat (.lst xs)) S = .ok (.dat (.int xs.length)) S := rfl
theorem Fu {n : Nat} {xs : List D} (h : S[n]? = some (.lst xs)) : dY (.cel n) S = .ok (.dat (.int xs.length)) S := by simp only [dY, lA, h]
theorem yY {xs : List D} {k : Int} {d : D} (h : atI xs k = some d) : cM (.dat (.tup xs)) (.dat (.int k)) S = .ok (.dat d) S := by simp only [cM, h]
theorem kL {xs : List D} {k : Int} {d : D} (h : atI xs k = some d) : cM (.dat (.lst xs)) (.dat (.int k)) S = .ok (.dat d) S := by simp only [cM, lA, h]
theorem g_ixC {n : Nat} {xs : List D} {k : Int} {d : D} (h : S[n]? = some (.lst xs)) (h2 : atI xs k = some d) : cM (.cel n) (.dat (.int k)) S = .ok (.dat d) S := by simp only [cM, lA, h, h2]
theorem KQ {cl : Bool} {xs ys : List D} (h : xs.length + ys.length <= sizeLine) : dJ cl (.dat (.tup xs)) (.dat (.tup ys)) S = .ok (.dat (.tup (xs ++ ys))) S := if_pos h
theorem lO {cl : Bool} {xs ys : List D} (h : xs.length + ys.length <= sizeLine) : dJ cl (.dat (.lst xs)) (.dat (.lst ys)) S = newL cl (xs ++ ys) S := by simp only [dJ, lA, h, if_true]
theorem EX {neg : Bool} : Bi neg x (.dat .non) S = .ok (.dat (.bl (if neg then !(isNon x) else isNon x))) S := rfl
theorem cQ {α : Type} {xs : List α} {k : Int} {n : Nat} (h : k = (n : Int)) : atI xs k = xs[n]? := by
 subst h;unfold atI ixN
 by_cases hl : n < xs.length
 ·rw [if_pos (by omega), if_pos (by omega)]; simp
 ·rw [if_pos (by omega), if_neg (by omega)]
  simp [rO hl]
theorem Ng : hW ρ S = .ok true S := rfl
theorem Oi {xs : List D} : AH (.dat (.lst xs)) S = .ok (!xs.isEmpty) S := rfl
theorem Oj {i : Int} : AH (.dat (.int i)) S = .ok (i != 0) S := rfl
theorem EV {xs : List D} : isNon (.dat (.tup xs)) = false := rfl
theorem EW : isNon (.dat .non) = true := rfl
theorem g_slT {cl : Bool} {xs : List D} {lo hi : Option Int} : L9 cl (.dat (.tup xs)) lo hi S = .ok (.dat (.tup (cutD xs lo hi))) S := rfl
theorem g_slL {cl : Bool} {xs : List D} {lo hi : Option Int} : L9 cl (.dat (.lst xs)) lo hi S = newL cl (cutD xs lo hi) S := rfl
theorem g_slS {cl : Bool} {ns : List Int} {lo hi : Option Int} : L9 cl (.scr ns) lo hi S = newL cl (cutD (ns.map D.int) lo hi) S := rfl
theorem ME {cl : Bool} {xs : List D} : tY cl (.dat (.lst xs)) S = newL cl xs S := rfl
theorem MD {cl : Bool} {xs : List D} : tY cl (.dat (.tup xs)) S = newL cl xs S := rfl
theorem pW {xs : List D} : fTuple (.dat (.lst xs)) S = .ok (.dat (.tup xs)) S := rfl
end
section
variable {a b o : FE} {r : FA} {m n : FS} {ρ : Ev} {S : aL} {x y : Vl} {md : FD} {C f : Str} {ns : List Str}
theorem MC : xQ C ρ S = .err ⟨C, [], []⟩ ρ S := rfl
def DB (C : Str) (ns : List Str) (ρ : Ev) (xs : List Vl) (S : aL) : Out := match tS xs with
 | some ds => if ds.length = ns.length then .err ⟨C, ns, ds.reverse⟩ ρ S else .stuck
 | none => .stuck
theorem K3 : oP C ns r ρ S = (r ρ S).toS ρ (DB C ns ρ) := rfl
theorem IP {f : Str} {d : D} : DB C [f] ρ [.dat d] S = .err ⟨C, [f], [d]⟩ ρ S := rfl
theorem IM {f g : Str} {d e : D} : DB C [f, g] ρ [.dat d, .dat e] S = .err ⟨C, [f, g], [e, d]⟩ ρ S := rfl
def DA (C f : Str) (ρ : Ev) (d x : Vl) (S : aL) : Out := match LU S C f x d with
 | some S3 => .next ρ S3
 | none => .stuck
def NW (C f : Str) (o : FE) (ρ : Ev) (d : Vl) (S : aL) : Out := (o ρ S).toS ρ (DA C f ρ d)
theorem Oq : Gf C f o a ρ S = (a ρ S).toS ρ (NW C f o ρ) := rfl
theorem MJ {d : Vl} : NW C f o ρ d S = (o ρ S).toS ρ (DA C f ρ d) := rfl
theorem EU {n : Nat} {d : Vl} {fs : List (Str × Vl)} (h : S[n]? = some (.ins C fs)) (hl : fs.length < 1000) : DA C f ρ d (.cel n) S = .next ρ (S.set n (.ins C (Bv f d fs))) := by simp only [DA, LU, h, true_and, hl, if_true]
def C4 (kp : Bool) (C : Str) (md : FD) (ds : List Vl) (S : aL) : Res Vl := made kp S.length (md (.cel S.length :: ds) (S ++ [.ins C []]))
theorem P7 {kp : Bool} : vT kp C md r ρ S = (r ρ S).bind (C4 kp C md) := rfl
def Fl (md : FD) (x : Vl) (ds : List Vl) (S : aL) : Res Vl := md (x :: ds) S
def NZ (C f : Str) (md : FD) (r : FA) (ρ : Ev) (x : Vl) (S : aL) : Res Vl := if rB S C f x = true then (r ρ S).bind (Fl md x) else .stuck
theorem P6 : Gg C f md o r ρ S = (o ρ S).bind (NZ C f md r ρ) := rfl
theorem Gw (h : rB S C f x = true) : NZ C f md r ρ x S = (r ρ S).bind (Fl md x) := if_pos h
theorem KA {ds : List Vl} : Fl md x ds S = md (x :: ds) S := rfl
def IB (C f : Str) (x : Vl) (S : aL) : Res Vl := match Eb S C f x with
 | some d => .ok d S
 | none => .stuck
theorem g_fld : Fg C f o ρ S = (o ρ S).bind (IB C f) := rfl
theorem MO {ns : List Str} {xs : List D} : IB C f (.dat (.ins C ns xs)) S = (match (ns.zip xs).lookup f with | some d => .ok (.dat d) S | none => .stuck) := by
 simp only [IB, Eb, if_true];cases (ns.zip xs).lookup f <;> rfl
def Out.tryA (o : Out) (cs : List Str) (c : Str) (k : Nat) (its : List XIt) : Out := match o with
 | .err e ρ' S' => if (e.cls ∈ cs /\ c ∈ cs) /\ k < ρ'.length then (if e.cls = c then (match itF e its with
   | some ds => if ds.length <= sizeLine then .ret (.dat (.tup ds)) S' else .stuck
   | none => .stuck) else .err e ρ' S') else .stuck
 | o => o
theorem Oh {cs : List Str} {c : Str} {k : Nat} {its : List XIt} : NS cs m c k its ρ S = (m ρ S).tryA cs c k its := by unfold NS Out.tryA; cases m ρ S <;> rfl
theorem ES {cs : List Str} {c : Str} {k : Nat} {its : List XIt} : (Out.next ρ S).tryA cs c k its = .next ρ S := rfl
theorem Fq {cs : List Str} {c : Str} {k : Nat} {its : List XIt} {d : Vl} : (Out.ret d S).tryA cs c k its = .ret d S := rfl
end
theorem gM : ((0 : Nat) : Int) = 0 := rfl
theorem vX : ((1 : Nat) : Int) = 1 := rfl
theorem Mh : ((2 : Nat) : Int) = 2 := rfl
theorem Mg : ((3 : Nat) : Int) = 3 := rfl
theorem Mf : ((4 : Nat) : Int) = 4 := rfl
theorem Me : ((5 : Nat) : Int) = 5 := rfl
theorem Md : ((6 : Nat) : Int) = 6 := rfl
theorem Mb : ((7 : Nat) : Int) = 7 := rfl
theorem Ma : ((8 : Nat) : Int) = 8 := rfl
theorem MZ : ((9 : Nat) : Int) = 9 := rfl
theorem KO : ((10 : Nat) : Int) = 10 := rfl
theorem KN : ((11 : Nat) : Int) = 11 := rfl
theorem KM : ((12 : Nat) : Int) = 12 := rfl
theorem KL : ((13 : Nat) : Int) = 13 := rfl
theorem str_inj {a b : String} (h : Str.ofString a = Str.ofString b) : a = b := by
 rw [Str.ofString_eq_toList, Str.ofString_eq_toList] at h
 injection h with h
 have h2 := congrArg Array.toList h;simp only at h2;have : ∀ {l m : List Char}, l.map Char.toNat = m.map Char.toNat -> l = m := fun {l} => by
  induction l with
  | nil => intro m h; cases m <;> simp at h ⊢
  | cons c l ih =>
   intro m h;cases m with
   | nil => simp at h
   | cons d m =>
    simp only [aU, List.cons.injEq] at h;rw [ih h.2];have : c = d := by
     have := congrArg Char.ofNat h.1
     simpa using this
    rw [this]
 exact String.toList_inj.mp (this h2)
theorem J5 {a b : String} : (Str.ofString a = Str.ofString b) = (a = b) := propext ⟨str_inj, fun h => by rw [h]⟩
theorem walk_x {l : PySem.W.OpenLaw} {n k : Nat} {q : Program} {loose : List Str} {XP : (Str -> Option Value) -> Heap -> Prop} {YP : World -> Heap -> Prop} {d : DefRec} {x : Str} (e1 : l.most = some n) (e2 : n <= sizeLine) (e3 : d.params.defaults = []) (e4 : Room k callerA)
  (e5 : ∀ (w : World) (mg : Str -> Option Value) (fa : Addr) (h : Heap), YP w h -> h.Ns mainGlobals mg -> mg d.name = some (.ref fa) -> ∃ (K : aC) (fd : FuncData) (sp : Sp), K.In h /\ (∀ (s : Shared) (u : Value), BindsTo s fd ⟨[u], []⟩ [(x, u)]) /\
   (∀ (H : Hp) (a : Addr) (ns : List Int), ns.length <= n -> Only H -> SqL K H a (ns.map V.int) -> sp [.ref a] H (fun v _ => v = .bl true) fun _ _ _ => False) /\ ∀ base : Heap, K.In base -> base.Ns mainGlobals mg -> FnOk l.prog w K mg base (L2.CX l.prog w) k fa fd [x] sp) :
  PySem.W.WalkO q loose XP YP l.row.toRowW d [] (fun f vs => PySem.call f vs) :=
 Att.attach_call e1 e3 fun w s0 s1 mg mb fa o pm cd doc a vs ns G Y _ _ _ m1 m2 m3 m4 m5 => by
  obtain ⟨K, fd, sp, KX, hb, hs, hF⟩ := e5 w mg fa _ Y G.T.g m1;refine law_call KX G.T.g G.T.b G.T.builtins G.T.nolimit m5 m2 m3 (Nat.le_trans m4 e2) e4 hF hb (fun H h1 h2 => hs H a ns m4 h1 h2) fun H e s' z => ?_
  obtain ⟨_, _, _, _, _, _, _, _, _, _, _, _, h⟩ := z;exact h
section
variable {X : Cx} {W : WX} {C : Str} {md : FD} {o i a b : Expr} {mo mi ma mb : FE} {pos p : Pos} {j k : Nat} {ps : List Str} {K : aC}
theorem H9 {q m : Str} {st : Stmt} (F : HS K C m q st) : Dc K (He.ma K (He.ga K C) m) = true := by
 obtain ⟨fd, F⟩ := F;obtain ⟨oc, od, dV, kV, doc, pm, an, cdv, ct, osl, _, lk, _⟩ := F.ex;unfold Dc;rw [lk]
def sN (C : Str) (md : FD) (x y : Vl) (S : aL) : Res Vl := if rB S C "" x = true then md [x, y] S else .stuck
theorem Kh (F : OkMX X.prog X.w X.K X.mg X.base j C "__getitem__" ps (spF X.K md)) (hr : Room k X.A) (tk : Takes X W) (fi : Dc X.K (He.ma X.K (He.ga X.K C) "__getitem__") = true) (ho : PE X o (cL X.K W mo)) (hi : PE X i (cL X.K W mi)) (hjk : j + 1 <= k := by decide)
  (hs : ∀ x u, subscripted i true x u = runValue (.builtin "lifetime.subscript" ⟨[x, u], []⟩) := by intro _ _; rfl) : PE X (.Subscript o i pos) (cL X.K W (aV (sN C md) mo mi)) := by
 obtain ⟨⟨fd, F, hb⟩, mt⟩ := F;refine ⟨fun pins s σ H Q I h => ?_⟩
 have h' : cL X.K W mo σ H fun x H1 => cL X.K W mi σ H1 fun y H2 => ∃ a dx fs, x = .ref a /\ H2 a = some (.ins (He.ga X.K C) dx fs) /\ spF X.K md [x, y] H2 Q (WE W σ) :=
  bT (k := fun x ρ S => (mi ρ S).bind fun y S2 => sN C md x y S2) h fun B φ S ρ d v H1 I E r f => gF I E f fun φ' S' e w H2 I2 X2 E2 r2 f2 => by
   unfold sN at f2;split at f2
   ·rename_i hh
    obtain ⟨a, dx, fs, rfl, h1, h2⟩ := DF I2 (r.ext X2 I) hh;exact ⟨a, dx, fs, rfl, h1, B, φ', S', [d, e], I2, ⟨_, _, rfl, r.ext X2 I, _, _, rfl, r2, rfl⟩, f2.toE⟩
   ·exact f2.elim
 refine Subscript_ (binT ho hi I h' fun v u s2 x y H2 I2 rx ry q => ?_)
 obtain ⟨a, dx, fs, rfl, ha, h⟩ := q;cases rx;obtain ⟨mA, J, _⟩ := ins_get I2.hok ha;obtain ⟨od, J, _⟩ := J.look;obtain ⟨fm, hF⟩ := I2.fr;refine PySem.W.sub_K hF I2.ok.mod.kin J mt.at_ fi mt.fn ?_ (hs _ _)
 have e := I2.env0;have hl := F.len _ _ _ _ h;have b1 := hb s2 [.ref a, u] I2.kIn (by simpa using hl)
 have hr' : Room (j + 1) X.A := hr.mono hjk;have run := F.run X.A.in1 X.stack s2 H2 ⟨[.ref a, u], []⟩ [.ref a, u] [.ref a, y] Q (WE W σ) hr'.in1 ⟨e.frames, e.mod, e.bs, e.bsz, e.funs, e.frf, e.hok, e.bare⟩ (by simpa using b1) (.cons rfl (.cons ry .nil)) h
 refine wpAny_call (codeAny_mono run fun r s' hq => ?_)
 cases r with
 | error e => exact passAt tk σ pins H2 s2 e s' I2 hq
 | ok fl =>
  cases fl with
  | ret w => exact I2.after hq
  | next => exact False.elim hq
  | brk => exact False.elim hq
  | cont => exact False.elim hq
def rInO (C : Addr) (sp : Sp) : R2 := fun y x H Q => match x with
 | .ref a => ∃ dx fs, H a = some (.ins C dx fs) /\ sp [.ref a, y] H (fun z H' => match z with | .bl r => Q (.bl r) H' | _ => False) E0
 | _ => False
theorem Ae {sp : Sp} (F : OkMX X.prog X.w X.K X.mg X.base j C "__contains__" ps sp) (hr : Room k X.A) (hjk : j <= k := by decide) : OpR X (compareOp .In) (rInO (He.ga X.K C) sp) := by
 intro pins s σ H y x u v Q I ry rx h;obtain ⟨⟨fd, F, hb⟩, mt⟩ := F
 replace hr := hr.mono hjk
 cases x with
 | ref a =>
  obtain ⟨dx, fs, ha, h⟩ := h;cases rx;obtain ⟨mA, J, _⟩ := ins_get I.hok ha;obtain ⟨od, J, _⟩ := J.look;obtain ⟨fm, hF⟩ := I.fr;refine PySem.W.in_K hF I.ok.mod.kin J mt.at_ mt.fn ?_
  have e := I.env0;have hl := F.len _ _ _ _ h;have b1 := hb s [.ref a, u] I.kIn (by simpa using hl)
  have run := F.run X.A X.stack s H ⟨[.ref a, u], []⟩ [.ref a, u] [.ref a, y] _ E0 hr e (by simpa using b1) (.cons rfl (.cons ry .nil)) h
  refine wpAny_call (codeAny_mono run fun q s' hq => ?_)
  cases q with
  | error e => obtain ⟨_, _, _, _, _, _, _, _, _, _, _, _, z⟩ := hq; exact z.elim
  | ok fl =>
   cases fl with
   | ret w =>
    obtain ⟨z, H', I', rz, hz⟩ := I.after hq;cases z with
    | bl r =>
     cases rz;exact wpAny_pure ⟨.bl r, H', I', rfl, hz⟩
    | _ => exact hz.elim
   | next => exact False.elim hq
   | brk => exact False.elim hq
   | cont => exact False.elim hq
 | _ => exact h.elim
def Bj (C : Str) (md : FD) (y x : Vl) (S : aL) : Res Vl := if rB S C "" x = true then HK (md [x, y] S) else .stuck
theorem E7 : eW K (rInO (He.ga K C) (spF K md)) (Bj C md) := fun {W σ B φ S H x y d e Q} I r1 r2 f => by
 unfold Bj at f;split at f
 ·rename_i hi
  obtain ⟨a, dx, fs, rfl, h1, h2⟩ := DF I r2 hi;refine ⟨dx, fs, h1, B, φ, S, [e, d], I, ⟨_, _, rfl, r2, _, _, rfl, r1, rfl⟩, ?_⟩
  unfold HK at f;split at f
  ·rename_i n S' q
   rw [q];intro φ' v H' I' X' r';cases r';exact f φ' _ H' I' X' rfl
  ·exact f.elim
 ·exact f.elim
theorem boot_sorted : bootBuiltins "sorted" = some (.builtin "sorted") := by decide +kernel
def Jn (x : Vl) (S : aL) : Res (List PH.D) := match x with
 | .dat (.lst ds) => .ok ds.reverse S
 | _ => .stuck
def mRevL (a : FE) : FI := fun ρ S => (a ρ S).bind Jn
def Ay (x y : Vl) (S : aL) : Res Vl := match x, y with
 | .dat (.int i), .dat (.int j) => .ok (.dat (.int (if j < i then j else i))) S
 | _, _ => .stuck
theorem boot_min : bootBuiltins "min" = some (.builtin "min") := by decide +kernel
theorem Ph (hm : X.mg "min" = none) (ha : PE X a (cL X.K W ma)) (hb : PE X b (cL X.K W mb)) (hc : X.calm = true := by rfl) (hg : Gl X "min" := by rfl) (hs : starEach [a, b] X.env = (false, eval a X.env) :: starEach [b] X.env := by rfl) (hs2 : starEach [b] X.env = [(false, eval b X.env)] := by rfl) (hpl : (backTo pos (starEach [b] X.env)).any (·.1) = false := by rfl) : PE X (.Call (.Name "min" p) [a, b] [] pos) (cL X.K W (aV Ay ma mb)) :=
 cG (pe_callB (call_min2 hc) hg hm boot_min (pa_cons ha (pa_cons hb pa_nil hs2) hs) (he := hs) (hpl := hpl)) fun σ H Q h =>
  bT (k := fun x ρ S => (mb ρ S).bind fun y S2 => Ay x y S2) h fun B φ S ρ d v H1 I E r f => gF I E f fun φ' S' e w H2 I2 X2 E2 r2 f2 => by
   unfold Ay at f2;split at f2
   ·cases r
    cases r2;exact ⟨_, _, rfl, Fin.now f2 I2 rfl⟩
   ·exact f2.elim
theorem Ou {ρ : Ev} {S : aL} : mRevL ma ρ S = (ma ρ S).bind Jn := rfl
theorem MK {S : aL} {ds : List PH.D} : Jn (.dat (.lst ds)) S = .ok ds.reverse S := rfl
theorem Oz {S : aL} {x y : Int} : Ay (.dat (.int x)) (.dat (.int y)) S = .ok (.dat (.int (if y < x then y else x))) S := rfl
theorem Fv {S : aL} {x y : Vl} (h : rB S C "" x = true) : sN C md x y S = md [x, y] S := if_pos h
theorem KI {S : aL} {x y : Vl} (h : rB S C "" x = true) : Bj C md y x S = HK (md [x, y] S) := if_pos h
theorem Ml {S : aL} {b : Bool} : HK (.ok (.dat (.bl b)) S) = .ok (.dat (.bl b)) S := rfl
def NT (k : Nat) : FS := fun ρ S => match lk ρ k with
 | some (.cel n) => (match S[n]? with
  | some (.lst ds) => .next (ρ.set k (some (.dat (.lst ds)))) (S.set n .dead)
  | _ => .stuck)
 | _ => .stuck
theorem PU {k n : Nat} {ρ : Ev} {S : aL} {ds : List PH.D} (h : lk ρ k = some (.cel n)) (h2 : S[n]? = some (.lst ds)) : NT k ρ S = .next (ρ.set k (some (.dat (.lst ds)))) (S.set n .dead) := by simp only [NT, h, h2]
end
open AutoSeq1 (wpAny_loadPart')
theorem Km (l : Addr) (items : Array Value) (n : Nat) (dct : Option Addr) (sl : Array (Option Value)) :
  Meets (Builtin.«enumerate.__new__» ⟨[.type "enumerate", .ref l], []⟩) (fun _ R s => s.heap.get? l = some { cls := .type "tuple", dict := dct, data := .seq items n, slots := sl } /\
   R (.ok (.ret (.ref (s.heap.push { cls := .type "tuple_iterator", data := .fields #[.ref l, .int 0 0] }).objs.size))) { s with heap := (s.heap.push { cls := .type "tuple_iterator", data := .fields #[.ref l, .int 0 0] }).push { cls := .type "enumerate", data := .fields #[.none, .bool false, .ref s.heap.objs.size, rawInt 0, .none, .none] } }) :=
 .of_wp fun prog w A R s h => by
  obtain ⟨hp, g, d, tk, os⟩ := s;obtain ⟨hl, h⟩ := h;have hsub := sub_enumerate;have hT : Heap.IsTuple (Shared.heap ⟨hp, g, d, tk, os⟩) l items := ⟨_, hl, rfl, n, rfl⟩
  wp_walk using wpAny_loadPart' hl
  refine wpAny_stack_any fun st => wpAny_pure ?_
  split
  ·rename_i c _ _ _ _ _
   cases (c == Value.type "enumerate") <;> (wp_walk using wpAny_loadPart' hl, wpAny_pyIter_tuple hT; exact ⟨_, rfl, h⟩)
  ·wp_walk using wpAny_loadPart' hl, wpAny_pyIter_tuple hT
   exact ⟨_, rfl, h⟩
theorem IY {prog : Program} {w : World} {A : Around} {E : Value -> Shared -> Prop} {s : Shared} {l : Addr} {items : Array Value} {Q : Value -> Shared -> Prop} (hL : s.heap.IsTuple l items)
  (h : ∀ h', IsEnum h' (s.heap.objs.size + 1) s.heap.objs.size 0 .none -> h'.IsTupleIter s.heap.objs.size l 0 -> (∀ b o, s.heap.get? b = some o -> h'.get? b = some o) -> Q (.ref (s.heap.objs.size + 1)) { s with heap := h' }) : wpAny (model prog w) A (call (.type "enumerate") [.ref l]) Q E s := by
 obtain ⟨⟨c, dct, dt, sl⟩, hl, hc, n, hd⟩ := hL;obtain rfl : c = .type "tuple" := hc;obtain rfl : dt = .seq items n := hd;have hz : (s.heap.push { cls := .type "tuple_iterator", data := .fields #[.ref l, .int 0 0] }).objs.size = s.heap.objs.size + 1 := Heap.size_push ..;refine callType_new F.called_enumerate (by decide) (F.typeCall_enumerate_1 _) (F.newCall_enumerate_1 _) (fun obj => F.args_object_init_2 obj _) F.entry_enumerate_new (Km l items n dct sl) ⟨hl, ?_⟩
 show _ /\ _
 rw [hz];have he : IsEnum ((s.heap.push { cls := .type "tuple_iterator", data := .fields #[.ref l, .int 0 0] }).push { cls := .type "enumerate", data := .fields #[.none, .bool false, .ref s.heap.objs.size, rawInt 0, .none, .none] }) (s.heap.objs.size + 1) s.heap.objs.size 0 .none := by
  have q := Heap.get?_push_size (s.heap.push { cls := .type "tuple_iterator", data := .fields #[.ref l, .int 0 0] }) (o := { cls := .type "enumerate", data := .fields #[.none, .bool false, .ref s.heap.objs.size, rawInt 0, .none, .none] }) rfl
  rwa [hz] at q
 exact ⟨⟨_, he, rfl⟩, h _ he ⟨_, Heap.get?_push_of_some _ (Heap.get?_push_size _ rfl), rfl, rfl⟩ fun b o x => Heap.get?_push_of_some _ (Heap.get?_push_of_some _ x)⟩
def Pv (K : aC) (a : Addr) : It :=
 ⟨fun i H => ∃ (xs : List V) (x : V), SqT K H a xs /\ xs[i]? = some x, fun i H v H' => ∃ T x, v = .ref T /\ H T = none /\ H' = upd H T (.tup [.int (i : Nat), x]) /\ ∀ xs, SqT K H a xs -> xs[i]? = some x, fun i H => ∃ xs : List V, SqT K H a xs /\ xs.length = i⟩
theorem Ha {P : Program} {w : World} {K : aC} {elts : List Expr} {kk : Nat} {tpos : Pos} (a e it : Addr) :
  Turn P w K (.Tuple elts kk tpos) (Pv K a) [e, it] e (fun i h => (∃ old, IsEnum h e it ((i : Nat) : Int) old) /\ h.IsTupleIter it a i /\ e ≠ it /\ a ≠ it /\ e ≠ a) where
 mem := by simp
 obj := fun i h st b hb => by
  obtain ⟨⟨old, he⟩, ⟨o, ho, hc, hd⟩, _⟩ := st;rcases (by simpa using hb : b = e \/ b = it) with z | z
  ·rw [z]; exact ⟨_, he, fun v q => nomatch q⟩
  ·rw [z]; exact ⟨o, ho, fun v q => by rw [hd] at q; cases q⟩
 keep := fun i h h' st k => let ⟨⟨old, he⟩, hi, hne⟩ := st; ⟨⟨old, k e (by simp) _ he⟩, hi.at fun o q => k it (by simp) o q, hne⟩
 item := by
  intro X hP hw hK hc i pins s σ H E I hf st hg;subst hP hw hK;obtain ⟨⟨old, he⟩, hit, hne, hai, hea⟩ := st;obtain ⟨xs, x, hq, hx⟩ := hg;obtain ⟨its, rv, p, hz⟩ := I.tuple hq;obtain ⟨u, hu, ru⟩ := rv.get hx;have hel : e < s.heap.objs.size := Heap.lt_size he;have hil : it < s.heap.objs.size := by obtain ⟨_, q, _⟩ := hit; exact Heap.lt_size q
  have hT0 : s.heap.IsTuple a its.toArray := p;have hlt : i < its.toArray.size := by have := (aI.mp hu).1; simpa using this
  have D := Draws.tuple (prog := X.prog) (w := X.w) (A := X.A.in1) (show X.A.in1.handled = none from I.ok.hd hc) it a hai its.toArray
  refine wpAny_pyNext_enum_itemD D he ⟨hit, hT0⟩ hlt hne (by simp [hne, hea]) fun x' h' tk hx' ho hst hT hsz hk => ?_
  have ex : x' = u := by
   have hx'' : its[i]? = some x' := by simpa using hx'
   rw [hu] at hx'';exact (Option.some.inj hx'').symm
  subst ex;refine ⟨_, rfl, wpAny_letOwnedTupleGo_enum (s := { s with heap := h', toks := tk + 1 }) ho fun h'' he' sb => ?_⟩
  have hT2 : h''.get? s.heap.objs.size = some { cls := .type "tuple", data := .seq #[.int i tk, x'] } := (sb.2 _ (Nat.ne_of_gt hel)).trans hT;have new : ObjOk X.prog X.w (upd H s.heap.objs.size (.tup [.int (i : Nat), x])) h'' s.heap.objs.size (.tup [.int (i : Nat), x]) := ⟨by show 2 <= sizeLine; decide, [.int i tk, x'], .cons ⟨_, rfl⟩ (.cons ru .nil), ⟨_, hT2, rfl, _, rfl⟩⟩
  have I1 : Inv X pins σ (upd H s.heap.objs.size (.tup [.int (i : Nat), x])) { s with heap := h'', toks := tk + 1 } :=
   I.turnedNew (ch := [e, it]) (fun b ob hb q => (sb.2 b (fun z => hb (by simp [z]))).trans (hk b ob (fun z => hb (by simp [z])) (fun z => hb (by simp [z])) q)) hf (bH _) new
  refine ⟨.ref s.heap.objs.size, _, I1, rfl, ⟨_, x, rfl, I.hok.fresh (bH _), rfl, fun ys hy => by rw [I.tuple_inj hy hq]; exact hx⟩, ⟨⟨x', by rw [show ((i + 1 : Nat) : Int) = (i : Int) + 1 by omega]; exact he'⟩, hst.1.at fun o q => (sb.2 it (Ne.symm hne)).trans q, hne, hai, hea⟩, fun b hb => ?_⟩
  have hb' : b < s.heap.objs.size := by
   rcases (by simpa using hb : b = e \/ b = it) with z | z
   ·rw [z]; exact hel
   ·rw [z]; exact hil
  rw [upd_ne (AF hb')];exact (hf b hb).1
 done := by
  intro X hP hw hK hc i pins s σ H E I hf st hg;subst hP hw hK;obtain ⟨⟨old, he⟩, hit, hne, hai, hea⟩ := st;obtain ⟨xs, hq, hx⟩ := hg;obtain ⟨its, rv, p, hz⟩ := I.tuple hq;obtain ⟨f0, f1, f2, f3, f4, f5⟩ := hf it (by simp)
  have hl := rv.length;have ei : i = its.toArray.size := by simp; omega
  subst ei;have D := Draws.tuple (prog := X.prog) (w := X.w) (A := X.A.in1) (show X.A.in1.handled = none from I.ok.hd hc) it a hai its.toArray
  exact wpAny_pyNext_enum_endD D he ⟨hit, p⟩ fun h' eb => ⟨rfl, I.turned (t' := s.toks) (fun b o hb q => eb b o hb q) f0 f1 f3 f4 f5⟩
 self := fun A i s Q E st h => let ⟨⟨_, he⟩, _⟩ := st; wpAny_pyIter_enum he h
def Oe (K : aC) (ta : TA) : TI := fun σ H R => ta σ H fun vs H1 => ∃ a xs, vs = [.ref a] /\ SqT K H1 a xs /\ R (Pv K a) H1
theorem JV {X : Cx} {e : Expr} {ta : TA} {p pos tpos : Pos} {elts : List Expr} {kk : Nat} (hg : Gl X "enumerate") (hm : X.mg "enumerate" = none) (ha : PA X [e] ta) (hs : starEach [e] X.env = [(false, eval e X.env)] := by rfl) : PI X (.Tuple elts kk tpos) (.Call (.Name "enumerate" p) [e] [] pos) (Oe X.K ta) := by
 refine ⟨fun pins s σ H R I h => ?_⟩
 refine Call_ (ld_blt I hg hm boot_enumerate (PyProof.Rows.callWith_type1 (thn (ha.run pos pins s σ H _ I h) fun us s1 ⟨vs, H1, I1, r1, q1⟩ => ?_) hs rfl))
 obtain ⟨a, xs, rfl, hq, q⟩ := q1;cases r1 with
 | cons r rr =>
  cases rr;cases r;obtain ⟨its, rv, p', hz⟩ := I1.tuple hq;have hT0 : s1.heap.IsTuple a its.toArray := p';have hal : a < s1.heap.objs.size := by obtain ⟨_, q, _⟩ := hT0; exact Heap.lt_size q
  refine IY hT0 fun h' he hit hk => wpAny_pyIter_enum he ?_
  have I2 : Inv X pins σ H1 { s1 with heap := h' } := I1.kept (t' := s1.toks) hk
  refine ⟨s1.heap.objs.size + 1, [s1.heap.objs.size + 1, s1.heap.objs.size], _, _, H1, rfl, I2, Ha a (s1.heap.objs.size + 1) s1.heap.objs.size, ⟨⟨.none, he⟩, hit, Nat.succ_ne_self _, AF hal, Nat.ne_of_gt (Nat.lt_succ_of_lt hal)⟩, fun b hb => ?_, q⟩
  have hle : s1.heap.objs.size <= b := by
   rcases (by simpa using hb : b = s1.heap.objs.size + 1 \/ b = s1.heap.objs.size) with z | z
   ·rw [z]; exact Nat.le_add_right _ _
   ·rw [z]; exact bH _
  exact I1.fpOk hle (I1.hok.fresh hle)
section
variable {X : Cx} {W : WX} {a : Expr} {ma : FE} {pos p : Pos}
def D0 (a : FE) : FI := fun ρ S => (a ρ S).bind fun x S1 => match x with
 | .dat (.tup ds) => .ok (dA 0 ds) S1
 | _ => .stuck
theorem Jw {K : aC} {B : Addr -> Prop} {φ : List Addr} {S : aL} {H : Hp} {a : Addr} {vs : List L2.V} {ds : List PH.D} (I : GInv K B φ S H) (h1 : SqT K H a vs) (l : RepL K (iW B φ S) H ds vs) : Ik K B φ S H (Pv K a) (dA 0 ds) := fun φ1 S1 H1 B1 I1 X1 => by
 have h2 : SqT K H1 a vs := SqT.kp X1.tup h1;have l2 := RepL.kp X1 ds vs l;have hl := l.len;refine ⟨fun i hi => ?_, ⟨vs, h2, by rw [tG]; exact hl⟩, fun i x H2 d hd y => ?_⟩
 ·rw [tG] at hi
  exact ⟨vs, vs[i], h2, by simp [hl, hi]⟩
 ·obtain ⟨T, x', rfl, hT, rfl, hx⟩ := y
  rw [yA] at hd;cases q : ds[i]? with
  | none => rw [q] at hd; cases hd
  | some d' =>
   rw [q] at hd;cases hd;obtain ⟨v', h3, h4⟩ := l2.get q;rw [hx vs h2] at h3;cases h3;have X2 := Ext.new (o := .tup [.int ((0 + i : Nat) : Int), x']) I1 hT;rw [jD] at X2 ⊢;exact ⟨I1.new hT, X2, T, [.int (i : Int), x'], rfl, .inl (.inl upd_same), _, _, rfl, rfl, _, _, rfl, Rep.kp (X2.kp I1) _ _ h4, rfl⟩
theorem Ed {elts : List Expr} {kk : Nat} {tpos : Pos} (hg : Gl X "enumerate") (hm : X.mg "enumerate" = none) (ha : PE X a (cL X.K W ma)) (hs : starEach [a] X.env = [(false, eval a X.env)] := by rfl) : PI X (.Tuple elts kk tpos) (.Call (.Name "enumerate" p) [a] [] pos) (Iv X.K W (D0 ma)) :=
 BN (JV hg hm (pa_cons ha pa_nil hs) hs) fun σ H R h =>
  bT (k := fun x _ S1 => match x with | Vl.dat (PH.D.tup ds) => Res.ok (dA 0 ds) S1 | _ => .stuck) h fun B φ S ρ d v H1 I E r f => by
   split at f
   ·obtain ⟨a, vs, rfl, h1, l⟩ := r
    exact ⟨a, vs, rfl, h1, Fin.now f I (Jw I h1 l)⟩
   ·exact f.elim
def Jo (x : Vl) (S : aL) : Res (List PH.D) := match x with
 | .dat (.tup ds) => .ok (dA 0 ds) S
 | _ => .stuck
theorem MV {ρ : Ev} {S : aL} : D0 ma ρ S = (ma ρ S).bind Jo := rfl
theorem KE {S : aL} {ds : List PH.D} : Jo (.dat (.tup ds)) S = .ok (dA 0 ds) S := rfl
end
section
variable {X : Cx} {W : WX} {e a b c o : Expr} {es rest : List Expr} {pos p q p2 tpos apos cpos : Pos} {x y z C f : Str} {K : aC} {ma mb mc mo me : FE} {mt mu : FT} {mas : FA} {mi mj : FI} {B : Addr -> Prop} {φ φ' : List Addr} {S S' : aL} {H H' : Hp} {σ : L2.St} {Q : VK} {m n : FS} {st : Stmt} {BW : List Stmt} {D : Ends} {t t1 : Tg}
def mLcC (mi : FI) (t : Tg) (vs : List Nat) : FE := fun ρ S => (mi ρ S).bind fun ds S1 => if ds.length <= sizeLine /\ (∀ d ∈ ds, (mR t (.dat d) (wipeE ρ vs)).isSome = true) then .ok (.cels (Ir S1.length ds.length)) (S1 ++ pM ds.length (.lst [])) else .stuck
def kLcC (t : Tg) (ρ : Ev) (vs : List Nat) (ds : List PH.D) (S : aL) : Res Vl := if ds.length <= sizeLine /\ (∀ d ∈ ds, (mR t (.dat d) (wipeE ρ vs)).isSome = true) then .ok (.cels (Ir S.length ds.length)) (S ++ pM ds.length (.lst [])) else .stuck
theorem g_lcC {ρ : Ev} {S : aL} {vs : List Nat} : mLcC mi t vs ρ S = (mi ρ S).bind (kLcC t ρ vs) := rfl
theorem PM {ρ : Ev} {S : aL} {vs : List Nat} {k : Nat} {ds : List PH.D} (h : ds.length <= sizeLine) : kLcC (.nm k) ρ vs ds S = .ok (.cels (Ir S.length ds.length)) (S ++ pM ds.length (.lst [])) := if_pos ⟨h, fun _ _ => rfl⟩
def OK (md : FD) (dd : PH.D) (as : FA) : FE := fun ρ S => (as ρ S).bind fun ds S1 => md (ds ++ [.dat dd]) S1
def Jr (md : FD) (dd : PH.D) (ds : List Vl) (S : aL) : Res Vl := md (ds ++ [.dat dd]) S
theorem Mj {md : FD} {dd : PH.D} {ρ : Ev} {S : aL} : OK md dd mas ρ S = (mas ρ S).bind (Jr md dd) := rfl
theorem KF {md : FD} {dd : PH.D} {ds : List Vl} {S : aL} : Jr md dd ds S = md (ds ++ [.dat dd]) S := rfl
def OJ (n : Nat) (md : FD) (as : FA) (a : FE) : FE := fun ρ S => (as ρ S).bind fun ds S1 => if ds.length = n then (a ρ S1).bind fun d S2 => md (ds ++ [d]) S2 else .stuck
def DD (md : FD) (ds : List Vl) (d : Vl) (S : aL) : Res Vl := md (ds ++ [d]) S
def Jq (n : Nat) (md : FD) (a : FE) (ρ : Ev) (ds : List Vl) (S : aL) : Res Vl := if ds.length = n then (a ρ S).bind (DD md ds) else .stuck
theorem Mi {md : FD} {n : Nat} {ρ : Ev} {S : aL} : OJ n md mas ma ρ S = (mas ρ S).bind (Jq n md ma ρ) := rfl
theorem IQ {md : FD} {ρ : Ev} {S : aL} {x y z : Vl} : Jq 3 md ma ρ [x, y, z] S = (ma ρ S).bind (DD md [x, y, z]) := rfl
theorem IR {md : FD} {ds : List Vl} {d : Vl} {S : aL} : DD md ds d S = md (ds ++ [d]) S := rfl
end
def EV0 := aE @CB (aE @Fw (aE @ET (aE @IF (aE @Nh (aE @g_c (aE @g_op (aE @g_op1 (aE @g_1 (aE @g_B (aE @g_unB (aE @Ol (aE @g_and (aE @g_or (aE @g_not (aE @K6 (aE @K7 (aE @MF (aE @MG (aE @PB (aE @Pb (aE @g_orV (aE @IK (aE @IL (aE @K4 (aE @K5 (aE @Ow (aE @MM (aE @g_kNV (aE @g_orT (aE @PF (aE @K8 (aE @K9 (aE @K1 (aE @MW (aE @g_ch1 (aE @g_ch2 (aE @MX (aE @MY (aE @g_if (aE @MH (aE @MI (aE @Ni (aE @KJ (aE @Gz (aE @Gy (aE @g_lst (aE @g_tup (aE @Fx (aE @EY (aE @kTup0 (aE @kTup1 (aE @kTup2 (aE @kTup3 (aE @kTup4 (aE @kLst0 (aE @kLst1 (aE @kLst2 (aE @kLst3 (@Oy)))))))))))))))))))))))))))))))))))))))))))))))))))))))))))
def EV1 := aE @Ox (aE @KP (aE @g_sl (aE @g_sl0 (aE @g_sl1 (aE @g_sl2 (aE @g_noP (aE @Ov (aE @ML (aE @g_frz (aE @g_app (aE @CA (aE @Fs (aE @IG (aE @IH (aE @IJ (aE @II (aE @Oo (aE @g_ret (aE @PD (aE @PZ (aE @MQ (aE @g_ifS (aE @KC (aE @KD (aE @g_asg (aE @PP (aE @MS (aE @MR (aE @g_for (aE @PN (aE @g_lc (aE @Os (aE @KH (aE @KG (aE @Ot (aE @MB (aE @PY (aE @MP (aE @Og (aE @ER (aE @Fo (aE @Fp (aE @Pc (aE @Om (aE @g_ltI (aE @g_leI (aE @g_gtI (aE @g_geI (aE @g_eqI (aE @g_neI (aE @g_eqS (aE @g_neS (aE @g_eqB (aE @g_neB (aE @g_neg (aE @PQ (aE @PR (aE @P8 (@P9)))))))))))))))))))))))))))))))))))))))))))))))))))))))))))
def EV2 := aE @EX (aE @Ng (aE @Oi (aE @Oj (aE @EV (aE @EW (aE @g_slT (aE @g_slL (aE @g_slS (aE @ME (aE @MD (aE @pW (aE @MC (aE @K3 (aE @IP (aE @IM (aE @Oq (aE @MJ (aE @P7 (aE @P6 (aE @KA (aE @g_fld (aE @MO (aE @Oh (aE @ES (aE @Fq (aE @gM (aE @vX (aE @Mh (aE @Mg (aE @Mf (aE @Me (aE @Md (aE @Mb (aE @Ma (aE @MZ (aE @KO (aE @KN (aE @KM (aE @KL (aE @Ou (aE @MK (aE @Oz (aE @Fv (aE @KI (aE @Ml (aE @PU (aE @MV (aE @KE (aE @g_lcC (aE @PM (aE @Mj (aE @KF (aE @Mi (aE @IQ (aE @IR (@J5))))))))))))))))))))))))))))))))))))))))))))))))))))))))
end PH
local macro_rules
 | `(tactic| simp! [$xs,*] $[$l:location]?) => `(tactic| simp (config := { implicitDefEqProofs := false }) only [$xs,*, PH.EV0, PH.EV1, PH.EV2, bJ, bM, Bool.not_true, Bool.not_false, eq_self, if_true, if_false, Bool.true_or, Bool.false_or, Bool.or_true, Bool.or_false, Bool.and_true, Bool.true_and, Bool.and_false, Bool.false_and, dG, aY, cY, beq_self_eq_true, Bool.false_eq_true, PH.lk, PH.isTy, PH.fIsi, PH.fIsi2, PH.kindOf, PH.wipeE, decide_true, decide_false, Int.reduceEq, Int.reduceLT, Int.reduceLE, Int.reduceSub, Int.reduceAdd, Int.reduceNeg, Int.reduceToNat, Int.reduceNe, Nat.reduceAdd, Nat.reduceLT, Nat.reduceLeDiff, String.reduceEq, String.reduceBEq] $[$l:location]?)
namespace PH
open PySem PySem.Spec PyProof.Rows L2
section
variable {X : Cx} {W : WX} {e a b c o i : Expr} {es rest : List Expr} {pos pos' p q p2 tpos apos cpos : Pos} {x y z C f : Str} {K : aC} {ma mb mc mo me mi mv : FE} {mt mu : FT} {mas : FA} {B : Addr -> Prop} {φ φ' : List Addr} {S S' : aL} {H H' : Hp} {σ : L2.St} {Q : VK} {m n : FS} {st : Stmt} {BW : List Stmt} {D : Ends} {t t1 : Tg}
theorem RepVs.getV : ∀ {ds : List Vl} {vs : List L2.V} {i : Nat} {d : Vl}, RepVs K B φ S H ds vs -> ds[i]? = some d -> ∃ v, vs[i]? = some v /\ RepV K B φ S H d v
 | [], vs, i, d, h, q => by simp at q
 | d :: ds, vs, 0, d', ⟨v, ws, e, h1, h2⟩, q => by simp at q; subst q e; exact ⟨v, rfl, h1⟩
 | d :: ds, vs, i + 1, d', ⟨v, ws, e, h1, h2⟩, q => by
  subst e;obtain ⟨v', h3, h4⟩ := RepVs.getV (i := i) (d := d') h2 (by simpa using q)
  exact ⟨v', by simpa using h3, h4⟩
theorem RepVs.app : ∀ {ds es : List Vl} {vs ws : List L2.V}, RepVs K B φ S H ds vs -> RepVs K B φ S H es ws -> RepVs K B φ S H (ds ++ es) (vs ++ ws)
 | [], es, vs, ws, h, h' => by cases h; exact h'
 | d :: ds, es, vs, ws, ⟨v, us, e, h1, h2⟩, h' => by subst e; exact ⟨v, us ++ ws, rfl, h1, RepVs.app h2 h'⟩
def Ls (S : aL) : Vl -> Option (List Vl)
 | .cel n => match S[n]? with
  | some (.lv xs) => some xs
  | _ => none
 | _ => none
theorem Jg {d : Vl} {v : L2.V} {xs : List Vl} (I : GInv K B φ S H) (h : Ls S d = some xs) (r : RepV K B φ S H d v) : ∃ n a vs, d = .cel n /\ S[n]? = some (.lv xs) /\ φ[n]? = some a /\ v = .ref a /\ H a = some (.lst vs) /\ RepVs K B φ S H xs vs := by
 unfold Ls at h;split at h
 ·rename_i n
  obtain ⟨a, e, h1⟩ := r;split at h
  ·rename_i ys q
   cases h;obtain ⟨vs, h2, h3⟩ := I.ok n _ a q h1;exact ⟨n, a, vs, rfl, q, h1, e, h2, h3⟩
  ·cases h
 ·cases h
def Ef (x y : Vl) (S : aL) : Res Vl := match Ls S x, y with
 | some xs, .dat (.int i) => (match atI xs i with
  | some d => .ok d S
  | none => .stuck)
 | _, _ => .stuck
theorem s_ixV : eW K (cIx K) Ef := fun {W σ B φ S H x y d e Q} I r1 r2 f => by
 unfold Ef at f;split at f
 ·rename_i xs j q1
  cases r2;obtain ⟨n, a, vs, rfl, _, _, rfl, h1, l1⟩ := Jg I q1 r1;split at f
  ·rename_i d' q
   have hq : ∃ v, atI vs j = some v /\ RepV K B φ S H d' v := by
    unfold L2.atI at q ⊢;rw [l1.len];cases e : ixN xs.length j with
    | none => rw [e] at q; cases q
    | some k => rw [e] at q; exact l1.getV (i := k) q
   obtain ⟨v, h2, h3⟩ := hq;exact ⟨vs, v, .inl (SqL.of h1), h2, Fin.now f I h3⟩
  ·exact f.elim
 ·exact f.elim
theorem Kf (ha : PE X a (cL X.K W ma)) (hb : PE X b (cL X.K W mb)) (hs : PlainIx b := by intro _ _; rfl) : PE X (.Subscript a b pos) (cL X.K W (aV Ef ma mb)) := cG (Pj ha hb hs) fun σ H Q h => xH s_ixV h
def fLenV (x : Vl) (S : aL) : Res Vl := match Ls S x with
 | some xs => .ok (.dat (.int xs.length)) S
 | none => .stuck
def newV (xs : List Vl) (S : aL) : Res Vl := .ok (.cel S.length) (S ++ [.lv xs])
theorem Fin.newV {xs : List Vl} {vs : List L2.V} {p : Addr} (f : Fin K W σ (RepV K) B φ S H (PH.newV xs S) Q) (I : GInv K B φ S H) (r : RepVs K B φ S H xs vs) (hp : H p = none) : Q (.ref p) (upd H p (.lst vs)) := by
 unfold PH.newV at f;have X := Ext.newC (o := .lst vs) (x := .lv xs) I hp;refine f (φ ++ [p]) _ _ (I.newC hp fun _ => ⟨vs, upd_same, r.ext X I⟩) X ⟨p, rfl, ?_⟩
 rw [<- I.len];exact jN
theorem RepVs.snocV {ds : List Vl} {vs : List L2.V} {d : Vl} {v : L2.V} (h : RepVs K B φ S H ds vs) (r : RepV K B φ S H d v) : RepVs K B φ S H (ds ++ [d]) (vs ++ [v]) := h.app ⟨v, [], rfl, r, rfl⟩
def yZ (x y : Vl) (S : aL) : Res Vl := match x with
 | .cel n => (match S[n]? with
  | some (.lv ds) => if ds.length < sizeLine then .ok (.dat .non) (S.set n (.lv (ds ++ [y]))) else .stuck
  | _ => .stuck)
 | _ => .stuck
theorem IV {n : Nat} {ds ds' : List Vl} {v v' : L2.V} {d' : Vl} {vs vs' : List L2.V} {a : Addr} (I : GInv K B φ S H) (hn : S[n]? = some (.lv ds)) (ha : φ[n]? = some a) (l : RepVs K B φ S H ds' vs') (r : RepV K B φ S H d' v')
  (f : Fin K W σ (RepV K) B φ S H (.ok d' (S.set n (.lv ds'))) Q) : Q v' (upd H a (.lst vs')) := by
 have X1 := Ext.put (H := H) (o := .lst vs') (x := .lv ds') hn (by simp) ha (by simp)
 have I1 : GInv K B φ (S.set n (.lv ds')) (upd H a (.lst vs')) := I.put hn (by simp) ha (by simp) ⟨vs', upd_same, l.ext X1 I⟩
 exact f φ v' _ I1 X1 (r.ext X1 I)
def Jf (a b : FE) : FE := fun ρ S => (a ρ S).bind fun x S1 => match Ls S1 x with
 | some _ => (b ρ S1).bind fun y S2 => yZ x y S2
 | none => .stuck
theorem Pi (ha : PE X a (cL X.K W ma)) (hb : PE X b (cL X.K W mb)) (hs : starEach [b] X.env = (false, eval b X.env) :: starEach [] X.env := by rfl) (hbase : attributeBase a "append" X.env (eval a X.env) = eval a X.env := by rfl) (hline : (apos.endLine == cpos.line) = true := by rfl)
  (hfew : ((backTo cpos (starEach [b] X.env)).all (fun x => !x.1) && (backToKw cpos (keywordEach [] X.env)).all (fun x => x.1.isSome)
   && decide ([b].length + ([] : List Keyword).length + (if ([] : List Keyword).isEmpty then 0 else 1) < 30)) = true := by rfl)
  (hpl : (backTo cpos (starEach ([] : List Expr) X.env)).any (·.1) = false := by rfl) : PE X (.Call (.Attribute a "append" apos) [b] [] cpos) (cL X.K W (Jf ma mb)) :=
 cG (pe_bm PySem.F.plainAttrs_list PySem.F.slot_list_append PySem.F.type_list_append Ai ha (pa_cons hb pa_nil hs) hbase hfew hline hs hpl) fun σ H Q h =>
  bT (k := fun x ρ S1 => match Ls S1 x with | some _ => (mb ρ S1).bind fun y S2 => yZ x y S2 | none => .stuck) h fun B φ S ρ d v H1 I E r f => by
   split at f
   ·rename_i ds q
    obtain ⟨n0, a0, vs0, rfl, _, hφ0, rfl, h0, _⟩ := Jg I q r;refine ⟨.inl ⟨rfl, vs0, SqL.of h0⟩, gF I E f fun φ' S' d2 v2 H2 I2 X2 E2 r2 f2 => ?_⟩
    have h1 := X2.ids _ _ hφ0;unfold yZ at f2;dsimp only at f2;split at f2
    ·rename_i ds q
     obtain ⟨vs, h2, l⟩ := I2.ok _ _ a0 q h1;split at f2
     ·rename_i hl
      exact ⟨vs, h2, by rw [l.len]; exact hl, IV (v := .non) (v' := .non) (d' := .dat .non) (vs := vs) I2 q h1 (l.snocV r2) rfl f2⟩
     ·exact f2.elim
    ·exact f2.elim
   ·exact f.elim
theorem Fin.doneV {a : Addr} {ds : List Vl} {vs : List L2.V} {H0 : Hp} {φ0 : List Addr} {S0 : aL} (f : Fin K W σ (RepV K) B φ0 S0 H0 (PH.newV ds S) Q) (I : GInv K (hC B a) φ S H) (X0 : Ext φ0 S0 H0 φ S H) (h0 : H0 a = none) (nB : ¬ B a) (ha : H a = some (.lst vs)) (l : RepVs K (hC B a) φ S H ds vs) : Q (.ref a) H := by
 have na : ¬ kU φ S a := fun q => I.blk a q (.inr rfl)
 unfold PH.newV at f;have X1 : Ext φ0 S0 H0 (φ ++ [a]) (S ++ [.lv ds]) H := {
  old := fun b o h n => by
   obtain ⟨h1, h2⟩ := X0.old b o h n;refine ⟨h1, fun q => ?_⟩
   rcases (jP I.len).mp q with q | ⟨_, q⟩
   ·exact h2 q
   ·subst q; rw [h0] at h; cases h
  ids := fun n b h => by
   have := X0.ids n b h;rw [aK (aI.mp this).1]; exact this }
 have hS : ∀ b, iW B (φ ++ [a]) (S ++ [.lv ds]) b -> iW (hC B a) φ S b := fun b q => by
  rcases q with q | q
  ·exact .inl (.inl q)
  ·rcases (jP I.len).mp q with q | ⟨_, q⟩
   ·exact .inr q
   ·exact .inl (.inr q)
 have k : Kp (iW (hC B a) φ S) H (iW B (φ ++ [a]) (S ++ [.lv ds])) H := ⟨fun b o h n => ⟨h, fun q => n (hS b q)⟩, fun _ _ h => h⟩
 have hφ : ∀ (n : Nat) (b : Addr), φ[n]? = some b -> (φ ++ [a])[n]? = some b := fun n b h => by rw [aK (aI.mp h).1]; exact h
 have hV : ∀ {d : Vl} {v : L2.V}, RepV K (hC B a) φ S H d v -> RepV K B (φ ++ [a]) (S ++ [.lv ds]) H d v := fun {d v} r => by
  cases d with
  | dat d => exact Rep.kp k d v r
  | cel n => obtain ⟨b, e1, e2⟩ := r; exact ⟨b, e1, hφ _ _ e2⟩
  | cels ns => obtain ⟨a', as, e1, e2, e3, e4⟩ := r; exact ⟨a', as, e1, (k.old _ _ e3 e2).2, e3, A3 hφ ns as e4⟩
  | scr ns => exact r
  | tc xs => obtain ⟨a', vs, e1, e2, e3⟩ := r; exact ⟨a', vs, e1, SqT.kp k.tup e2, e3.kp k hφ⟩
 have hF : ∀ {fs : List (Str × Vl)} {vs : List (Str × L2.V)}, RepF K (hC B a) φ S H fs vs -> RepF K B (φ ++ [a]) (S ++ [.lv ds]) H fs vs := fun {fs} => by
  induction fs with
  | nil => intro vs r; exact r
  | cons f fs ih => rintro vs ⟨v, ws, e, h1, h2⟩; exact ⟨v, ws, e, hV h1, ih h2⟩
 refine f (φ ++ [a]) _ H ?_ X1 ⟨a, rfl, by rw [<- I.len]; exact jN⟩
 exact {
  len := by simp [I.len]
  ok := fun n c b h1 h2 => by
   by_cases hn : n < S.length
   ·rw [aK hn] at h1
    rw [aK (by rw [I.len]; exact hn)] at h2
    have q := I.ok n c b h1 h2;cases c with
    | dead => trivial
    | lst es => obtain ⟨us, e, r⟩ := q; exact ⟨us, e, RepL.kp k es us r⟩
    | ins C fs => obtain ⟨dx, us, e, r⟩ := q; exact ⟨dx, us, e, hF r⟩
    | dct fs => obtain ⟨us, e, r⟩ := q; exact ⟨us, e, hF r⟩
    | lv xs => obtain ⟨us, e, r⟩ := q; exact ⟨us, e, cW hV r⟩
    | dki ks xs => obtain ⟨us, e, r⟩ := q; exact ⟨us, e, cW hV r⟩
    | dkt ks xs => obtain ⟨us, e, r⟩ := q; exact ⟨us, e, cW hV r⟩
   ·have e : n = S.length := by
     have := (aI.mp h1).1;simp at this;omega
    subst e;rw [cA (bH _)] at h1;rw [<- I.len, cA (bH _)] at h2;simp at h1 h2;subst h1 h2;exact ⟨vs, ha, cW hV l⟩
  inj := fun n m c c' b h1 h2 h3 h4 h5 h6 => by
   have key : ∀ (n : Nat) (c : Cell), (S ++ [.lv ds])[n]? = some c -> (n < S.length /\ S[n]? = some c) \/ n = S.length := fun n c h => by
    by_cases hn : n < S.length
    ·rw [aK hn] at h; exact .inl ⟨hn, h⟩
    ·have := (aI.mp h).1
     simp at this;exact .inr (by omega)
   have kφ : ∀ n : Nat, n < S.length -> (φ ++ [a])[n]? = φ[n]? := fun n hn => aK (by rw [I.len]; exact hn)
   have kp : (φ ++ [a])[S.length]? = some a := by rw [<- I.len]; simp
   rcases key n c h1 with ⟨hn, e1⟩ | e1 <;> rcases key m c' h3 with ⟨hm, e2⟩ | e2
   ·rw [kφ n hn] at h5
    rw [kφ m hm] at h6;exact I.inj n m c c' b e1 h2 e2 h4 h5 h6
   ·subst e2
    rw [kp] at h6;cases h6;rw [kφ n hn] at h5;exact absurd ⟨n, c, e1, h2, h5⟩ na
   ·subst e1
    rw [kp] at h5;cases h5;rw [kφ m hm] at h6;exact absurd ⟨m, c', e2, h4, h6⟩ na
   ·omega
  blk := fun b h => by
   rcases (jP I.len).mp h with h | ⟨_, h⟩
   ·exact fun q => I.blk b h (.inl q)
   ·subst h; exact nB
  btr := fun b h => I.btr b (.inl h) }
end
section
variable {S : aL} {a b : FE} {ρ : Ev} {n m : Nat} {xs ys : List Vl} {x : Vl}
theorem Gx {k : Int} {d : Vl} (h : S[n]? = some (.lv xs)) (h2 : atI xs k = some d) : Ef (.cel n) (.dat (.int k)) S = .ok d S := by simp only [Ef, Ls, h, h2]
def Js (b : FE) (ρ : Ev) (x : Vl) (S1 : aL) : Res Vl := match Ls S1 x with
 | some _ => (b ρ S1).bind (yZ x)
 | none => .stuck
theorem Pa : Jf a b ρ S = (a ρ S).bind (Js b ρ) := rfl
theorem MT (h : S[n]? = some (.lv xs)) : Js b ρ (.cel n) S = (b ρ S).bind (yZ (.cel n)) := by simp only [Js, Ls, h]
theorem MU (h : S[n]? = some (.lv xs)) (hl : xs.length < sizeLine) : yZ (.cel n) x S = .ok (.dat .non) (S.set n (.lv (xs ++ [x]))) := by simp only [yZ, h, hl, if_true]
end
section
variable {X : Cx} {W : WX} {pins : List (Addr × Obj)} {σ : L2.St}
theorem LG {fs : List Addr} {H H' : Hp} {h h1 h2 : Heap} (u : Un fs [] H H' h h1) (hs : ∀ b o, b < h.objs.size -> h1.get? b = some o -> h2.get? b = some o) : Un fs [] H H' h h2 := by
 refine ⟨fun b o e n f x => ?_, fun b o e n f x => ?_, u.free, fun b o e x => ?_, u.tups, u.frzs, u.tbls⟩
 ·exact hs b o (Heap.lt_size e) (u.keep b o e n f x)
 ·obtain ⟨sl, z⟩ := u.slot b o e n f x
  exact ⟨sl, hs b _ (Heap.lt_size e) z⟩
 ·obtain ⟨o', z⟩ := u.there b o e x
  exact ⟨o', hs b _ (Heap.lt_size e) z⟩
theorem Nx {P : Program} {w : World} {fs : List Addr} {H H' : Hp} {h h1 : Heap} {a : Addr} {o : HO} (ok : HOk P w H h) (u : Un fs [] H H' h h1) (ha : h.objs.size <= a) : Un fs [] H (upd H' a o) h h1 := by
 have ne : ∀ {b : Addr} {o : Obj}, h.get? b = some o -> b ≠ a := fun {b o} e z => absurd (Heap.lt_size e) (by rw [z]; exact zK.mpr ha)
 have ne2 : ∀ {b : Addr} {o : HO}, H b = some o -> b ≠ a := fun {b o} e z => absurd (ok.lt e) (by rw [z]; exact zK.mpr ha)
 refine ⟨u.keep, u.slot, fun b o e n x => ?_, u.there, fun b xs e => ?_, fun b o v e => ?_, fun b ps e => ?_⟩
 ·rw [upd_ne (ne e)]; exact u.free b o e n x
 ·rw [upd_ne (ne2 e)]; exact u.tups b xs e
 ·rw [upd_ne (ne2 e)]; exact u.frzs b o v e
 ·rw [upd_ne (ne2 e)]; exact u.tbls b ps e
def byKey {α : Type} (l : List (α × Int)) : List α := (l.mergeSort fun p q => decide (p.2 <= q.2)).map (·.1)
def JO (K : aC) (fA : Addr) (sp : Sp) : List L2.V -> List L2.V -> Hp -> VK -> Prop := fun vs zs H Q => ∃ (a : Addr) (xs : List L2.V) (ks : List Int) (J : Nat -> Hp -> Prop), vs = [.ref a] /\ zs = [.ref fA] /\ SqL K H a xs /\ ks.length = xs.length /\ J 0 H /\
 (∀ i x k H1, xs[i]? = some x -> ks[i]? = some k -> J i H1 -> sp [x] H1 (fun z H2 => z = .int k /\ J (i + 1) H2) E0) /\
 ∀ p H1, J xs.length H1 -> H1 p = none -> H p = none -> Q (.ref p) (upd H1 p (.lst (byKey (xs.zip ks))))
structure KSt (X : Cx) (pins : List (Addr × Obj)) (σ : L2.St) (H0 : Hp) (s0 : Shared) (a kS : Addr) (e1 : Nat) (H : Hp) (s : Shared) (keys : Array Value) : Prop where
 os : s.os = s0.os
 bare : AllBare s.gens
 un : Un (frs X.stack) [] H0 H s0.heap s.heap
 hok : HOk X.prog X.w H s.heap
 na : H a = none
 nk : H kS = none
 ha : s.heap.get? a = some (PyProof.Rows.seqObj "list" #[] e1)
 hk : ∃ e, s.heap.get? kS = some (PyProof.Rows.seqObj "list" keys e)
theorem KSt.inv {H0 H : Hp} {s0 s : Shared} {a kS : Addr} {e1 : Nat} {keys : Array Value} (K : KSt X pins σ H0 s0 a kS e1 H s keys) (I0 : Inv X pins σ H0 s0) : Inv X pins σ H s :=
 I0.call' K.os K.un K.hok K.bare fun b hb => absurd hb (by simp)
theorem NR {H0 : Hp} {s0 : Shared} (I0 : Inv X pins σ H0 s0) {c : Addr} (hc : s0.heap.objs.size <= c) : c ∉ frs X.stack := fun hb => by
 rcases cJ.mp (I0.stkSub c hb) with z | z
 ·exact absurd I0.lt (by rw [<- z]; exact zK.mpr hc)
 ·exact I0.nofs hc z
theorem KSt.call {fA : Addr} {fd : FuncData} {ps : List Str} {sp : Sp} {j : Nat} {H0 H : Hp} {s0 s : Shared} {a kS : Addr} {e1 : Nat} {keys : Array Value} (K : KSt X pins σ H0 s0 a kS e1 H s keys) (I0 : Inv X pins σ H0 s0)
  (F : FnOk X.prog X.w X.K X.mg X.base (L2.CX X.prog X.w) j fA fd ps sp) (hb : Binds X.K fd ps []) (hr : Room j X.A.in1.in1) (hac : s0.heap.objs.size <= a) (hkc : s0.heap.objs.size <= kS)
  {x : L2.V} {u : Value} {i : Int} {P : Hp -> Prop} (r : RelV x u) (h : sp [x] H (fun z H2 => z = .int i /\ P H2) E0) {G : Value -> Shared -> Prop} {Q : Value -> Shared -> Prop}
  (q : ∀ v s' H', (∃ t, v = .int i t) -> KSt X pins σ H0 s0 a kS e1 H' s' keys -> P H' -> Q v s') : wpAny (model X.prog X.w) X.A.in1.in1 (call (.ref fA) [u]) Q G s := by
 have I := K.inv I0;have e := I.env0;have hl := F.len _ _ _ _ h;have b1 := hb s [u] I.kIn (by simpa using hl)
 have run := F.run X.A.in1.in1 X.stack s H ⟨[u], []⟩ [u] [x] _ E0 hr ⟨e.frames, e.mod, e.bs, e.bsz, e.funs, e.frf, e.hok, e.bare⟩ (by simpa using b1) (.cons r .nil) h
 refine wpAny_call (codeAny_mono run fun r s' hq => ?_)
 cases r with
 | error e => obtain ⟨_, _, _, _, _, _, _, _, _, _, _, _, z⟩ := hq; exact z.elim
 | ok fl =>
  cases fl with
  | next => exact False.elim hq
  | brk => exact False.elim hq
  | cont => exact False.elim hq
  | ret v =>
   obtain ⟨z, H', os, bare, un, hok, rz, rfl, hp⟩ := hq;obtain ⟨ek, hk⟩ := K.hk;exact q v s' H' rz ⟨os.trans K.os, bare, K.un.trans un, hok, un.free a _ K.ha K.na (by simp), un.free kS _ hk K.nk (by simp), un.keep a _ K.ha K.na (NR I0 hac) (by simp), ek, un.keep kS _ hk K.nk (NR I0 hkc) (by simp)⟩ hp
theorem KSt.turn {H0 H : Hp} {s0 s : Shared} {a kS : Addr} {e1 : Nat} {keys : Array Value} (K : KSt X pins σ H0 s0 a kS e1 H s keys) (I0 : Inv X pins σ H0 s0) (hac : s0.heap.objs.size <= a) (hkc : s0.heap.objs.size <= kS)
  {h' : Heap} {tk : Nat} (k : ∀ b o, b ≠ a -> b ≠ kS -> s.heap.get? b = some o -> h'.get? b = some o) : Un (frs X.stack) [] H0 H s0.heap h' /\ HOk X.prog X.w H h' := by
 refine ⟨LG K.un fun b o hb e => k b o (fun z => absurd hb (by rw [z]; exact zK.mpr hac)) (fun z => absurd hb (by rw [z]; exact zK.mpr hkc)) e, ?_⟩
 have I := (K.inv I0).turnedL (h' := h') (t' := tk) (ch := [a, kS]) (fun b o hb e => k b o (fun z => hb (by rw [z]; simp)) (fun z => hb (by rw [z]; simp)) e) fun b hb => by
  rcases cJ.mp hb with rfl | hb
  ·exact I0.fpOk hac K.na
  ·obtain rfl := dH.mp hb
   exact I0.fpOk hkc K.nk
 exact I.hok
def KR (v : Value) (p : L2.V × Int) : Prop := RelV p.1 v
theorem wD {us : List Value} : ∀ {xs : List L2.V} {ks : List Int}, Vals xs us -> ks.length = xs.length -> oA KR us (xs.zip ks)
 | [], [], .nil, _ => .nil
 | x :: xs, k :: ks, .cons r1 r2, h => .cons r1 (wD r2 (by simpa using h))
 | _ :: _, [], _, h => by simp at h
theorem uW {us : List Value} : ∀ {ps : List (L2.V × Int)}, oA KR us ps -> Vals (ps.map (·.1)) us
 | _, .nil => .nil
 | _, .cons r1 r2 => .cons r1 (uW r2)
theorem CF (h : Heap) : ∀ {l : List Value} {ks : List Int}, oA (fun v (k : Int) => ∃ t, v = Value.int k t) l ks -> oA (fun v d => ∃ as, Reads h v d as) l (ks.map PyData.int)
 | _, _, .nil => .nil
 | _, _, .cons ⟨t, e⟩ r => .cons ⟨[], by subst e; exact Reads.int _ _⟩ (CF h r)
theorem Cj {fA : Addr} {fd : FuncData} {ps : List Str} {sp : Sp} {j : Nat} {H0 H : Hp} {s0 s : Shared} {a kS : Addr} {e1 : Nat} (K : KSt X pins σ H0 s0 a kS e1 H s #[]) (I0 : Inv X pins σ H0 s0)
  (F : FnOk X.prog X.w X.K X.mg X.base (L2.CX X.prog X.w) j fA fd ps sp) (hb : Binds X.K fd ps []) (hr : Room j X.A.in1.in1) (hac : s0.heap.objs.size <= a) (hkc : s0.heap.objs.size <= kS) (hka : kS ≠ a)
  {us : List Value} {xs : List L2.V} {ks : List Int} {J : Nat -> Hp -> Prop} (rv : Vals xs us) (hl : ks.length = xs.length) (hz : xs.length <= sizeLine) (j0 : J 0 H)
  (turn : ∀ i x k H1, xs[i]? = some x -> ks[i]? = some k -> J i H1 -> sp [x] H1 (fun z H2 => z = .int k /\ J (i + 1) H2) E0)
  {G : Value -> Shared -> Prop} {P : PySem.Fin -> Shared -> Prop} (h : ∀ s' H' out c, s'.os = s0.os -> AllBare s'.gens -> Un (frs X.stack) [] H0 H' s0.heap s'.heap -> HOk X.prog X.w H' s'.heap -> H' a = none -> s'.heap.get? a = some (PyProof.Rows.seqObj "list" (List.toArray out) c) ->
   Vals (byKey (xs.zip ks)) out -> J xs.length H' -> P (.done (.ret .none)) s') : wpAny (model X.prog X.w) X.A.in1.in1 (PyProof.Rows.ksk_rest a (.ref fA) false us.toArray e1 (.ref kS)) P G s := by
 have hu : us.length = xs.length := rv.length.symm;unfold PyProof.Rows.ksk_rest;refine wpAny_bind (wpAny_rule ?_)
 first
  | rw [List.forIn_toArray]
  | (rw [<- Array.forIn_toList]; simp only [List.toList_toArray])
  | rw [<- Array.forIn_toList]
 refine wpAny_bind (PyProof.Rows.ksk_fold (fun i s' => ∃ H' kA, KSt X pins σ H0 s0 a kS e1 H' s' kA /\ J i H' /\ oA (fun v (k : Int) => ∃ t, v = Value.int k t) kA.toList (ks.take i)) us 0 s
  ⟨H, #[], K, j0, by rw [DZ]; exact .nil⟩ ?step ?done)
 case step =>
  rintro i x s' hx ⟨H', kA, K', hj, hk⟩
  simp only [jD] at hj hk ⊢;have hi : i < us.length := (aI.mp hx).1;obtain ⟨y, hy⟩ : ∃ y, xs[i]? = some y := ⟨_, aZ (by omega)⟩
  obtain ⟨k, hki⟩ : ∃ k, ks[i]? = some k := ⟨_, aZ (by omega)⟩
  have hxy : RelV y x := by
   obtain ⟨x', q1, q2⟩ := rv.get hy;rw [hx] at q1; cases q1;exact q2
  have hkz : kA.size <= us.length := by
   have h1 := hk.length;rw [Array.length_toList, rM] at h1;omega
  refine wpAny_bind (wpAny_attempt (K'.call I0 F hb hr hac hkc hxy (turn i y k H' hy hki hj) fun v s2 H2 hv K2 hj2 => ?_))
  try dsimp only
  obtain ⟨e, nk2⟩ := K2.hk;have s1 := Heap.SameBut.update s2.heap kS (Obj.mapSeq (·.push v));obtain ⟨c2, hc2⟩ : ∃ c2, (s2.heap.update kS (Obj.mapSeq (·.push v))).get? kS = some (PyProof.Rows.seqObj "list" (kA.push v) c2) := ⟨_, PyProof.Rows.get?_update_seq nk2 (·.push v)⟩
  have ek : ks.take (i + 1) = ks.take i ++ [k] := by rw [List.take_add_one, hki]; simp
  have ea : (kA.push v).toList = kA.toList ++ [v] := by simp
  refine wpAny_bind (PyProof.Rows.listUpdate_at nk2 rfl ?_ (by rw [<- hu] at hz; omega) (by rw [Array.size_push]; omega))
  obtain ⟨u2, ok2⟩ := K2.turn I0 hac hkc (h' := s2.heap.update kS (Obj.mapSeq (·.push v))) (tk := s2.toks) fun b o _ hb e => (s1.2 b hb).trans e
  refine wpAny_pure ⟨rfl, H2, kA.push v, ⟨K2.os, K2.bare, u2, ok2, K2.na, K2.nk, (s1.2 a hka.symm).trans K2.ha, c2, hc2⟩, hj2, ?_⟩
  rw [ea, ek];exact PySem.W.each_snoc hv hk
 case done =>
  rintro s' ⟨H', kA, K', hj, hk⟩
  have e3 : ks.take (0 + us.length) = ks := List.take_of_length_le (by omega)
  rw [e3] at hk;rw [jD, hu] at hj;obtain ⟨e, nk⟩ := K'.hk;have hsz : kA.size = us.length := by
   have h1 := hk.length;rw [Array.length_toList] at h1;omega
  try dsimp only
  refine wpAny_bind (PyProof.Rows.listItems_at nk rfl ?_)
  have hk' := CF s'.heap hk;have hal : PySem.W.AllAlike (ks.map PyData.int) := PySem.W.AllAlike.of fun _ _ => by simp [PySem.W.alike]
  refine PySem.W.keyH_end (prog := X.prog) (w := X.w) (b := false) (κ := Iy s'.heap (ks.map PyData.int)) (h₁ := PySem.W.hideAll s'.heap [kS]) (fun b o hb e => PySem.W.of_hideAll _ e) (PySem.W.hideAll_none _ (by simp)) nk K'.ha hka
   (PySem.W.SortsAt.data hk' hal (PySem.W.Sortable.others fun _ => ⟨by simp, fun _ => by simp⟩) fun d hd => ?_) hsz (by omega) fun h3 tk3 c k3 n3 => ?_
  ·obtain ⟨k, _, rfl⟩ := bD.mp hd
   have := hr.un
   show X.A.in1.in1.units + 0 < cLine
   omega
  ·have e : (xs.zip ks).map (fun p => PyData.int p.2) = ks.map PyData.int := by
    rw [show (fun p : L2.V × Int => PyData.int p.2) = PyData.int ∘ Prod.snd from rfl, <- iX, List.map_snd_zip (by omega)]
   have ko : PySem.W.KeyedOut false ((xs.zip ks).map fun p => PyData.int p.2) us (PySem.W.sortVals (Iy s'.heap (ks.map PyData.int)) false kA.toList us) := by
    rw [e];exact ⟨s'.heap, kA.toList, hal, rfl, hk'⟩
   have he := PySem.W.keyedOut_each (fun p : L2.V × Int => PyData.int p.2) ko (wD rv hl)
   rw [PySem.W.dataLe_int fun p : L2.V × Int => p.2] at he
   obtain ⟨u2, ok2⟩ := K'.turn I0 hac hkc (h' := h3) (tk := tk3) fun b o h1 h2 e => k3 b o h1 (PySem.W.hideAll_get _ e (by simpa using h2))
   exact h _ H' _ c K'.os K'.bare u2 ok2 K'.na n3 (uW he) hj
theorem Ds {fA : Addr} {fd : FuncData} {ps : List Str} {sp : Sp} {j : Nat} {H0 : Hp} {s0 : Shared} {l : Addr} {Q : VK} (I0 : Inv X pins σ H0 s0)
  (F : FnOk X.prog X.w X.K X.mg X.base (L2.CX X.prog X.w) j fA fd ps sp) (hb : Binds X.K fd ps []) (hr : Room (j + 2) X.A)
  {xs : List L2.V} {ks : List Int} {J : Nat -> Hp -> Prop} (hs : SqL X.K H0 l xs) (hl : ks.length = xs.length) (j0 : J 0 H0)
  (turn : ∀ i x k H1, xs[i]? = some x -> ks[i]? = some k -> J i H1 -> sp [x] H1 (fun z H2 => z = .int k /\ J (i + 1) H2) E0)
  (q : ∀ p H1, J xs.length H1 -> H1 p = none -> H0 p = none -> Q (.ref p) (upd H1 p (.lst (byKey (xs.zip ks))))) : wpAny (model X.prog X.w) X.A (call (.builtin "sorted") [.ref l] [(Str.ofString "key", .ref fA)]) (EP X pins σ Q) X.xe s0 := by
 obtain ⟨us, rv, hl0, hz⟩ := I0.list hs;have hu : xs.length = us.length := rv.length;have ha0 : s0.heap.get? (s0.heap.objs.size + 1) = none := Heap.get?_none_of_le (qV _)
 refine PySem.W.sorted_of_sort hl0.isList (by omega) (PyProof.Rows.ksk_s1 _ _) (fun _ => PyProof.Rows.ksk_l1 _ _) fun E' => ?_
 rw [PyProof.Rows.ksk_t1];have ho := PySem.W.copyHeap_at s0.heap us;have hsz : (zL s0.heap us).objs.size = s0.heap.objs.size + 2 := by
  unfold zL;rw [PyProof.Rows.size_push', Heap.size_update, PyProof.Rows.size_push']
 generalize hg : zL s0.heap us = h1 at ho hsz;obtain ⟨e1, ho1⟩ : ∃ e1, (h1.update (s0.heap.objs.size + 1) (Obj.mapSeq fun _ => (#[] : Array Value))).get? (s0.heap.objs.size + 1) = some (PyProof.Rows.seqObj "list" #[] e1) := ⟨_, PyProof.Rows.get?_update_seq ho fun _ => #[]⟩
 have hkS : ((h1.update (s0.heap.objs.size + 1) (Obj.mapSeq fun _ => (#[] : Array Value))).push (PyProof.Rows.seqObj "tuple" us.toArray 0)).objs.size = s0.heap.objs.size + 3 := by rw [PyProof.Rows.size_push', Heap.size_update, hsz]
 unfold PyProof.Rows.ksk_tree;refine wpAny_bind (PyProof.Rows.listItems_at ho rfl ?_)
 refine wpAny_bind (PyProof.Rows.listUpdate_at ho rfl ?_ (by rw [List.size_toArray]; omega) (nI _))
 refine wpAny_bind (PyProof.Rows.seqEpoch_at ho1 rfl ?_)
 refine wpAny_bind (wpAny_newTuple ?_ (by show us.length <= _; omega))
 refine wpAny_bind (wpAny_newList ?_ (nI _))
 refine wpAny_holding ?_
 have old : ∀ b o, s0.heap.get? b = some o -> (uF h1 (s0.heap.objs.size + 1) us).get? b = some o := fun b o e =>
  PySem.W.sortingHeap_old (AF (Nat.lt_succ_of_lt (Heap.lt_size e))) (by rw [<- hg]; exact PySem.W.copyHeap_old e)
 have K : KSt X pins σ H0 s0 (s0.heap.objs.size + 1) (s0.heap.objs.size + 3) e1 H0 { s0 with heap := uF h1 (s0.heap.objs.size + 1) us } #[] := by
  refine ⟨rfl, I0.bare, Un.kept old, I0.hok.kept old, I0.hok.fresh (qV _), I0.hok.fresh (by omega), ?_, 0, ?_⟩
  ·exact Heap.get?_push_of_some _ (Heap.get?_push_of_some _ ho1)
  ·rw [<- hkS]; exact Heap.get?_push_size _ rfl
 have e0 : (Value.ref ((h1.update (s0.heap.objs.size + 1) (Obj.mapSeq fun _ => (#[] : Array Value))).push (PyProof.Rows.seqObj "tuple" us.toArray 0)).objs.size) = .ref (s0.heap.objs.size + 3) := by rw [hkS]
 refine (show wpAny (model X.prog X.w) X.A.in1.in1 (PyProof.Rows.ksk_rest (s0.heap.objs.size + 1) (.ref fA) false us.toArray e1 (.ref ((h1.update (s0.heap.objs.size + 1) (Obj.mapSeq fun _ => (#[] : Array Value))).push (PyProof.Rows.seqObj "tuple" us.toArray 0)).objs.size)) _ E' { s0 with heap := uF h1 (s0.heap.objs.size + 1) us } from ?_)
 rw [e0];refine Cj K I0 F hb hr.in1.in1 (qV _) (Nat.le_add_right _ 3) (show s0.heap.objs.size + 3 ≠ s0.heap.objs.size + 1 from by omega) rv hl hz j0 turn fun s' H' out c os bare un hok na ha hv hj => ⟨rfl, ?_⟩
 have hlen : (byKey (xs.zip ks)).length <= sizeLine := by
  unfold byKey;rw [bN, List.length_mergeSort, List.length_zip];omega
 have new : ObjOk X.prog X.w (upd H' (s0.heap.objs.size + 1) (.lst (byKey (xs.zip ks)))) s'.heap (s0.heap.objs.size + 1) (.lst (byKey (xs.zip ks))) := ⟨hlen, _, c, hv, ha⟩;exact ⟨.ref _, _, I0.call' os (Nx I0.hok un (qV _)) (HOk.laidN hok (fun _ _ e => e) na new) bare fun b hb => absurd hb (by simp), rfl, q _ H' hj na (I0.hok.fresh (qV _))⟩
end
section
variable {X : Cx} {W : WX} {K : aC} {a b e : Expr} {ma mb : FE} {md : FD} {pos p kpos : Pos} {x : Str} {ps : List Str} {j k : Nat}
theorem G5 {sp : Sp} (F : kW X.prog X.w X.K X.mg X.base j x ps sp) (hr : Room k X.A) (hjk : j + 2 <= k := by decide) : CallRK X (.builtin "sorted") [Str.ofString "key"] (JO X.K (He.ga X.K x) sp) := by
 intro pins s σ H vs zs us ws Q I r rz h;obtain ⟨l, xs, ks, J, rfl, rfl, hs, hl, j0, turn, q⟩ := h;obtain rfl := Vals.ref1 r;obtain rfl := Vals.ref1 rz;obtain ⟨fd, F, hm, hk, hb⟩ := F;exact Ds I F hb (hr.mono hjk) hs hl j0 turn q
def kGo (md : FD) : List PH.D -> aL -> Option (List Int × aL)
 | [], S => some ([], S)
 | d :: r, S => match md [.dat d] S with
  | .ok (.dat (.int k)) S1 => (match kGo md r S1 with
   | some (ks, S2) => some (k :: ks, S2)
   | none => none)
  | _ => none
theorem Gk : ∀ {ds : List PH.D} {S S' : aL} {ks : List Int}, kGo md ds S = some (ks, S') -> ks.length = ds.length
 | [], S, S', ks, h => by cases h; rfl
 | d :: r, S, S', ks, h => by
  unfold kGo at h;split at h
  ·split at h
   ·rename_i q
    cases h;simp [Gk q]
   ·cases h
  ·cases h
theorem CU {α β : Type} (f : α -> β) (l : List (α × Int)) : byKey (l.map fun p => (f p.1, p.2)) = (byKey l).map f := by
 unfold byKey;rw [<- List.map_mergeSort (r := fun p q : α × Int => decide (p.2 <= q.2)) (fun a _ b _ => rfl), iX, iX]
 rfl
theorem Ia {α : Type} {l : List (α × Int)} {z : α} (h : z ∈ byKey l) : ∃ k, (z, k) ∈ l := by
 obtain ⟨q, h1, rfl⟩ := bD.mp h;exact ⟨q.2, (List.mergeSort_perm l _).mem_iff.mp h1⟩
theorem AZ {Bk : Addr -> Prop} {H : Hp} : ∀ {l : List (PH.D × L2.V)}, (∀ p ∈ l, Rep K Bk H p.1 p.2) -> RepL K Bk H (l.map (·.1)) (l.map (·.2))
 | [], _ => rfl
 | p :: r, h => ⟨_, _, rfl, h p (aW ..), AZ fun q hq => h q (aQ _ hq)⟩
theorem E9 {Bk : Addr -> Prop} {H : Hp} : ∀ {ds : List PH.D} {vs : List L2.V}, RepL K Bk H ds vs -> ∀ p ∈ ds.zip vs, Rep K Bk H p.1 p.2
 | [], _, h, p, hp => by simp at hp
 | d :: r, _, ⟨v, vs, rfl, h1, h2⟩, p, hp => by
  rcases cJ.mp hp with rfl | hp
  ·exact h1
  ·exact E9 h2 p hp
theorem FK {Bk : Addr -> Prop} {H : Hp} {ds : List PH.D} {vs : List L2.V} {ks : List Int} (h : RepL K Bk H ds vs) (hl : ks.length = ds.length) : RepL K Bk H (byKey (ds.zip ks)) (byKey (vs.zip ks)) := by
 have h0 := h.len;have e1 : ds.zip ks = ((ds.zip vs).zip ks).map fun p => (p.1.1, p.2) := by
  apply fP
  intro i;simp only [bZ, Dd, List.zip, HU];cases q1 : ds[i]? with
  | none => rfl
  | some d =>
   obtain ⟨v, q2, _⟩ := h.get q1;rw [q2];cases ks[i]? <;> rfl
 have e2 : vs.zip ks = ((ds.zip vs).zip ks).map fun p => (p.1.2, p.2) := by
  apply fP
  intro i;simp only [bZ, Dd, List.zip, HU];cases q1 : ds[i]? with
  | none =>
   have q2 : vs[i]? = none := by
    rw [dC] at q1 ⊢;omega
   rw [q2];rfl
  | some d =>
   obtain ⟨v, q2, _⟩ := h.get q1;rw [q2];cases ks[i]? <;> rfl
 rw [e1, e2, CU (fun p : PH.D × L2.V => p.1), CU (fun p : PH.D × L2.V => p.2)]
 refine AZ fun p hp => ?_
 obtain ⟨k, hk⟩ := Ia hp;exact E9 h p (List.of_mem_zip hk).1
theorem Mo {α β : Type} {σ : L2.St} {R : Rl α β} {B : Addr -> Prop} {φ φ1 : List Addr} {S S1 : aL} {H H1 : Hp} {r : Res α} {Q : β -> Hp -> Prop} (f : Fin K W σ R B φ S H r Q) (X : Ext φ S H φ1 S1 H1) : Fin K W σ R B φ1 S1 H1 r Q := by
 cases r with
 | ok d S' => exact fun φ' v H' I' X' r' => f φ' v H' I' (X.trans X') r'
 | err e S' => exact fun φ' c x H' I' X' r' => f φ' c x H' I' (X.trans X') r'
 | stuck => exact f
def DO (cl : Bool) (md : FD) (x : Vl) (S : aL) : Res Vl := match lA S x with
 | some ds => (match kGo md ds S with
  | some (ks, S2) => newL cl (byKey (ds.zip ks)) S2
  | none => .stuck)
 | none => .stuck
theorem Mp {cl : Bool} {p2 : Pos} (hn : X.mg "sorted" = none) (F : kW X.prog X.w X.K X.mg X.base j x ps (spF X.K md)) (hr : Room k X.A) (hm : X.mg x = some (.ref (He.ga X.K x))) (ha : PE X a (cL X.K W ma)) (hjk : j + 2 <= k := by decide) (hgx : Gl X x := by rfl) (hdx : (x == ("__debug__" : Str)) = false := by decide) (hg : Gl X "sorted" := by rfl)
  (he : backTo pos (starEach [a] X.env) = (false, eval a X.env) :: backTo pos (starEach [] X.env) := by rfl) (hs : starEach [a] X.env = [(false, eval a X.env)] := by rfl) (hpl : (backTo pos (starEach [a] X.env)).any (·.1) = false := by rfl)
  (hall : (backToKw pos (keywordEach [⟨some (Str.ofString "key"), .Name x p2, kpos⟩] X.env)).all (·.1.isSome) = true := by rfl) (hnone : (backToKw pos (keywordEach [⟨some (Str.ofString "key"), .Name x p2, kpos⟩] X.env)).any (·.1.isNone) = false := by rfl) (hks : (backToKw pos (keywordEach [⟨some (Str.ofString "key"), .Name x p2, kpos⟩] X.env)).filterMap (·.1) = [Str.ofString "key"] := by rfl) :
  PE X (.Call (.Name "sorted" p) [a] [⟨some (Str.ofString "key"), .Name x p2, kpos⟩] pos) (cL X.K W (m1 (DO cl md) ma)) :=
 cG (pe_callBK (G5 F hr hjk) hg hn boot_sorted (pa_cons ha pa_nil hs) (pk_cons (pe_glob (v := .ref (He.ga X.K x)) hgx hm rfl hdx) pk_nil) (he := he) (hpl := hpl) (hall := hall) (hnone := hnone) (hks := hks)) fun σ H Q h =>
  bT (k := fun x _ S => DO cl md x S) h fun B φ S ρ d v H1 I E r f => by
   unfold DO at f;split at f
   case h_2 => exact f.elim
   rename_i ds q;obtain ⟨a', vs, rfl, h1, l⟩ := jT I q r;split at f
   case h_2 => exact f.elim
   rename_i ks S2 q2;have hl := Gk q2;have hv := l.len;refine ⟨a', vs, ks, fun i H' => ∃ φ' S', GInv X.K B φ' S' H' /\ Ext φ S H1 φ' S' H' /\ kGo md (ds.drop i) S' = some (ks.drop i, S2), rfl, rfl, SqL.of h1, by omega, ⟨φ, S, I, Ext.refl, q2⟩, ?_, ?_⟩
   ·rintro i y k H' hy hk ⟨φ', S', I', X', g⟩
    obtain ⟨d', hd, rd'⟩ : ∃ d', ds[i]? = some d' /\ Rep X.K (iW B φ S) H1 d' y := by
     have hi : i < ds.length := by have := (aI.mp hy).1; omega
     obtain ⟨v', h3, h4⟩ := l.get (i := i) (d := ds[i]) (aZ hi);rw [hy] at h3;cases h3;exact ⟨_, aZ hi, h4⟩
    have ei : ds.drop i = d' :: ds.drop (i + 1) := by
     obtain ⟨hi, e⟩ := aI.mp hd;rw [dB hi, e]
    have ek : ks.drop i = k :: ks.drop (i + 1) := by
     obtain ⟨hi, e⟩ := aI.mp hk;rw [dB hi, e]
    rw [ei, ek] at g;unfold kGo at g;split at g
    case h_2 => cases g
    rename_i k' S3 q3;split at g
    case h_2 => cases g
    rename_i ks' S4 q4;cases g;refine ⟨B, φ', S', [.dat d'], I', ⟨_, _, rfl, Rep.kp (X'.kp I) _ _ rd', rfl⟩, ?_⟩
    rw [q3];intro φ3 v3 H3 I3 X3 r3;exact ⟨r3, φ3, S3, I3, X'.trans X3, q4⟩
   ·rintro p' H' ⟨φ', S', I', X', g⟩ hp hp1
    rw [GJ (by omega), GJ (by omega)] at g
    cases g;exact Fin.newL (Mo f X') I' (FK (X'.repL I l) hl) hp
end
def minOf (n : Int) (l : List Int) : Int := l.foldl (fun a b => if b < a then b else a) n
section
variable {X : Cx} {W : WX} {K : aC} {a b e : Expr} {ma mb : FE} {pos p : Pos}
def fMinL (x : Vl) (S : aL) : Res Vl := match lA S x with
 | some ds => (match Kw ds with
  | some (n :: ns) => .ok (.dat (.int (minOf n ns))) S
  | _ => .stuck)
 | none => .stuck
def NN : R2 := fun x y H Q => match x, y with
 | .int i, .int j => j ≠ 0 /\ Q (.int (i.fmod j)) H
 | _, _ => False
def FL : R2 := fun x y H Q => match x, y with
 | .int i, .int j => j ≠ 0 /\ Q (.int (i.fdiv j)) H
 | _, _ => False
theorem JY : OpR X (binaryOp .Mod) NN := fT op_modN fun x y H Q h => En (C := fun _ j => j ≠ 0) (g := fun i j => .int (i.fmod j)) x y H Q h
def Ky (K : aC) (mg : Str -> Option Value) : Prop := ∀ base : Heap, Mod K mg base -> base.NoSeer
structure Tre (P : Program) : Prop where
 tree : P.given.tree = none
def StkS (l : List Env) : Prop := match l with
 | env :: _ => env.scope.isGenerator = false /\ env.scope.isCoroutine = false /\ env.builtins = builtinsNs /\ env.globals = mainGlobals
 | [] => False
theorem op_fdivN {k : Nat} (sk : Ky X.K X.mg) (tr : Tre X.prog) (st : StkS X.stack) (hr : Room k X.A) (hk : 32 <= k := by decide) : OpR X (binaryOp .FloorDiv) FL := by
 intro pins s σ H x y v u Q I rx ry h;unfold FL at h;split at h
 ·rename_i i j
  obtain ⟨t, rfl⟩ := rx;obtain ⟨t', rfl⟩ := ry;refine floordiv_int h.1 ⟨.int (i.fdiv j), H, I.tok _, ⟨_, rfl⟩, h.2⟩ (.inr ?_)
  cases hst : X.stack with
  | nil => rw [hst] at st; exact st.elim
  | cons env l =>
   rw [hst] at st;obtain ⟨h1, h2, h3, h4⟩ := st;refine PylongRoom.of I.nolimit ?_ (SeerAt.of ((sk _ I.ok.mod).keeps I.bk) tr.tree (by rw [I.ok.frames, hst]) h1 h2 h3 h4)
   have := hr.dp
   show X.A.depth + 100 < recursionLimit
   omega
 ·exact h.elim
def Kj : Vl -> Vl -> aL -> Res Vl
 | .dat (.int i), .dat (.int j), S => if j ≠ 0 then .ok (.dat (.int (i.fmod j))) S else .stuck
 | _, _, _ => .stuck
def B4 : Vl -> Vl -> aL -> Res Vl
 | .dat (.int i), .dat (.int j), S => if j ≠ 0 then .ok (.dat (.int (i.fdiv j))) S else .stuck
 | _, _, _ => .stuck
theorem O6 : eW K NN Kj := fun {W σ B φ S H x y d e Q} I r1 r2 f => by
 unfold Kj at f;split at f
 ·cases r1; cases r2
  split at f
  ·rename_i h; exact ⟨h, Fin.now f I rfl⟩
  ·exact f.elim
 ·exact f.elim
theorem Cs : eW K FL B4 := fun {W σ B φ S H x y d e Q} I r1 r2 f => by
 unfold B4 at f;split at f
 ·cases r1; cases r2
  split at f
  ·rename_i h; exact ⟨h, Fin.now f I rfl⟩
  ·exact f.elim
 ·exact f.elim
end
theorem F8 {N P : List Str} {qual : Str} {sc : Scope} {L f : Addr} {cd : Value} {outer : List Env} (S : FnScope N P sc) : StkS (envOfC qual sc L f cd :: outer) := ⟨S.gen, S.co, rfl, rfl⟩
theorem Do {es : Array DictEntry} (h : Dq es = true) : StrKeys es := fun e he => by
 have q := bA.mp h e (Array.mem_toList_iff.mpr he);cases k : e.key with
 | str n t => exact ⟨n, t, rfl⟩
 | _ => rw [k] at q; cases q
theorem yB {K : aC} {a : Addr} {es : Array DictEntry} (h : B5 K a = some es) : ∃ o ep, K.lookup a = some o /\ o.data = .dict es ep := by
 unfold B5 at h;split at h
 ·rename_i q
  cases h;exact ⟨_, _, q, rfl⟩
 ·cases h
theorem xS {α : Type} {x : Option α} (h : isNone x = true) : x = none := by
 cases x with
 | none => rfl
 | some _ => cases h
theorem JF {K : aC} {mg : Str -> Option Value} (h : NG K = true) : Ky K mg := by
 intro base M;obtain ⟨h1, h2⟩ := He.ba h;obtain ⟨h2, h3⟩ := He.ba h2;refine ⟨?_, ?_, M.blt, ?_⟩
 ·split at h1
  case h_2 => cases h1
  rename_i es q;obtain ⟨o, ep, q1, q2⟩ := yB q;obtain ⟨mc, ⟨o', es', ep', e1, e2, e3, e4⟩, _⟩ := M.nolimit;have e5 := M.kin _ _ q1;rw [e1] at e5;cases e5;rw [q2] at e2;cases e2;obtain ⟨k1, k2⟩ := He.ba h1;exact ⟨mc, ⟨_, es, _, e1, q2, e3, e4⟩, by rw [<- e4]; exact xS k1, by rw [<- e4]; exact xS k2⟩
 ·split at h2
  case h_2 => cases h2
  rename_i es q;obtain ⟨o, ep, q1, q2⟩ := yB q;obtain ⟨k1, k2⟩ := He.ba h2;exact ⟨nsFind es, ⟨o, es, ep, M.kin _ _ q1, q2, Do k1, fun _ => rfl⟩, xS k2⟩
 ·split at h3
  case h_2 => cases h3
  rename_i es q;obtain ⟨o, ep, q1, q2⟩ := yB q;split at h3
  case h_2 => cases h3
  rename_i bm qb;split at h3
  case h_2 => cases h3
  rename_i c d dt sl ql;obtain ⟨k1, k2⟩ := He.ba h3;obtain ⟨o', es', ep', e1, e2, e3, e4⟩ := id M.glob;have e5 := M.kin _ _ q1;rw [e1] at e5;cases e5;rw [q2] at e2;cases e2;refine ⟨mg, bm, _, M.glob, by rw [<- e4]; exact qb, M.kin _ _ ql, ?_, ?_⟩
  ·rw [of_decide_eq_true k1]
  ·rw [of_decide_eq_true k2]
section
variable {X : Cx} {W : WX} {e a b c o i : Expr} {es rest : List Expr} {pos pos' p q p2 tpos apos cpos : Pos} {x y z C f : Str} {K : aC} {ma mb mc mo me mv : FE} {mi : FI} {mt mu : FT} {mas : FA} {B : Addr -> Prop} {φ φ' : List Addr} {S S' : aL} {H H' : Hp} {σ : L2.St} {Q : VK} {m n : FS} {st : Stmt} {BW : List Stmt} {D : Ends} {t t1 : Tg}
def uE (S : aL) (n : Nat) : Option (List Vl) := match S[n]? with
 | some (.lst ds) => some (ds.map Vl.dat)
 | some (.lv xs) => some xs
 | _ => none
theorem GU : ∀ {ds : List PH.D} {vs : List L2.V}, RepL K (iW B φ S) H ds vs -> RepVs K B φ S H (ds.map Vl.dat) vs
 | [], vs, h => h
 | d :: ds, vs, ⟨v, ws, e, h1, h2⟩ => ⟨v, ws, e, h1, GU h2⟩
theorem El {n : Nat} {a : Addr} {xs : List Vl} (I : GInv K B φ S H) (h : uE S n = some xs) (ha : φ[n]? = some a) : ∃ vs, H a = some (.lst vs) /\ RepVs K B φ S H xs vs := by
 unfold uE at h;split at h
 ·rename_i ds q
  cases h;obtain ⟨vs, h1, h2⟩ := I.ok n _ a q ha;exact ⟨vs, h1, GU h2⟩
 ·rename_i ys q
  cases h;obtain ⟨vs, h1, h2⟩ := I.ok n _ a q ha;exact ⟨vs, h1, h2⟩
 ·cases h
def oQ (t : Tg) (mb : FS) (n : Nat) : Nat -> Nat -> Ev -> aL -> Out
 | 0, _, _, _ => .stuck
 | k + 1, i, ρ, S => match uE S n with
  | none => .stuck
  | some xs => match xs[i]? with
   | none => .next ρ S
   | some d => match mR t d ρ with
    | none => .stuck
    | some ρ1 => match mb ρ1 S with
     | .next ρ2 S2 => oQ t mb n k (i + 1) ρ2 S2
     | .cnt ρ2 S2 => oQ t mb n k (i + 1) ρ2 S2
     | .brk ρ2 S2 => .next ρ2 S2
     | .ret d S2 => .ret d S2
     | .err e ρ2 S2 => .err e ρ2 S2
     | .stuck => .stuck
def Gm (t : Tg) (mb : FS) (ρ : Ev) (x : Vl) (S : aL) : Out := match x with
 | .cel n => oQ t mb n 1000000 0 ρ S
 | _ => .stuck
def Gh (a : FE) (t : Tg) (mb : FS) : FS := fun ρ S => (a ρ S).toS ρ (Gm t mb ρ)
theorem JC (h : jX K W (Gh ma t m) D σ H) : tFor (Od K (cL K W ma)) (GL K t) (jX K W m) D σ H := by
 obtain ⟨B, φ, S, ρ, I, E, f⟩ := h;refine cO I E f fun φ0 S0 d v H0 I0 X0 E0 r f0 => ?_
 unfold Gm at f0;split at f0
 case h_2 => exact f0.elim
 rename_i n;obtain ⟨a, rfl, ha0⟩ := r;have hx0 : ∃ xs, uE S0 n = some xs := by
  cases q : uE S0 n with
  | some xs => exact ⟨xs, rfl⟩
  | none => rw [oQ, q] at f0; exact f0.elim
 obtain ⟨xs0, hx0⟩ := hx0;obtain ⟨vs0, hv0, _⟩ := El I0 hx0 ha0;refine tT ⟨⟨vs0, SqL.of hv0⟩, ?_⟩
 refine ⟨fun i k σ' H' => ∃ φ1 S1 ρ1, GInv K B φ1 S1 H' /\ Ext φ0 S0 H0 φ1 S1 H' /\ RepE K B φ1 S1 H' ρ1 σ' /\ FinS K W D B φ1 S1 H' (oQ t m n k i ρ1 S1), ⟨_, φ0, S0, ρ, I0, Ext.refl, E0, f0⟩, ?_⟩
 rintro i k σ' H' ⟨φ1, S1, ρ1, I1, X1, E1, f1⟩
 cases k with
 | zero => exact f1.elim
 | succ k =>
 rw [oQ] at f1;have ha1 := X1.ids n a ha0;split at f1
 ·exact f1.elim
 rename_i xs hxs;obtain ⟨us1, hv1, lx⟩ := El I1 hxs ha1;have hl := lx.len;split at f1
 ·rename_i hi
  rw [dC] at hi;exact .inl ⟨⟨us1, SqL.of hv1, by omega⟩, f1 φ1 σ' H' I1 Ext.refl E1⟩
 ·rename_i d hd
  have hi : i < us1.length := by rw [hl]; exact (aI.mp hd).1
  refine .inr ⟨⟨us1, us1[i], SqL.of hv1, by simp [hi]⟩, fun σ2 H2 => ∃ φ2 S2 ρ2, GInv K B φ2 S2 H2 /\ Ext φ0 S0 H0 φ2 S2 H2 /\ RepE K B φ2 S2 H2 ρ2 σ2 /\ FinS K W D B φ2 S2 H2 (oQ t m n k (i + 1) ρ2 S2), fun σ2 H2 h2 => ⟨k, by omega, h2⟩, fun x H2 y => ?_⟩
  obtain ⟨rfl, y⟩ := y;obtain ⟨v', h3, r2⟩ := lx.getV hd;rw [y us1 (SqL.of hv1)] at h3;cases h3;split at f1
  ·exact f1.elim
  ·rename_i ρ2 q2
   refine xG E1 (d := d) r2 q2 fun vs E3 => ⟨B, φ1, S1, ρ2, I1, E3, ?_⟩
   cases q3 : m ρ2 S1 with
   | next ρ3 S3 =>
    rw [q3] at f1;exact fun φ3 σ3 H3 I3 X3 E4 => ⟨φ3, S3, ρ3, I3, X1.trans X3, E4, FinS.ext f1 X3⟩
   | cnt ρ3 S3 =>
    rw [q3] at f1;exact fun φ3 σ3 H3 I3 X3 E4 => ⟨φ3, S3, ρ3, I3, X1.trans X3, E4, FinS.ext f1 X3⟩
   | brk ρ3 S3 => rw [q3] at f1; exact f1
   | ret d S3 => rw [q3] at f1; exact f1
   | err e ρ3 S3 => rw [q3] at f1; exact f1
   | stuck => rw [q3] at f1; exact f1
theorem Mn {tg iter : Expr} (hp : PassesOwn (model X.prog X.w) X.A X.env X.xe) (hc : X.calm = true) (hi : PE X iter (cL X.K W ma)) (hg : PG X tg (GL X.K t)) (hb : PSs X BW (jX X.K W m))
  (hs : ∀ x, foldedSetIterable iter X.env x = pure x := by intro _; rfl) : PS X (.For tg iter BW [] pos) (jX X.K W (Gh ma t m)) := gO (ps_for hp hc (FQ hi) hg hb hs) fun D σ H h => JC h
def NU (t : Tg) (mt : FT) (me : FE) (ρ : Ev) (n : Nat) : Nat -> Nat -> aL -> Res (List Vl)
 | 0, _, _ => .stuck
 | k + 1, i, S => match uE S n with
  | none => .stuck
  | some xs => match xs[i]? with
   | none => .ok [] S
   | some d => match mR t d ρ with
    | none => .stuck
    | some ρ1 => match mt ρ1 S with
     | .ok b S1 => if b = true then (match me ρ1 S1 with
       | .ok e S2 => (match NU t mt me ρ n k (i + 1) S2 with
        | .ok es S3 => .ok (e :: es) S3
        | _ => .stuck)
       | _ => .stuck) else NU t mt me ρ n k (i + 1) S1
     | _ => .stuck
def Pe (w : Bool) (es : List Vl) (S : aL) : Res Vl := if w then newV es S else match tS es with
 | some ds => newL false ds S
 | none => .stuck
theorem Fin.doneW {w : Bool} {A : Addr} {es : List Vl} {vs : List L2.V} {H0 : Hp} {φ0 : List Addr} {S0 : aL} (f : Fin K W σ (RepV K) B φ0 S0 H0 (Pe w es S) Q) (I : GInv K (hC B A) φ S H) (X0 : Ext φ0 S0 H0 φ S H) (h0 : H0 A = none) (nB : ¬ B A) (ha : H A = some (.lst vs)) (l : RepVs K (hC B A) φ S H es vs) : Q (.ref A) H := by
 unfold Pe at f;split at f
 ·exact Fin.doneV f I X0 h0 nB ha l
 ·split at f
  ·rename_i ds q
   exact Fin.done f I X0 h0 nB ha (tL q l)
  ·exact f.elim
def vV (t : Tg) (mt : FT) (me : FE) (ρ : Ev) : List PH.D -> aL -> Res (List Vl)
 | [], S => .ok [] S
 | d :: r, S => match mR t (.dat d) ρ with
  | none => .stuck
  | some ρ1 => match mt ρ1 S with
   | .ok b S1 => if b = true then (match me ρ1 S1 with
     | .ok e S2 => (match vV t mt me ρ r S2 with
      | .ok es S3 => .ok (e :: es) S3
      | _ => .stuck)
     | _ => .stuck) else vV t mt me ρ r S1
   | _ => .stuck
def I9 (t : Tg) (mt : FT) (me : FE) (vs : List Nat) (ρ : Ev) (ds : List PH.D) (S1 : aL) : Res Vl := if ds.length <= sizeLine then (match vV t mt me (wipeE ρ vs) ds S1 with
 | .ok es S2 => newV es S2
 | _ => .stuck) else .stuck
def Ff (mi : FI) (t : Tg) (mt : FT) (me : FE) (vs : List Nat) : FE := fun ρ S => (mi ρ S).bind (I9 t mt me vs ρ)
theorem LN {t : Tg} {vs : List Nat} (ht : ∀ i ∈ LH t, i ∈ vs) (h : cL K W (Ff mi t mt me vs) σ H Q) : tLc (Iv K W mi) (GL K t) (tO K wNo mt) (cL K wNo me) vs σ H Q := by
 refine bT (k := fun ds ρ S1 => I9 t mt me vs ρ ds S1) h fun B φ0 S0 ρ ds J H0 I0 E0 r f0 => ?_
 intro A hA;unfold I9 at f0;split at f0
 case isFalse => exact f0.elim
 rename_i hsz;cases q0 : vV t mt me (wipeE ρ vs) ds S0 with
 | stuck => rw [q0] at f0; exact f0.elim
 | err e S' => rw [q0] at f0; exact f0.elim
 | ok es0 Sz =>
 rw [q0] at f0;have nB : ¬ B A := fun q => by obtain ⟨u, e⟩ := I0.btr A q; rw [hA] at e; cases e
 have IA : GInv K (hC B A) φ0 S0 (upd H0 A (.lst [])) := I0.plus hA;have b2 : ∀ a, H0 a ≠ none -> hC B A a -> B a := fun b hb h => by
  rcases h with h | h
  ·exact h
  ·exact absurd (by rw [h]; exact hA) hb
 refine ⟨fun i k H' => i <= ds.length /\ k = ds.length - i /\ ∃ φ1 S1 us acc rest, GInv K (hC B A) φ1 S1 H' /\ Ext φ0 S0 H0 φ1 S1 H' /\ RepE K (hC B A) φ1 S1 H' (wipeE ρ vs) (wipe σ vs) /\ H' A = some (.lst us) /\ us.length <= i /\ RepVs K (hC B A) φ1 S1 H' acc us /\ vV t mt me (wipeE ρ vs) (ds.drop i) S1 = .ok rest Sz /\ acc ++ rest = es0,
  ⟨_, nI _, rfl, φ0, S0, [], [], es0, IA, Ext.new I0 hA, (E0.wipes vs).plus I0 hA, upd_same, bH _, rfl, q0, rfl⟩, ?_⟩
 rintro i k H' ⟨hi, rfl, φ1, S1, us, acc, rs, I1, X1, E1, hA1, hul, l1, g1, ea⟩
 obtain ⟨hgo, hstop, hyld⟩ := r φ1 S1 H' (hC B A) I1 (X1.kpB (fun _ h => .inl h) b2 I0)
 by_cases hlt : i < ds.length
 ·refine .inr ⟨hgo i hlt, fun H2 => i + 1 <= ds.length /\ ∃ φ1 S1 us acc rest, GInv K (hC B A) φ1 S1 H2 /\ Ext φ0 S0 H0 φ1 S1 H2 /\ RepE K (hC B A) φ1 S1 H2 (wipeE ρ vs) (wipe σ vs) /\ H2 A = some (.lst us) /\ us.length <= i + 1 /\ RepVs K (hC B A) φ1 S1 H2 acc us /\ vV t mt me (wipeE ρ vs) (ds.drop (i + 1)) S1 = .ok rest Sz /\ acc ++ rest = es0, fun H2 ⟨h1, h2⟩ => ⟨ds.length - (i + 1), by omega, h1, rfl, h2⟩, fun x H2 y => ?_⟩
  have hd : ds[i]? = some ds[i] := by simp [hlt]
  obtain ⟨I2, X2, r2⟩ := hyld i x H2 ds[i] hd y;rw [dB hlt] at g1;unfold vV at g1;split at g1
  case h_1 => cases g1
  rename_i ρ2 q2;have hA2 := (X2.old A _ hA1 fun q => I1.blk A q (.inr rfl)).1
  refine xG (E1.ext X2 I1) (d := .dat ds[i]) r2 q2 fun ws E3 => ⟨by rw [xF ht, xE], hC B A, φ1, S1, ρ2, I2, E3, ?_⟩
  split at g1
  case h_2 => cases g1
  rename_i b S3 q3;rw [q3];intro φ3 b' H3 I3 X3 rb;have rb : b' = b := rb;subst rb;have hA3 := (X3.old A _ hA2 fun q => I2.blk A q (.inr rfl)).1
  have Xa := X1.trans (X2.trans X3);cases b' with
  | false => exact ⟨hlt, φ3, S3, us, acc, rs, I3, Xa, (E1.ext X2 I1).ext X3 I2, hA3, Nat.le_succ_of_le hul, (l1.ext X2 I1).ext X3 I2, g1, ea⟩
  | true =>
   rw [if_pos rfl];rw [if_pos rfl] at g1;refine ⟨hC B A, φ3, S3, ρ2, I3, E3.ext X3 I2, ?_⟩
   split at g1
   case h_2 => cases g1
   rename_i e S4 q4;rw [q4];intro φ4 v4 H4 I4 X4 r4;have hA4 := (X4.old A _ hA3 fun q => I3.blk A q (.inr rfl)).1
   split at g1
   case h_2 => cases g1
   rename_i es S5 q5;cases g1;have l4 : RepVs K (hC B A) φ4 S4 H4 (acc ++ [e]) (us ++ [v4]) := (((l1.ext X2 I1).ext X3 I2).ext X4 I3).snocV r4;refine ⟨us, hA4, by omega, hlt, φ4, S4, us ++ [v4], acc ++ [e], es, I4.plusPut hA4, ?_, (((E1.ext X2 I1).ext X3 I2).ext X4 I3).plusPut hA4, upd_same, by simp; omega, cW (RepV.plusPut hA4) l4, q5, by rw [<- ea]; simp⟩
   exact ⟨fun b o h nb => by
    obtain ⟨h1, h2⟩ := (Xa.trans X4).old b o h nb;exact ⟨by rw [upd_ne (fun e => by subst e; rw [hA] at h; cases h)]; exact h1, h2⟩, (Xa.trans X4).ids⟩
 ·have e : i = ds.length := by omega
  subst e;rw [rL] at g1;cases g1;rw [hG] at ea;subst ea;exact .inl ⟨hstop, Fin.doneV f0 I1 X1 hA nB hA1 l1⟩
theorem Nk {t : Tg} {elt tg iter : Expr} {ifs : List Expr} {scope : Scope} {own : List (Str × Nat)} (hc : X.calm = true) (hN : X.N.Nodup) (hi : PI X tg iter (Iv X.K W mi)) (ok : BlkOk X.N X.env.scope scope own)
  (hg : ∀ (s : Shared) (H : Hp) (C : Addr) (cl : List (Str × Addr)) (fp : List Addr), PG (X.blk s H scope (compEnvC scope cl C X.env) fp) tg (GL X.K t)) (ht : ∀ (s : Shared) (H : Hp) (C : Addr) (cl : List (Str × Addr)) (fp : List Addr), PTs (X.blk s H scope (compEnvC scope cl C X.env) fp) ifs (tO X.K wNo mt))
  (he : ∀ (s : Shared) (H : Hp) (C : Addr) (cl : List (Str × Addr)) (fp : List Addr), PE (X.blk s H scope (compEnvC scope cl C X.env) fp) elt (cL X.K wNo me)) (hs : ∀ x, foldedSetIterable iter X.env x = pure x := by intro _; rfl) (hv : ∀ i ∈ LH t, i ∈ own.map (·.2) := by decide) :
  PE X (.ListComp elt [⟨tg, iter, ifs, 0⟩] scope pos) (cL X.K W (Ff mi t mt me (own.map (·.2)))) := cG (pe_lc hc hN hi ok hg ht he hs) fun σ H Q h => LN hv h
end
section
variable {S : aL} {a : FE} {ρ : Ev} {n : Nat} {t : Tg} {mt : FT} {me : FE} {mb : FS} {mi : FI} {vs : List Nat} {xs : List Vl} {w : Bool} {j1 j2 : Nat} {ds : List PH.D}
theorem Em (h : S[n]? = some (.lv xs)) : uE S n = some xs := by simp only [uE, h]
theorem PV : Gh a t mb ρ S = (a ρ S).toS ρ (Gm t mb ρ) := rfl
theorem MN : Gm t mb ρ (.cel n) S = oQ t mb n 1000000 0 ρ S := rfl
theorem Nj : Ff mi t mt me vs ρ S = (mi ρ S).bind (I9 t mt me vs ρ) := rfl
theorem Fh {k i : Nat} {d : Vl} {ρ1 ρ2 : Ev} {S2 : aL} (h : uE S n = some xs) (hi : xs[i]? = some d) (h1 : mR t d ρ = some ρ1) (h2 : mb ρ1 S = .next ρ2 S2) : oQ t mb n (k + 1) i ρ S = oQ t mb n k (i + 1) ρ2 S2 := by
 rw [oQ, h];dsimp only;rw [hi];dsimp only;rw [h1];dsimp only;rw [h2]
theorem I7 {k i : Nat} (h : uE S n = some xs) (hi : xs[i]? = none) : oQ t mb n (k + 1) i ρ S = .next ρ S := by
 rw [oQ, h];dsimp only;rw [hi]
end
def GD {α β : Type} (f : α -> Option β) : List α -> Option (List β)
 | [] => some []
 | x :: xs => match f x, GD f xs with
  | some y, some ys => some (y :: ys)
  | _, _ => none
mutual
def vwJ (c : Nat -> Option PH.D) : TIt -> Option PH.D
 | .inl d => some d
 | .inr n => c n
 | .tup xs => match vwJs c xs with
  | some ds => some (.tup ds)
  | none => none
def vwJs (c : Nat -> Option PH.D) : List TIt -> Option (List PH.D)
 | [] => some []
 | x :: xs => match vwJ c x, vwJs c xs with
  | some y, some ys => some (y :: ys)
  | _, _ => none
end
def vwV (c : Nat -> Option PH.D) : Vl -> Option PH.D
 | .dat d => some d
 | .cel n => c n
 | .tc xs => match GD (vwJ c) xs with
  | some ds => some (.tup ds)
  | none => none
 | _ => none
mutual
def NH : PH.D -> Bool
 | .non => true
 | .bl _ => true
 | .int _ => true
 | .str _ => true
 | .tup ds => JH ds
 | _ => false
def JH : List PH.D -> Bool
 | [] => true
 | d :: ds => NH d && JH ds
end
def padS (S S2 : aL) : aL := S ++ pM (S2.length - S.length) Cell.dead
def rdR (S1 : aL) (r : Res Vl) : Res Vl := match r with
 | .ok (.dat d) S2 => if NH d = true then .ok (.dat d) (padS S1 S2) else .stuck
 | _ => .stuck
def toJ : Vl -> Option TIt
 | .dat d => some (.inl d)
 | .cel n => some (.inr n)
 | .tc xs => some (.tup xs)
 | _ => none
section
variable {K : aC} {B : Addr -> Prop} {φ φ' : List Addr} {S S' S2 : aL} {H H' : Hp}
theorem J4 : ∀ {xs : List Vl} {js : List TIt} {vs : List L2.V}, GD toJ xs = some js -> RepVs K B φ S H xs vs -> RepIs K (iW B φ S) φ H js vs
 | [], js, vs, h, r => by cases h; exact r
 | x :: xs, js, vs, h, ⟨v, ws, e, r1, r2⟩ => by
  unfold GD at h;split at h
  ·rename_i y ys q1 q2
   cases h;refine ⟨v, ws, e, ?_, J4 q2 r2⟩
   cases x with
   | dat d => cases q1; exact r1
   | cel n => cases q1; exact r1
   | tc ys => cases q1; exact r1
   | _ => cases q1
  ·cases h
theorem RepIs.len {Bk : Addr -> Prop} : ∀ {js : List TIt} {vs : List L2.V}, RepIs K Bk φ H js vs -> vs.length = js.length
 | [], vs, h => by cases h; rfl
 | x :: xs, vs, ⟨v, ws, e, r1, r2⟩ => by rw [e, aY, aY, r2.len]
theorem RepIs.get {Bk : Addr -> Prop} : ∀ {js : List TIt} {vs : List L2.V} {i : Nat} {x : TIt}, RepIs K Bk φ H js vs -> js[i]? = some x -> ∃ v, vs[i]? = some v /\ RepI K Bk φ H x v
 | [], vs, i, x, h, q => by simp at q
 | y :: js, _, 0, x, ⟨v, ws, rfl, r1, r2⟩, q => by cases q; exact ⟨v, rfl, r1⟩
 | y :: js, _, i + 1, x, ⟨v, ws, rfl, r1, r2⟩, q => RepIs.get (i := i) r2 (by simpa using q)
end
def OB : TIt -> Vl
 | .inl d => .dat d
 | .inr n => .cel n
 | .tup xs => .tc xs
def kTC (xs : List Vl) (S : aL) : Res Vl := match GD toJ xs with
 | some js => if js.length <= sizeLine then .ok (.tc js) S else .stuck
 | none => .stuck
def Ak (r : FA) : FE := fun ρ S => (r ρ S).bind kTC
def Mu (x y : Vl) (S : aL) : Res Vl := match x, y with
 | .tc xs, .dat (.int i) => (match atI xs i with
  | some j => .ok (OB j) S
  | none => .stuck)
 | _, _ => .stuck
section
variable {X : Cx} {W : WX} {a b : Expr} {es : List Expr} {pos p : Pos} {mas : FA} {ma mb : FE} {K : aC}
theorem G0 (h : PA X es (JM X.K W mas)) : PE X (.Tuple es x1 pos) (cL X.K W (Ak mas)) := cG (pe_tup h) fun σ H Q h =>
 bT (k := fun xs ρ S1 => kTC xs S1) h fun B φ S ρ d v H1 I E r f => by
  unfold kTC at f;split at f
  ·rename_i js q
   have l := J4 q r;split at f
   ·rename_i hl
    exact ⟨by rw [l.len]; exact hl, fun p hp => f φ _ _ (I.new hp) (Ext.new I hp) ⟨p, v, rfl, .inl (.inl upd_same), l.kp ((Ext.new I hp).kp I) fun _ _ h => h⟩⟩
   ·exact f.elim
  ·exact f.elim
theorem O8 : eW K (cIx K) Mu := fun {W σ B φ S H x y d e Q} I r1 r2 f => by
 unfold Mu at f;split at f
 ·rename_i xs i
  cases r2;obtain ⟨a, vs, rfl, h1, l1⟩ := r1;split at f
  ·rename_i j q
   unfold atI at q;cases qi : ixN xs.length i with
   | none => rw [qi] at q; cases q
   | some n =>
    rw [qi] at q;obtain ⟨v, h2, h3⟩ := l1.get q;refine ⟨vs, v, .inr h1, by unfold atI; rw [l1.len, qi]; exact h2, Fin.now f I ?_⟩
    cases j with
    | inl d => exact h3
    | inr n => exact h3
    | tup ys => exact h3
  ·exact f.elim
 ·exact f.elim
end
section
variable {S : aL} {ρ : Ev} {mas : FA} {md : FD}
theorem DH : Ak mas ρ S = (mas ρ S).bind kTC := rfl
end
abbrev FGn := Ev -> aL -> Res (List PH.D)
abbrev FDG := List Vl -> aL -> Res (List PH.D)
end PH
namespace L2
open PySem PySem.Spec PyProof.Rows GenW
abbrev EndP := End -> Shared -> Prop
def GTurn (M : Model) (A : Around) (F : EndP) (c : Code) (t : Sem PySem.Fin) (fs : List Frame) (s : Shared) : Prop :=
 ∀ Γ p, Γ.code = c -> Γ.Woken A -> ∃ e s', Runs M Γ p t fs s e s' /\ F e s'
def KB (it : Addr) (s s' : Shared) : Prop := s'.os = s.os /\ s'.gens = s.gens /\ ∀ b o, b ≠ it -> s.heap.get? b = some o -> s'.heap.get? b = some o
def FR (M : Model) (A : Around) (it a : Addr) (its : Array Value) : Nat -> Shared -> EndP
 | 0, s => fun e s' => e = .ret (.ok (.ret .none)) /\ KB it s s'
 | r + 1, s => fun e s' => match e with
  | .ret _ => False
  | .susp v g l k c p fs => (End.susp v g l k c p fs).quiet = true /\ its[its.size - (r + 1)]? = some v /\ KB it s s' /\ s'.heap.get? it = some (GNX.itObj a (its.size - r)) /\
    ∀ s'' : Shared, s''.heap.get? it = some (GNX.itObj a (its.size - r)) -> s''.heap.IsList a its -> GTurn M A (FR M A it a its r s'') c (k (.send .none)) fs s''
abbrev TQ := Addr -> List V -> Hp -> Prop
end L2
namespace L2
open PySem PySem.Spec PyProof.Rows
abbrev Cls3 := Value × Option Nat × (Addr -> Value -> Option Addr -> TS)
end L2
namespace PH
open PySem PySem.Spec PyProof.Rows L2
inductive XJ where
 | c (v : L2.V) (d : PH.D) | f (n : Str) | v (i : Nat) | fl (n : Str) (i : Nat)
section
variable {X : Cx} {W : WX} {e : Expr} {es : List Expr} {pos : Pos} {K : aC} {B : Addr -> Prop} {φ φ' : List Addr} {S S' : aL} {H H' : Hp} {σ : L2.St} {m : FS} {D : Ends} {cs : List Str} {x : Str}
inductive HJ where
 | m (f : FS) | j (k : Nat) (its : List XJ)
end
end PH
namespace PH
open PySem PySem.Spec PyProof PyProof.Rows L2
theorem Lo {n : Nat} {fa : List He.Fa} {fn : List He.DefD} {ts : List He.Tab} {ex : aC -> Bool} {g : Addr -> Option Obj} {s : Shared} (h : ∀ a, g a = s.heap.get? a) : OD n fa fn ts ex g = (Nc n fa fn ts ex).obs s := by
 have e : g = s.heap.get? := funext h;rw [e] <;> rfl
section
variable {X : Cx} {W : WX}
theorem fI {i j pos} : PE X (.Constant (.int i) j pos) (cL X.K W (mC (.int i))) := Kb pe_int fun _ _ => rfl
theorem fS {x j pos} : PE X (.Constant (.str x) j pos) (cL X.K W (mC (.str x))) := Kb pe_str fun _ _ => rfl
theorem fB {b j pos} : PE X (.Constant (.bool b) j pos) (cL X.K W (mC (.bl b))) := Kb pe_bl fun _ _ => rfl
theorem fN {j pos} : PE X (.Constant .none j pos) (cL X.K W (mC .non)) := Kb pe_non fun _ _ => rfl
end
section
variable {P : Program} {w : World} {K : aC} {mg : Str -> Option Value} {base : Heap}
theorem eU {x : Str} {st : Stmt} {N ps : List Str} {k : Nat} {md : FD} {mb : FS} (F : mJ K x st) (g : mg x = some (.ref (He.ga K x))) (S : FnScope N ps (defScope st)) (R : Runs md N.length ps.length mb)
  (bnd : ∀ (kV doc pm : Value) (an : Option Addr) (cdv ct : Value) (us : List Value), us.length = ps.length -> bindArgs (gP x x (defArgs st) (defBody st) (defScope st) .none kV doc pm an cdv ct) ⟨us, []⟩ = pure (ps.zip us))
  (hbody : ∀ (cdv : Value) (A : Around) (outer : List Env) (s : Shared) (H : Hp) (E : XK), Room k (A.deeper (envOfC x (defScope st) s.heap.objs.size (He.ga K x) cdv)) ->
   Takes (cxOf (L2.CX P w) P w K mg base N x (defScope st) (He.ga K x) cdv A outer s H E) (fun c x _ H => E c x H) -> N.Nodup ->
   PSs (cxOf (L2.CX P w) P w K mg base N x (defScope st) (He.ga K x) cdv A outer s H E) (defBody st) (jX K (fun c x _ H => E c x H) mb)) : kW P w K mg base (k + 1) x ps (spF K md) :=
 okF F g S R bnd fun cdv A outer s H E hr => hbody cdv A outer s H E hr (takes_of (X := cxOf (L2.CX P w) P w K mg base N x (defScope st) (He.ga K x) cdv A outer s H E) (E := E) rfl rfl rfl rfl) S.nd
theorem Ah {C m q : Str} {st : Stmt} {N ps : List Str} {k : Nat} {md : FD} {mb : FS} (F : HS K C m q st) (g : Meth K (He.ga K C) m (He.ma K (He.ga K C) m)) (S : FnScope N ps (defScope st)) (R : Runs md N.length ps.length mb)
  (bnd : ∀ (kV doc pm : Value) (an : Option Addr) (cdv ct : Value) (us : List Value), us.length = ps.length -> bindArgs (gP m q (defArgs st) (defBody st) (defScope st) .none kV doc pm an cdv ct) ⟨us, []⟩ = pure (ps.zip us))
  (hbody : ∀ (cdv : Value) (A : Around) (outer : List Env) (s : Shared) (H : Hp) (E : XK), Room k (A.deeper (envOfC q (defScope st) s.heap.objs.size (He.ma K (He.ga K C) m) cdv)) ->
   Takes (cxOf (L2.CX P w) P w K mg base N q (defScope st) (He.ma K (He.ga K C) m) cdv A outer s H E) (fun c x _ H => E c x H) -> N.Nodup ->
   PSs (cxOf (L2.CX P w) P w K mg base N q (defScope st) (He.ma K (He.ga K C) m) cdv A outer s H E) (defBody st) (jX K (fun c x _ H => E c x H) mb)) : OkMX P w K mg base (k + 1) C m ps (spF K md) :=
 okFM F g S R bnd fun cdv A outer s H E hr => hbody cdv A outer s H E hr (takes_of (X := cxOf (L2.CX P w) P w K mg base N q (defScope st) (He.ma K (He.ga K C) m) cdv A outer s H E) (E := E) rfl rfl rfl rfl) S.nd
end
end PH
namespace PH
open PySem PySem.Spec PyProof.Rows L2
structure XsF (K : aC) (D : Addr) : Prop where
 cl : (PySem.W.clsIn K D).isSome = true
 hg : dW K (.ref D) "__getattribute__" = some (some (.builtin "BaseException.__getattribute__"))
 hk : dW K (.ref D) "__getattr__" = some none
 hs : uT K (.ref D) (.type "BaseException") = some true
 ha : dW K (.ref D) "__class__" = some (some (.builtin "object.__class__"))
 hn : xC K (.builtin "object.__class__") "__get__" = some (some (.builtin "getset_descriptor.__get__"))
 ht : AD K (.builtin "object.__class__") = some true
 hm : Cc K D (.type "object") = some true
inductive XH where
 | own (y : Str) | ty (T : String)
def xhB (c : Str) : XH -> Bool
 | .own y => decide (c = y)
 | .ty _ => true
def rXa (K : aC) (a : Addr) (cls : Value) (d : Option Addr) : List V -> Hp -> VK -> Prop := fun xs H Q => ∃ (D : Addr) (c : V) (cv : Value) (b : Bool), xs = [.ref a, c] /\ (∀ u, RelV c u -> u = cv) /\ cls = .ref D /\ XsF K D /\ PySem.W.hasDictIn K D = true /\ (d = none \/ ∃ dd fs, d = some dd /\ H dd = some (.xd fs)) /\ eJ K (.ref D) cv = some b /\ Q (.bl b) H
def hV (K : aC) : XH -> V
 | .own y => .ref (He.ga K y)
 | .ty T => .ty T
def M9 (K : aC) (a : Addr) (cls : Value) (d : Option Addr) (k : Nat) : List XH -> TA
 | [] => tNil
 | y :: r => tCons (tCB (rXa K a cls d) (tCons (zX k) (tCons (tC (hV K y)) tNil))) (M9 K a cls d k r)
def Nf (K : aC) (a : Addr) (cls : Value) (d : Option Addr) (k i : Nat) (fin : Option (List XH)) : List (List XH) -> TS
 | [] => fun D σ H => match fin with
  | none => D.nx σ H
  | some ys => tOp (N6 K) (zX i) (tLst (M9 K a cls d k ys)) σ H fun v H1 => D.rt v H1
 | ys :: r => fun D σ H => tOp (N6 K) (zX i) (tLst (M9 K a cls d k ys)) σ H fun v H1 => Nf K a cls d k i fin r D (σ.set i (some v)) H1
def hAll (K : aC) (a : Addr) (cls : Value) (d : Option Addr) (k i : Nat) (ys : List XH) (r : List (List XH)) (fin : Option (List XH)) : TS := fun D σ H => tLst (M9 K a cls d k ys) σ H fun v H1 => Nf K a cls d k i fin r D (σ.set i (some v)) H1
section
variable {X : Cx} {W : WX} {e : Expr} {es : List Expr} {K : aC} {B : Addr -> Prop} {φ φ' : List Addr} {S S' : aL} {H H' : Hp} {σ : L2.St} {D : Ends} {x : Str} {m : FS} {cs : List Str} {pos p p2 p3 : Pos}
def hR (K : aC) (b : Str) (k i : Nat) (ys : List XH) (r : List (List XH)) (fin : Option (List XH)) : Cls3 := (.ref (He.ga K b), some k, fun a cls d => hAll K a cls d k i ys r fin)
end
section
variable {X : Cx} {W : WX} {K : aC} {B : Addr -> Prop} {φ φ' : List Addr} {S S' : aL} {H H' : Hp} {σ : L2.St} {D : Ends} {ma : FE} {m : FS} {t : Tg} {BW : List Stmt} {pos : Pos}
theorem JL {j : TIt} {v : L2.V} (r : RepI K (iW B φ S) φ H j v) : RepV K B φ S H (OB j) v := by
 cases j with
 | inl d => exact r
 | inr n => exact r
 | tup xs => exact r
end
def F7 : Vl -> Option (List TIt)
 | .dat (.tup ds) => some (ds.map TIt.inl)
 | .tc js => some js
 | _ => none
section
variable {X : Cx} {W : WX} {K : aC} {B : Addr -> Prop} {φ φ' : List Addr} {S S' : aL} {H H' : Hp} {σ : L2.St} {a : Expr} {pos p : Pos} {ma : FE}
theorem Bt {Bk : Addr -> Prop} : ∀ {ds : List PH.D} {vs : List L2.V}, RepL K Bk H ds vs -> RepIs K Bk φ H (ds.map TIt.inl) vs
 | [], vs, h => h
 | d :: ds, vs, ⟨v, ws, e, h1, h2⟩ => ⟨v, ws, e, h1, Bt h2⟩
theorem LJ {x : Vl} {js : List TIt} {v : L2.V} (h : F7 x = some js) (r : RepV K B φ S H x v) : ∃ q vs, v = .ref q /\ SqT K H q vs /\ RepIs K (iW B φ S) φ H js vs := by
 unfold F7 at h;split at h
 ·cases h
  obtain ⟨q, vs, e, h1, l⟩ := r;exact ⟨q, vs, e, h1, Bt l⟩
 ·cases h
  exact r
 ·cases h
def Kk (x y : Vl) (S : aL) : Res Vl := match F7 x, F7 y with
 | some xs, some ys => if xs.length + ys.length <= sizeLine then .ok (.tc (xs ++ ys)) S else .stuck
 | _, _ => .stuck
def fTupV (x : Vl) (S : aL) : Res Vl := match x with
 | .cel n => (match S[n]? with
  | some (.lv es) => (match GD toJ es with
   | some js => .ok (.tc js) S
   | none => .stuck)
  | _ => .stuck)
 | _ => .stuck
def Bh (x y : Vl) (S : aL) : Res Vl := match x with
 | .tc xs => Mu (.tc xs) y S
 | x => cM x y S
theorem s_ixB : eW K (cIx K) Bh := fun {W σ B φ S H x y d e Q} I r1 r2 f => by
 unfold Bh at f;split at f
 ·exact O8 I r1 r2 f
 ·exact s_ix I r1 r2 f
def xY (x : Vl) (S : aL) : Res Vl := match x with
 | .cel n => (match S[n]? with
  | some (.lv es) => newV es S
  | _ => .stuck)
 | _ => .stuck
theorem LW : Bl K (Kt K) xY := fun {W σ B φ S H x d Q} I r f => by
 unfold xY at f;split at f
 ·rename_i n
  split at f
  ·rename_i es q
   obtain ⟨a, rfl, ha⟩ := r;obtain ⟨vs, h1, l⟩ := I.ok n _ a q ha;exact ⟨vs, .inl (SqL.of h1), fun p hp => Fin.newV f I l hp⟩
  ·exact f.elim
 ·exact f.elim
theorem Mq (hm : X.mg "list" = none) (ha : PE X a (cL X.K W ma)) (hg : Gl X "list" := by rfl) (hs : starEach [a] X.env = [(false, eval a X.env)] := by rfl) : PE X (.Call (.Name "list" p) [a] [] pos) (cL X.K W (m1 xY ma)) := cG (Kn hm ha hg hs) fun σ H Q h => uH LW h
variable {b : Expr} {mb : FE}
theorem Nl (ha : PE X a (cL X.K W ma)) (hb : PE X b (cL X.K W mb)) (hs : PlainIx b := by intro _ _; rfl) : PE X (.Subscript a b pos) (cL X.K W (aV Bh ma mb)) := cG (Pj ha hb hs) fun σ H Q h => xH s_ixB h
theorem RepIs.drop {Bk : Addr -> Prop} : ∀ (n : Nat) {xs : List TIt} {vs : List L2.V}, RepIs K Bk φ H xs vs -> RepIs K Bk φ H (xs.drop n) (vs.drop n)
 | 0, xs, vs, h => h
 | n + 1, [], vs, h => by cases h; exact rfl
 | n + 1, x :: xs, vs, ⟨v, ws, e, h1, h2⟩ => by subst e; exact RepIs.drop n h2
theorem RepIs.take {Bk : Addr -> Prop} : ∀ (n : Nat) {xs : List TIt} {vs : List L2.V}, RepIs K Bk φ H xs vs -> RepIs K Bk φ H (xs.take n) (vs.take n)
 | 0, xs, vs, h => by rw [DZ, DZ]; exact rfl
 | n + 1, [], vs, h => by cases h; exact rfl
 | n + 1, x :: xs, vs, ⟨v, ws, e, h1, h2⟩ => by subst e; exact ⟨v, ws.take n, rfl, h1, RepIs.take n h2⟩
def G4 (xs : List TIt) (lo hi : Option Int) : List TIt := (xs.drop (HT.sIx xs.length 0 lo)).take (HT.sIx xs.length xs.length hi - HT.sIx xs.length 0 lo)
theorem RepIs.cut {Bk : Addr -> Prop} {ds : List TIt} {vs : List L2.V} {lo hi : Option Int} (h : RepIs K Bk φ H ds vs) : RepIs K Bk φ H (G4 ds lo hi) (cutV vs lo hi) := by
 unfold G4 cutV;rw [h.len];exact (h.drop _).take _
theorem G3 {xs : List TIt} {lo hi : Option Int} (h : HT.sIx xs.length 0 lo = 0 /\ HT.sIx xs.length xs.length hi = xs.length) : G4 xs lo hi = xs := by
 unfold G4;rw [h.1, h.2];simp
def zV (x : Vl) (lo hi : Option Int) (S : aL) : Res Vl := match x with
 | .tc xs => .ok (.tc (G4 xs lo hi)) S
 | .dat (.tup xs) => .ok (.dat (.tup (cutD xs lo hi))) S
 | _ => .stuck
def OG (a : FE) (l h : FO) : FE := fun ρ S => (a ρ S).bind fun x S1 => (l ρ S1).bind fun lo S2 => (h ρ S2).bind fun hi S3 => zV x lo hi S3
theorem f_slB {p2 : Pos} {lo hi : Option Expr} {ml mh : FO} (ha : PE X a (cL X.K W ma)) (hl : PO X lo (rdO X.K W ml)) (hh : PO X hi (rdO X.K W mh)) : PE X (.Subscript a (.Slice lo hi none p2) pos) (cL X.K W (OG ma ml mh)) := cG (pe_slice sl_C ha hl hh) fun σ H Q h =>
 bT (k := fun x ρ S1 => (ml ρ S1).bind fun lo S2 => (mh ρ S2).bind fun hi S3 => zV x lo hi S3) h fun B φ S ρ d v H1 I E r f => gF I E f fun φ1 S1 d1 v1 H2 I1 X1 E1 r1 f1 => gF I1 E1 f1 fun φ2 S2 d2 v2 H3 I2 X2 E2 r2 f2 => by
  cases r1;cases r2
  replace r := (r.ext X1 I).ext X2 I1
  unfold zV at f2;split at f2
  ·rename_i xs
   obtain ⟨a, vs, rfl, h1, l1⟩ := r;refine oC ⟨vs, h1, fun hw => ?_, fun hw p hp => ?_⟩
   ·rw [l1.len] at hw
    have e := G3 (xs := xs) hw;rw [e] at f2;exact Fin.now f2 I2 ⟨a, vs, rfl, h1, l1⟩
   ·exact f2 φ2 _ _ (I2.new hp) (Ext.new I2 hp) ⟨p, _, rfl, .inl (.inl upd_same), l1.cut.kp ((Ext.new I2 hp).kp I2) fun _ _ h => h⟩
  ·rename_i xs
   obtain ⟨a, vs, rfl, h1, l1⟩ := r;refine oC ⟨vs, h1, fun hw => ?_, fun hw p hp => Fin.newT f2 I2 l1.cut hp⟩
   rw [l1.len] at hw;have e := CP (xs := xs) hw;rw [e] at f2;exact Fin.now f2 I2 ⟨a, vs, rfl, h1, l1⟩
  ·exact f2.elim
end
section
variable {X : Cx} {W : WX} {K : aC} {B : Addr -> Prop} {φ φ' : List Addr} {S S' : aL} {H H' : Hp} {σ : L2.St} {Q : VK} {ma me : FE} {mt : FT} {pos : Pos}
def rA (t : Tg) (mt : FT) (me : FE) (ρ : Ev) : List TIt -> aL -> Res (List Vl)
 | [], S => .ok [] S
 | j :: r, S => match mR t (OB j) ρ with
  | none => .stuck
  | some ρ1 => match mt ρ1 S with
   | .ok b S1 => if b = true then (match me ρ1 S1 with
     | .ok e S2 => (match rA t mt me ρ r S2 with
      | .ok es S3 => .ok (e :: es) S3
      | _ => .stuck)
     | _ => .stuck) else rA t mt me ρ r S1
   | _ => .stuck
def EJ (w : Bool) (t : Tg) (mt : FT) (me : FE) (vs : List Nat) (ρ : Ev) (x : Vl) (S1 : aL) : Res Vl := match F7 x with
 | some xs => if xs.length <= 1000 then (match rA t mt me (wipeE ρ vs) xs S1 with
  | .ok es S2 => Pe w es S2
  | _ => .stuck) else .stuck
 | none => .stuck
def Lr (w : Bool) (a : FE) (t : Tg) (mt : FT) (me : FE) (vs : List Nat) : FE := fun ρ S => (a ρ S).bind (EJ w t mt me vs ρ)
theorem LO {w : Bool} {t : Tg} {vs : List Nat} (ht : ∀ i ∈ LH t, i ∈ vs) (h : cL K W (Lr w ma t mt me vs) σ H Q) : tLc (Od K (cL K W ma)) (GL K t) (tO K wNo mt) (cL K wNo me) vs σ H Q := by
 refine bT (k := fun x ρ S1 => EJ w t mt me vs ρ x S1) h fun B φ0 S0 ρ d v H0 I0 E0 r f0 => ?_
 unfold EJ at f0;split at f0
 case h_2 => exact f0.elim
 rename_i xs qx;split at f0
 case isFalse => exact f0.elim
 rename_i hsz;obtain ⟨a, vs0, rfl, ha0, l0⟩ := LJ qx r;have hl := l0.len;cases q0 : rA t mt me (wipeE ρ vs) xs S0 with
 | stuck => rw [q0] at f0; exact f0.elim
 | err e S' => rw [q0] at f0; exact f0.elim
 | ok es0 Sz =>
 rw [q0] at f0;refine oC ⟨⟨vs0, ha0⟩, ?_⟩
 intro A hA;have nB : ¬ B A := fun q => by obtain ⟨u, e⟩ := I0.btr A q; rw [hA] at e; cases e
 have IA : GInv K (hC B A) φ0 S0 (upd H0 A (.lst [])) := I0.plus hA;have z : sizeLine = 16777216 := rfl;refine ⟨fun i k H' => i <= xs.length /\ k = xs.length + 1 - i /\ ∃ φ1 S1 us acc rest, GInv K (hC B A) φ1 S1 H' /\ Ext φ0 S0 H0 φ1 S1 H' /\ RepE K (hC B A) φ1 S1 H' (wipeE ρ vs) (wipe σ vs) /\ H' A = some (.lst us) /\ us.length <= i /\ RepVs K (hC B A) φ1 S1 H' acc us /\ rA t mt me (wipeE ρ vs) (xs.drop i) S1 = .ok rest Sz /\ acc ++ rest = es0,
  ⟨xs.length + 1, nI _, rfl, φ0, S0, [], [], es0, IA, Ext.new I0 hA, (E0.wipes vs).plus I0 hA, upd_same, bH _, rfl, q0, rfl⟩, ?_⟩
 rintro i k H' ⟨hi, hk, φ1, S1, us, acc, rs, I1, X1, E1, hA1, hul, l1, g1, ea⟩
 have h2 : SqT K H' a vs0 := SqT.kp (X1.kp I0).tup ha0;have kp : Kp (iW B φ0 S0) H0 (iW (hC B A) φ1 S1) H' := ⟨fun b o h nb => by
  obtain ⟨h1, h2⟩ := (X1.kp I0).old b o h nb;refine ⟨h1, fun q => ?_⟩
  rcases q with (q | q) | q
  ·exact h2 (.inl q)
  ·subst q; rw [hA] at h; cases h
  ·exact h2 (.inr q), (X1.kp I0).tup⟩
 have lx : RepIs K (iW (hC B A) φ1 S1) φ1 H' xs vs0 := l0.kp kp X1.ids
 by_cases he : i = xs.length
 ·rw [he, rL, rA] at g1
  cases g1;rw [hG] at ea;subst ea;exact .inl ⟨⟨vs0, h2, by omega⟩, Fin.doneW f0 I1 X1 hA nB hA1 l1⟩
 ·have hlt : i < xs.length := by omega
  have hiv : i < vs0.length := by omega
  rw [dB hlt, rA] at g1;refine .inr ⟨⟨vs0, vs0[i], h2, by simp [hiv]⟩, fun H2 => i + 1 <= xs.length /\ ∃ φ1 S1 us acc rest, GInv K (hC B A) φ1 S1 H2 /\ Ext φ0 S0 H0 φ1 S1 H2 /\ RepE K (hC B A) φ1 S1 H2 (wipeE ρ vs) (wipe σ vs) /\ H2 A = some (.lst us) /\ us.length <= i + 1 /\ RepVs K (hC B A) φ1 S1 H2 acc us /\ rA t mt me (wipeE ρ vs) (xs.drop (i + 1)) S1 = .ok rest Sz /\ acc ++ rest = es0, fun H2 h2 => ⟨xs.length + 1 - (i + 1), by omega, h2.1, rfl, h2.2⟩, fun x H2 y => ?_⟩
  obtain ⟨rfl, y⟩ := y;obtain ⟨v', h3, r2'⟩ := lx.get (aZ hlt);rw [y vs0 h2] at h3;cases h3;have r2 := JL r2';split at g1
  case h_1 => cases g1
  rename_i ρ2 q2;refine xG E1 (d := OB xs[i]) r2 q2 fun ws E3 => ⟨by rw [xF ht, xE], hC B A, φ1, S1, ρ2, I1, E3, ?_⟩
  split at g1
  case h_2 => cases g1
  rename_i b S3 q3;rw [q3];intro φ3 b' H3 I3 X3 rb;have rb : b' = b := rb;subst rb;have hA3 := (X3.old A _ hA1 fun q => I1.blk A q (.inr rfl)).1
  have Xa := X1.trans X3;cases b' with
  | false => exact ⟨hlt, φ3, S3, us, acc, rs, I3, Xa, E1.ext X3 I1, hA3, by omega, l1.ext X3 I1, g1, ea⟩
  | true =>
   rw [if_pos rfl];rw [if_pos rfl] at g1;refine ⟨hC B A, φ3, S3, ρ2, I3, E3.ext X3 I1, ?_⟩
   split at g1
   case h_2 => cases g1
   rename_i e S4 q4;rw [q4];intro φ4 v4 H4 I4 X4 r4;have hA4 := (X4.old A _ hA3 fun q => I3.blk A q (.inr rfl)).1
   split at g1
   case h_2 => cases g1
   rename_i es S5 q5;cases g1;have l4 : RepVs K (hC B A) φ4 S4 H4 (acc ++ [e]) (us ++ [v4]) := ((l1.ext X3 I1).ext X4 I3).snocV r4;refine ⟨us, hA4, by omega, hlt, φ4, S4, us ++ [v4], acc ++ [e], es, I4.plusPut hA4, ?_, ((E1.ext X3 I1).ext X4 I3).plusPut hA4, upd_same, by simp; omega, cW (RepV.plusPut hA4) l4, q5, by rw [<- ea]; simp⟩
   exact ⟨fun b o h nb => by
    obtain ⟨h1, h2⟩ := (Xa.trans X4).old b o h nb;exact ⟨by rw [upd_ne (fun e => by subst e; rw [hA] at h; cases h)]; exact h1, h2⟩, (Xa.trans X4).ids⟩
theorem f_lcJ (w : Bool) {t : Tg} {elt tg iter : Expr} {ifs : List Expr} {scope : Scope} {own : List (Str × Nat)} (hc : X.calm = true) (hN : X.N.Nodup) (hi : PE X iter (cL X.K W ma)) (ok : BlkOk X.N X.env.scope scope own)
  (hg : ∀ (s : Shared) (H : Hp) (C : Addr) (cl : List (Str × Addr)) (fp : List Addr), PG (X.blk s H scope (compEnvC scope cl C X.env) fp) tg (GL X.K t)) (ht : ∀ (s : Shared) (H : Hp) (C : Addr) (cl : List (Str × Addr)) (fp : List Addr), PTs (X.blk s H scope (compEnvC scope cl C X.env) fp) ifs (tO X.K wNo mt))
  (he : ∀ (s : Shared) (H : Hp) (C : Addr) (cl : List (Str × Addr)) (fp : List Addr), PE (X.blk s H scope (compEnvC scope cl C X.env) fp) elt (cL X.K wNo me)) (hs : ∀ x, foldedSetIterable iter X.env x = pure x := by intro _; rfl) (hv : ∀ i ∈ LH t, i ∈ own.map (·.2) := by decide) :
  PE X (.ListComp elt [⟨tg, iter, ifs, 0⟩] scope pos) (cL X.K W (Lr w ma t mt me (own.map (·.2)))) := cG (pe_lc hc hN (FQ hi) ok hg ht he hs) fun σ H Q h => LO hv h
end
section
variable {X : Cx} {W : WX} {e : Expr} {es : List Expr} {pos p : Pos} {x : Str} {mas : FA} {ps : List Str} {md : FD} {j k : Nat} {S : aL} {ρ : Ev}
variable {a : FE} {t : Tg} {mt : FT} {me : FE} {vs : List Nat} {w : Bool} {l h : FO} {x : Vl} {lo hi : Option Int}
theorem Gv : Lr w a t mt me vs ρ S = (a ρ S).bind (EJ w t mt me vs ρ) := rfl
def Jm (x : Vl) (lo hi : Option Int) (S : aL) : Res Vl := zV x lo hi S
def Jl (h : FO) (ρ : Ev) (x : Vl) (lo : Option Int) (S2 : aL) : Res Vl := (h ρ S2).bind (Jm x lo)
def NV (l h : FO) (ρ : Ev) (x : Vl) (S1 : aL) : Res Vl := (l ρ S1).bind (Jl h ρ x)
theorem DI : OG a l h ρ S = (a ρ S).bind (NV l h ρ) := rfl
theorem A7 : NV l h ρ x S = (l ρ S).bind (Jl h ρ x) := rfl
theorem A6 : Jl h ρ x lo S = (h ρ S).bind (Jm x lo) := rfl
theorem A8 : Jm x lo hi S = zV x lo hi S := rfl
end
def cV (C : Str) (T : String) (x : Vl) (S : aL) : Res Vl := match x with
 | .dat (.ins C' _ _) => if C' = C then .ok (.dat (.bl false)) S else .stuck
 | x => fIsi T x S
def gY (C : Str) (T U : String) (x : Vl) (S : aL) : Res Vl := match x with
 | .dat (.ins C' _ _) => if C' = C then .ok (.dat (.bl false)) S else .stuck
 | x => fIsi2 T U x S
abbrev LB (K : aC) (C : Str) (T : String) : Prop := eJ K (.ref (He.ga K C)) (.type T) = some false
def Jx (K : aC) (C : Str) (x : V) (H : Hp) : Prop := ∃ (a dx : Addr) (fs : List (Str × V)), x = .ref a /\ H a = some (.ins (He.ga K C) dx fs)
def Po (K : aC) (C : Str) (T : String) : List V -> Hp -> VK -> Prop := fun xs H Q => (∃ x, xs = [x, .ty T] /\ Jx K C x H /\ Q (.bl false) H) \/ Np K T xs H Q
def N4 (K : aC) (C : Str) (T U : String) : List V -> Hp -> VK -> Prop := fun xs H Q => (∃ x tp, xs = [x, .ref tp] /\ H tp = some (.tup [.ty T, .ty U]) /\ Jx K C x H /\ Q (.bl false) H) \/ G9 K T U xs H Q
section
variable {X : Cx} {W : WX} {a : Expr} {pos p q : Pos} {y : Str} {ma : FE} {C : Str}
theorem IX {T : String} (I : IsF X.K C) (kf : LB X.K C T) (hT : T ∈ targets) : CallR X (.builtin "isinstance") (Po X.K C T) := by
 intro pins s σ H xs us Q J r h;rcases h with ⟨x, rfl, ⟨a, dx, fs, rfl, ha⟩, q⟩ | h
 ·exact call_isi pins s σ H _ us Q J r ⟨.ref a, .ty T, .ref (He.ga X.K C), .type T, false, rfl, .ty _, .base (.ins ha I.cl I.ha I.hn I.htk I.hm), kf, q⟩
 ·exact CS hT pins s σ H _ us Q J r h
theorem G8 {T U : String} (I : IsF X.K C) (kf : LB X.K C T) (kg : LB X.K C U) (hT : T ∈ targets) (hU : U ∈ targets) : CallR X (.builtin "isinstance") (N4 X.K C T U) := by
 intro pins s σ H xs us Q J r h;rcases h with ⟨x, tp, rfl, ht, ⟨a, dx, fs, rfl, ha⟩, q⟩ | h
 ·exact call_isiT pins s σ H _ us Q J r ⟨.ref a, tp, _, .ref (He.ga X.K C), [.type T, .type U], false, rfl, ht, .cons (.ty T) (.cons (.ty U) .nil), .base (.ins ha I.cl I.ha I.hn I.htk I.hm), by
   simp only [PySem.W.kitAny, show eJ X.K (.ref (He.ga X.K C)) (.type T) = some false from kf, show eJ X.K (.ref (He.ga X.K C)) (.type U) = some false from kg], q⟩
 ·exact CT hT hU pins s σ H _ us Q J r h
theorem Gp {K : aC} {B : Addr -> Prop} {φ : List Addr} {S : aL} {H : Hp} {ns : List Str} {ds : List PH.D} {v : V} (r : RepV K B φ S H (.dat (.ins C ns ds)) v) : Jx K C v H := by
 obtain ⟨a, dx, vs, e, _, h, _⟩ := r;exact ⟨a, dx, _, e, h⟩
theorem kM {T : String} (I : IsF X.K C) (kf : LB X.K C T) (hm : X.mg "isinstance" = none) (hmT : X.mg y = none) (ha : PE X a (cL X.K W ma)) (hT : T ∈ targets := by decide) (hv : bootBuiltins y = some (.type T) := by decide +kernel)
  (hg : Gl X "isinstance" := by rfl) (hgT : Gl X y := by rfl) (hn : y ≠ "__name__" := by decide) (hd : (y == ("__debug__" : Str)) = false := by decide) (hs : starEach [a, .Name y q] X.env = (false, eval a X.env) :: starEach [.Name y q] X.env := by rfl) :
  PE X (.Call (.Name "isinstance" p) [a, .Name y q] [] pos) (cL X.K W (m1 (cV C T) ma)) :=
 cG (pe_callB (IX I kf hT) hg hm boot_isinstance (pa_cons ha (pa_cons (pe_bltn (v := .ty T) hgT hmT hv rfl hn hd) pa_nil) hs) (he := hs)) fun σ H Q h => bT (k := fun x _ S => cV C T x S) h fun B φ S ρ d v H1 J E r f => by
  unfold cV at f;split at f
  ·split at f
   ·rename_i e
    subst e;exact tT ⟨v, rfl, Gp r, Fin.now f J rfl⟩
   ·exact f.elim
  ·refine oC ?_
   show if T = T then IZ X.K T v H1 Q else False
   rw [if_pos rfl];exact NI hT J r f
theorem HB {q1 q2 tpos : Pos} {j : Nat} {T U : String} {z : Str} (I : IsF X.K C) (kf : LB X.K C T) (kg : LB X.K C U) (hm : X.mg "isinstance" = none) (hmT : X.mg y = none) (hmU : X.mg z = none) (ha : PE X a (cL X.K W ma)) (hT : T ∈ targets := by decide) (hU : U ∈ targets := by decide)
  (hv : bootBuiltins y = some (.type T) := by decide +kernel) (hw : bootBuiltins z = some (.type U) := by decide +kernel) (hg : Gl X "isinstance" := by rfl) (hgT : Gl X y := by rfl) (hgU : Gl X z := by rfl) (hn : y ≠ "__name__" := by decide) (hd : (y == ("__debug__" : Str)) = false := by decide) (hn2 : z ≠ "__name__" := by decide) (hd2 : (z == ("__debug__" : Str)) = false := by decide)
  (hs : starEach [a, .Tuple [.Name y q1, .Name z q2] j tpos] X.env = (false, eval a X.env) :: starEach [.Tuple [.Name y q1, .Name z q2] j tpos] X.env := by rfl) :
  PE X (.Call (.Name "isinstance" p) [a, .Tuple [.Name y q1, .Name z q2] j tpos] [] pos) (cL X.K W (m1 (gY C T U) ma)) :=
 cG (pe_callB (G8 I kf kg hT hU) hg hm boot_isinstance (pa_cons ha (pa_cons (pe_tup (pa_cons (pe_bltn (v := .ty T) hgT hmT hv rfl hn hd) (pa_cons (pe_bltn (v := .ty U) hgU hmU hw rfl hn2 hd2) pa_nil))) pa_nil) hs) (he := hs)) fun σ H Q h => bT (k := fun x _ S => gY C T U x S) h fun B φ S ρ d v H1 J E r f => by
  show _ /\ _
  refine ⟨(by show 2 <= sizeLine; decide), fun tp htp => ?_⟩
  unfold gY at f;split at f
  ·split at f
   ·rename_i e
    subst e;have X1 := Ext.new (o := .tup [.ty T, .ty U]) J htp;have I1 := J.new (o := .tup [.ty T, .ty U]) htp;exact tT ⟨v, tp, rfl, upd_same, Gp (r.ext X1 J), f φ _ _ I1 X1 rfl⟩
   ·exact f.elim
  ·exact oC ⟨upd_same, JJ hT hU J r f htp rfl⟩
end
def nD : FS :=
 (bG (jM (m1 (fIsi "int") (aD 0)) (EE (m1 (fIsi "bool") (aD 0)))))
def eN : FD := run 1 1 nD
def wN : FS :=
 (bG (jM (aR eN (aB (aD 0) aJ)) (mP HE HE (mC (.int 0)) (aD 0) (mC (.int 1)))))
def vP : FD := run 1 1 wN
def kN : FE :=
 (jM (aR eN (aB (aD 4) aJ)) (mP HE HE (aD 2) (aD 4) (aD 3)))
def iM : FS :=
 (aP (bS (rN (jF (dE (m1 (fIsi "tuple") (aD 0)))) (mB (aV eZ (m1 dY (aD 0)) (mC (.int 0))))) (bG (mC (.bl false))) bB)
 (aP (bS (rN (jF (dE (m1 (fIsi "str") (aV cM (aD 0) (mC (.int 0)))))) (mB (m1 (fM true) (aV cM (aD 0) (mC (.int 0)))))) (bG (mC (.bl false))) bB)
 (aP (bK (m1 xZ (aV cM (aD 0) (mC (.int 0)))) (.tp [1, 2, 3]))
 (aP (bS (mB (aV BU (m1 dY (aD 0)) (aV (dJ false) (aD 1) (mC (.int 1))))) (bG (mC (.bl false))) bB)
 (bG (m1 wC (A4 false (gE (Jd false (aD 0) (qZ (mC (.int 1))) zU)) (.nm 4) hW kN [4])))))))
def iD : FD := run 5 1 iM
def pA : FS :=
 (aP (bK (aV cM (aD 0) (mC (.int 0))) (.nm 1))
 (aP (bS (rN (mB (aV eZ (aD 1) (mC (.str "keep")))) (mB (aV eZ (aD 1) (mC (.str "again"))))) (bG (cN false (aB (aV cM (aD 0) (mC (.int 1))) aJ))) bB)
 (aP (bS (mB (aV eZ (aD 1) (mC (.str "either")))) (bG (cN false (aB (aV cM (aD 0) (mC (.int 1))) (aB (aV cM (aD 0) (mC (.int 2))) aJ)))) bB)
 (aP (bS (mB (aV eZ (aD 1) (mC (.str "call")))) (bG (aV cM (aD 0) (mC (.int 3)))) bB)
 (bG (cN false aJ))))))
def fG : FD := run 2 1 pA
def lV : FS :=
 (aP (bK (aV cM (aD 0) (mC (.int 0))) (.nm 2))
 (aP (bS (rN (mB (aV eZ (aD 2) (mC (.str "keep")))) (mB (aV eZ (aD 2) (mC (.str "again"))))) (bG (cH (aB (aD 2) (aB (aV cM (aD 1) (mC (.int 0))) aJ)))) bB)
 (aP (bS (mB (aV eZ (aD 2) (mC (.str "either")))) (bG (cH (aB (aD 2) (aB (aV cM (aD 1) (mC (.int 0))) (aB (aV cM (aD 1) (mC (.int 1))) aJ))))) bB)
 (aP (bS (mB (aV eZ (aD 2) (mC (.str "call")))) (bG (cH (aB (aD 2) (aB (aV cM (aD 0) (mC (.int 1))) (aB (aV cM (aD 0) (mC (.int 2))) (aB (aD 1) aJ)))))) bB)
 (bG (aD 0))))))
def lS : FD := run 3 2 lV
def gN (f_copied_block : FD) : FS :=
 (bG (aR lS (aB (aD 0) (aB (A4 false (gE (aR fG (aB (aD 0) aJ))) (.nm 1) hW (aR (f_copied_block) (aB (aD 1) aJ)) [1]) aJ))))
def kR (f_copied_statement : FD) : FS :=
 (bG (A4 false (gE (aD 0)) (.nm 1) hW (aR (f_copied_statement) (aB (aD 1) aJ)) [1]))
def jG : Nat -> FD × FD
 | 0 => (jS, jS)
 | n + 1 => let r := jG n
  (run 2 1 (gN r.2), run 2 1 (kR r.1))
def dZ (n : Nat) : FD := (jG n).1
def eG (n : Nat) : FD := (jG n).2
def lW : FS :=
 (aP (bS (dE (aR iD (aB (aD 0) aJ))) (bG (mC (.bl true))) bB)
 (aP (bS (rN (jF (dE (m1 (fIsi "tuple") (aD 0)))) (rN (mB (aV BV (m1 dY (aD 0)) (mC (.int 2)))) (jF (dE (m1 (fIsi "str") (aV cM (aD 0) (mC (.int 0)))))))) (bG (mC (.bl false))) bB)
 (aP (bK (aV cM (aD 0) (mC (.int 0))) (.nm 3))
 (aP (bS (mB (aV eZ (aD 3) (mC (.str "end")))) (bG (jM (aV eZ (m1 dY (aD 0)) (mC (.int 2))) (aR vP (aB (aV cM (aD 0) (mC (.int 1))) aJ)))) bB)
 (aP (bS (mB (aV eZ (aD 1) (mC (.int 3)))) (bG (mC (.bl false))) bB)
 (aP (bS (rN (mB (aV eZ (aD 3) (mC (.str "keep")))) (mB (aV eZ (aD 3) (mC (.str "again"))))) (bG (jM (aV eZ (m1 dY (aD 0)) (mC (.int 2))) (m1 (fIsi "list") (aV cM (aD 0) (mC (.int 1)))))) bB)
 (aP (bS (mB (aV eZ (aD 3) (mC (.str "either")))) (bG (jM (aV eZ (m1 dY (aD 0)) (mC (.int 3))) (jM (m1 (fIsi "list") (aV cM (aD 0) (mC (.int 1)))) (m1 (fIsi "list") (aV cM (aD 0) (mC (.int 2))))))) bB)
 (aP (bS (rN (mB (aV BU (aD 3) (mC (.str "call")))) (mB (aV BU (m1 dY (aD 0)) (mC (.int 4))))) (bG (mC (.bl false))) bB)
 (aP (bS (rN (jF (dE (aR eN (aB (aV cM (aD 0) (mC (.int 1))) aJ)))) (jF (mB (mP HE BV (mC (.int 0)) (aV cM (aD 0) (mC (.int 1))) (aD 2))))) (bG (mC (.bl false))) bB)
 (aP (bS (rN (jF (dE (m1 (fIsi "bool") (aV cM (aD 0) (mC (.int 2)))))) (rN (jF (dE (m1 (fIsi "list") (aV cM (aD 0) (mC (.int 3)))))) (mB (aV BU (m1 dY (aV cM (aD 0) (mC (.int 3)))) (mC (.int 2)))))) (bG (mC (.bl false))) bB)
 (bG (jM (m1 (fIsi "list") (aV cM (aV cM (aD 0) (mC (.int 3))) (mC (.int 0)))) (m1 (fIsi "list") (aV cM (aV cM (aD 0) (mC (.int 3))) (mC (.int 1))))))))))))))))
def iU : FD := run 4 3 lW
def fC (f_first_fault : FD) : FS :=
 (gD [8, 9, 10] (aP (bK (aR (f_first_fault) (aB (aD 9) (aB (aV (dJ false) (aD 1) (mC (.int 1))) (aB (aD 2) (aB (aV (dJ false) (aD 7) (cH (aB (aD 8) aJ))) (aB (aD 4) aJ)))))) (.tp [10, 4]))
 (bS (mB (aV (Bi true) (aD 10) (mC .non))) (bG (cH (aB (aD 10) (aB (aD 4) aJ)))) bB)))
def iY (f_first_fault : FD) : FS :=
 (gD [5, 6, 7, 8, 9, 10] (aP (bK (aV (dJ false) (aD 3) (cH (aB (aD 5) aJ))) (.nm 7))
 (aP (bS (rN (mB (aV eZ (aD 5) (mC (.int 8)))) (rN (mB (aV eZ (aD 4) (mC (.int 12)))) (jF (dE (aR iU (aB (aD 6) (aB (aD 1) (aB (aD 2) aJ)))))))) (bG (cH (aB (aD 7) (aB (aD 4) aJ)))) bB)
 (aP (Je (fun x y => x + y) 4 (mC (.int 1)))
 (lN (vU (aR fG (aB (aD 6) aJ))) (.tp [8, 9]) (fC (f_first_fault)))))))
def lX (f_first_fault : FD) : FS :=
 (aP (lN (vU (aD 0)) (.tp [5, 6]) (iY (f_first_fault)))
 (bG (cH (aB (mC .non) (aB (aD 4) aJ)))))
def cU : Nat -> FD
 | 0 => jS
 | n + 1 => run 11 5 (lX (cU n))
def dO : FS :=
 (gD [2, 3, 4, 5] (aP (bS (jF (dE (m1 (fIsi "list") (aD 3)))) (oP "NoBook" ["path", "procedure"] (aB (aD 2) (aB (cH aJ) aJ))) bB)
 (aP (bK (aR (cU 10) (aB (aD 3) (aB (mC (.int 0)) (aB (m1 dY (aD 1)) (aB (cH aJ) (aB (mC (.int 0)) aJ)))))) (.tp [4, 5]))
 (bS (mB (aV (Bi true) (aD 4) (mC .non))) (oP "NoBook" ["path", "procedure"] (aB (aD 2) (aB (aD 4) aJ))) bB))))
def pE : FS :=
 (aP (bS (rN (jF (dE (m1 (fIsi "list") (aD 1)))) (jF (mB (mP HE HE (mC (.int 1)) (m1 dY (aD 1)) (mC (.int 3)))))) (oP "NoBook" ["path", "procedure"] (aB (m1 sM (mC (.int 1))) (aB (cH aJ) aJ))) bB)
 (aP (lN (vU (aD 1)) (.tp [2, 3]) dO)
 (Gf "Book" "own" (aD 0) (A4 false (gE (aD 1)) (.nm 3) hW (aR (eG 20) (aB (aD 3) aJ)) [3]))))
def jL : FD := run 6 2 pE
def qU : FS :=
 (bG (m1 dY (Fg "Book" "own" (aD 0))))
def lM : FD := run 1 1 qU
def lY : FS :=
 (bG (A4 false (gE (Fg "Book" "own" (aD 0))) (.nm 1) hW (aR (eG 20) (aB (aD 1) aJ)) [1]))
def gV : FD := run 2 1 lY
def wR : FS :=
 (bG (aV (dJ true) (cN false (aB (mC (.int 0)) aJ)) (OI (A4 false (gE (Jd false (aD 0) zU (qZ (mC (.int 63))))) (.nm 1) hW (m1 B0 (aD 1)) [1]) (cN false (aB (mC (.int 0)) aJ)))))
def vR : FD := run 2 1 wR
def wV : FS :=
 (aP (kG (fun x y => x + y) (aD 0) (mC (.int 0)) (mC (.int 1)))
 (aP (bK (aV (dJ false) (mC (.int 1)) (aV tQ (m1 B0 (aV cM (aD 0) (mC (.int 0)))) (aV oB (m1 dY (aD 0)) (mC (.int 1))))) (.nm 2))
 (aP (bK (m1 B0 (aV cM (aD 0) (aD 2))) (.nm 3))
 (aP (bS (mB (aV fGe (aD 3) (aV Mr (mC (.int 10)) (mC (.int 18))))) (aP (yV (aV rC (aD 3) (aD 1)) (aD 0) (aD 2))
 (bG (aV tQ (aD 3) (aD 1)))) bB)
 (aP (bK (aV tQ (aV xX (m1 B0 (aV (dJ false) (aV (dJ false) (aD 3) (aV xX (mC (.int 7919)) (aV cM (aD 0) (mC (.int 0))))) (mC (.int 1)))) (mC (.int 48271))) (mC (.int 2147483647))) (.nm 4))
 (aP (bK (aV tQ (aV xX (aD 4) (aV (dJ false) (aV rC (aD 4) (mC (.int 1009))) (mC (.int 69621)))) (mC (.int 2147483647))) (.nm 4))
 (aP (bK (aV tQ (aV xX (aD 4) (aV (dJ false) (aV rC (aD 4) (mC (.int 2003))) (mC (.int 40692)))) (mC (.int 2147483399))) (.nm 4))
 (bG (aV tQ (aV rC (aD 4) (mC (.int 11))) (aD 1))))))))))
def bE : FD := run 5 2 wV
def qS : FS :=
 (aP (bS (mB (aV eZ (aV cM (aD 0) (mC (.int 0))) (mC (.str "call")))) (bG (m1 (tY false) (aV cM (aD 0) (mC (.int 3))))) bB)
 (bG (A4 false (gE (Jd false (aD 0) (qZ (mC (.int 1))) zU)) (.nm 1) (dE (m1 (fIsi "list") (aD 1))) (aD 1) [1])))
def lL : FD := run 2 1 qS
def wO : FS :=
 (aP (bS (mB (aV eZ (aV cM (aD 0) (mC (.int 0))) (mC (.str "call")))) (bG (aV (dJ false) (Jd false (aD 0) zU (qZ (mC (.int 3)))) (cH (aB (aD 1) aJ)))) bB)
 (aP (bS (mB (aV eZ (m1 dY (aD 1)) (mC (.int 0)))) (bG (aD 0)) bB)
 (bG (aV (dJ false) (cH (aB (aV cM (aD 0) (mC (.int 0))) aJ)) (m1 fTuple (aD 1))))))
def vQ : FD := run 2 2 wO
def uQ (f_L_copy : FD) : FE :=
 (aR vQ (aB (aD 1) (aB (A4 false (gE (aR lL (aB (aD 1) aJ))) (.nm 2) hW (aR (f_L_copy) (aB (aD 2) aJ)) [2]) aJ)))
def wW (f_L_copy : FD) : FS :=
 (bG (A4 false (gE (aD 0)) (.nm 1) hW (uQ (f_L_copy)) [1]))
def pV : Nat -> FD
 | 0 => jS
 | n + 1 => run 3 1 (wW (pV n))
def qR : FS :=
 (bG (A4 false (gE (aD 0)) (.nm 1) hW (aR (pV 10) (aB (aD 1) aJ)) [1]))
def qI : FD := run 2 1 qR
def qN (f_L_same : FD) : FE :=
 (aR (f_L_same) (aB (aV cM (aD 0) (aD 2)) (aB (aV cM (aD 1) (aD 2)) aJ)))
def wQ (f_L_same : FD) : FS :=
 (aP (bS (dE (m1 (fIsi2 "list" "tuple") (aD 0))) (aP (bS (rN (mB (aV BU (m1 (fIsi "list") (aD 0)) (m1 (fIsi "list") (aD 1)))) (mB (aV BU (m1 (fIsi "tuple") (aD 0)) (m1 (fIsi "tuple") (aD 1))))) (bG (mC (.bl false))) bB)
 (bG (jM (aV eZ (m1 dY (aD 0)) (m1 dY (aD 1))) (m1 wC (A4 false (oO (m1 dY (aD 0))) (.nm 2) hW (qN (f_L_same)) [2]))))) bB)
 (aP (bS (rN (dE (m1 (fIsi2 "list" "tuple") (aD 1))) (mB (aV BU (m1 (fIsi "bool") (aD 0)) (m1 (fIsi "bool") (aD 1))))) (bG (mC (.bl false))) bB)
 (bG (jM (aV eZ (m1 (fIsi "int") (aD 0)) (m1 (fIsi "int") (aD 1))) (aV eZ (aD 0) (aD 1))))))
def kE : Nat -> FD
 | 0 => jS
 | n + 1 => run 3 2 (wQ (kE n))
def pC : FS :=
 (aP (bK (cN false (aB (cN false (aB (mC (.int 0)) (aB (mC (.int 0)) (aB (mC (.int 0)) (aB (mC (.int 1)) (aB (mC (.int 1)) aJ)))))) (aB (cN false (aB (mC (.int 0)) (aB (mC (.int 0)) (aB (mC (.int 2)) (aB (mC (.int 3)) (aB (mC (.int 1)) aJ)))))) (aB (cN false (aB (mC (.int 0)) (aB (mC (.int 6)) (aB (mC (.int 7)) (aB (mC (.int 8)) (aB (mC (.int 8)) aJ)))))) (aB (cN false (aB (mC (.int 0)) (aB (mC (.int 4)) (aB (mC (.int 5)) (aB (mC (.int 6)) (aB (mC (.int 7)) aJ)))))) (aB (cN false (aB (mC (.int 0)) (aB (mC (.int 1)) (aB (mC (.int 3)) (aB (mC (.int 6)) (aB (mC (.int 8)) aJ)))))) aJ)))))) (.nm 2))
 (aP (bK (aV (dJ false) (aD 2) (cN false (aB (cN false (aB (mC (.int 0)) (aB (mC (.int 1)) (aB (mC (.int 2)) (aB (mC (.int 3)) (aB (mC (.int 4)) (aB (mC (.int 5)) (aB (mC (.int 6)) (aB (mC (.int 7)) (aB (mC (.int 8)) aJ)))))))))) (aB (cN false (aB (mC (.int 1)) (aB (mC (.int 1)) (aB (mC (.int 2)) (aB (mC (.int 3)) (aB (mC (.int 4)) aJ)))))) (aB (cN false (aB (mC (.int 5)) (aB (mC (.int 6)) (aB (mC (.int 7)) (aB (mC (.int 8)) (aB (mC (.int 8)) aJ)))))) aJ))))) (.nm 2))
 (aP (bK (aV cM (aD 2) (aD 1)) (.nm 3))
 (aP (bK (aV cM (aD 3) (aR bE (aB (aD 0) (aB (m1 dY (aD 3)) aJ)))) (.nm 4))
 (aP (bS (mB (aV eZ (aD 4) (mC (.int 0)))) (aP (bK (aV oB (aR bE (aB (aD 0) (aB (mC (.int 19)) aJ))) (mC (.int 9))) (.nm 5))
 (bG (cH (aB (mC (.str "go")) (aB (aV cM (cN false (aB (aD 5) (aB (mC (.int 2)) (aB (aV oB (aV tQ (m1 B0 (aD 5)) (mC (.int 3))) (mC (.int 1))) (aB (mC (.int 1)) aJ))))) (aR bE (aB (aD 0) (aB (mC (.int 4)) aJ)))) aJ))))) bB)
 (aP (bS (mB (aV eZ (aD 4) (mC (.int 1)))) (bG (cH (aB (mC (.str "turn")) (aB (aV (dJ false) (mC (.int 1)) (aR bE (aB (aD 0) (aB (mC (.int 3)) aJ)))) aJ)))) bB)
 (aP (bS (mB (aV eZ (aD 4) (mC (.int 2)))) (bG (cH (aB (mC (.str "mirror")) aJ))) bB)
 (aP (bS (mB (aV eZ (aD 4) (mC (.int 3)))) (bG (cH (aB (mC (.str "scale")) (aB (aV cM (cH (aB (m1 sM (mC (.int 1))) (aB (m1 sM (mC (.int 1))) (aB (m1 sM (mC (.int 1))) (aB (mC (.int 1)) (aB (mC (.int 1)) (aB (mC (.int 0)) (aB (mC (.int 2)) (aB (m1 sM (mC (.int 3))) aJ))))))))) (aR bE (aB (aD 0) (aB (mC (.int 8)) aJ)))) aJ)))) bB)
 (aP (bS (mB (aV BV (aD 4) (mC (.int 6)))) (bG (cH (aB (aV cM (cH (aB (mC (.str "aim")) (aB (mC (.str "place")) aJ))) (aV oB (aD 4) (mC (.int 4)))) (aB (aV oB (aR bE (aB (aD 0) (aB (mC (.int 19)) aJ))) (mC (.int 9))) (aB (aV oB (aR bE (aB (aD 0) (aB (mC (.int 19)) aJ))) (mC (.int 9))) aJ))))) bB)
 (bG (cH (aB (aV cM (cH (aB (mC (.str "mark")) (aB (mC (.str "return")) (aB (mC (.str "exchange")) aJ)))) (aV oB (aD 4) (mC (.int 6)))) aJ))))))))))))
def hQ : FD := run 6 2 pC
def wU : FS :=
 (aP (bK (aV (dJ false) (mC (.int 1)) (aR bE (aB (aD 0) (aB (mC (.int 3)) aJ)))) (.nm 2))
 (aP (bK (aR bE (aB (aD 0) (aB (mC (.int 4)) aJ))) (.nm 3))
 (aP (bS (mB (aV eZ (aD 1) (mC (.int 6)))) (bK (aV (dJ false) (mC (.int 1)) (aV tQ (aD 3) (mC (.int 2)))) (.nm 3)) bB)
 (aP (bS (mB (aV eZ (aD 1) (mC (.int 7)))) (bK (mC (.int 3)) (.nm 3)) bB)
 (aP (bK (cN false (aB (cN false (aB (cH (aB (mC (.str "go")) (aB (aD 2) aJ))) (aB (cH (aB (mC (.str "go")) (aB (m1 sM (aD 2)) aJ))) aJ))) (aB (cN false (aB (cH (aB (mC (.str "turn")) (aB (aD 2) aJ))) (aB (cH (aB (mC (.str "turn")) (aB (aV oB (mC (.int 4)) (aD 2)) aJ))) aJ))) (aB (cN false (aB (cH (aB (mC (.str "mirror")) aJ)) (aB (cH (aB (mC (.str "mirror")) aJ)) aJ))) aJ)))) (.nm 4))
 (bG (aV cM (aV (dJ false) (aD 4) (cN false (aB (cN false (aB (cH (aB (mC (.str "exchange")) aJ)) (aB (cH (aB (mC (.str "exchange")) aJ)) aJ))) aJ))) (aD 3))))))))
def pU : FD := run 5 2 wU
def jI (f_L_piece : FD) : FS :=
 (gD [7] (bS (mB (aV Eg (aV cM (aD 3) (mC (.int 0))) (mC (.int 0)))) (bK (aV (dJ false) (aD 6) (aR (f_L_piece) (aB (aD 0) (aB (aD 1) (aB (aD 2) (aB (aD 3) (aB (aD 4) (aB (aD 5) aJ)))))))) (.nm 6)) bB))
def tK (f_L_piece : FD) : FS :=
 (aP (bK (cN false aJ) (.nm 6))
 (aP (lN (oO (aR bE (aB (aD 0) (aB (mC (.int 3)) aJ)))) (.nm 7) (jI (f_L_piece)))
 (bG (aD 6))))
def tH (f_L_block : FD) (f_L_piece : FD) : FS :=
 (aP (bK (aR bE (aB (aD 0) (aB (mC (.int 17)) aJ))) (.nm 6))
 (aP (bS (uO (mB (aV Eg (aD 6) (mC (.int 6)))) (uO (mB (aV BV (aD 6) (mC (.int 15)))) (mB (aV Eg (aD 2) (mC (.int 2)))))) (bK (aV tQ (aD 6) (mC (.int 6))) (.nm 6)) bB)
 (aP (bS (uO (mB (aV eZ (aD 6) (mC (.int 6)))) (mB (aV BV (aV cM (aD 3) (mC (.int 0))) (mC (.int 2))))) (bK (mC (.int 0)) (.nm 6)) bB)
 (aP (bS (uO (mB (aV Eg (aD 6) (mC (.int 10)))) (uO (mB (aV BV (aD 6) (mC (.int 15)))) (rN (mB (aV BV (aV cM (aD 4) (mC (.int 0))) (mC (.int 1)))) (mB (aV fGe (aD 5) (aV cM (aD 4) (mC (.int 1)))))))) (bK (mC (.int 0)) (.nm 6)) bB)
 (aP (kG (fun x y => x - y) (aD 3) (mC (.int 0)) (mC (.int 1)))
 (aP (bS (mB (aV BV (aD 6) (mC (.int 6)))) (bG (cN false (aB (aR hQ (aB (aD 0) (aB (aD 1) aJ))) aJ))) bB)
 (aP (bS (mB (aV eZ (aD 6) (mC (.int 6)))) (aP (kG (fun x y => x - y) (aD 3) (mC (.int 0)) (mC (.int 1)))
 (aP (bK (aR pU (aB (aD 0) (aB (aD 1) aJ))) (.nm 7))
 (aP (bK (cN false aJ) (.nm 8))
 (aP (bS (mB (aV Eg (aV cM (aD 3) (mC (.int 0))) (mC (.int 0)))) (bK (aR (f_L_piece) (aB (aD 0) (aB (aD 1) (aB (aD 2) (aB (aD 3) (aB (aD 4) (aB (aD 5) aJ))))))) (.nm 8)) bB)
 (bG (aV (dJ false) (aV (dJ false) (Jd false (aD 7) zU (qZ (mC (.int 1)))) (aD 8)) (Jd false (aD 7) (qZ (mC (.int 1))) zU))))))) bB)
 (aP (bS (mB (aV BV (aD 6) (mC (.int 9)))) (aP (bK (aR (f_L_block) (aB (aD 0) (aB (aD 1) (aB (aV (dJ false) (aD 2) (mC (.int 1))) (aB (aD 3) (aB (aD 4) (aB (mC (.int 0)) aJ))))))) (.nm 9))
 (bG (cN false (aB (cH (aB (mC (.str "either")) (aB (aD 9) (aB (aR (f_L_block) (aB (aD 0) (aB (aD 1) (aB (aV (dJ false) (aD 2) (mC (.int 1))) (aB (aD 3) (aB (aD 4) (aB (aD 5) aJ))))))) aJ)))) aJ)))) bB)
 (aP (bS (mB (aV eZ (aD 6) (mC (.int 9)))) (bG (cN false (aB (cH (aB (mC (.str "again")) (aB (aR (f_L_block) (aB (aD 0) (aB (aD 1) (aB (aV (dJ false) (aD 2) (mC (.int 1))) (aB (aD 3) (aB (aD 4) (aB (mC (.int 0)) aJ))))))) aJ))) aJ))) bB)
 (aP (bS (mB (aV eZ (aD 6) (mC (.int 10)))) (bG (cN false (aB (cH (aB (mC (.str "keep")) (aB (aR (f_L_block) (aB (aD 0) (aB (aD 1) (aB (aV (dJ false) (aD 2) (mC (.int 1))) (aB (aD 3) (aB (aD 4) (aB (aD 5) aJ))))))) aJ))) aJ))) bB)
 (aP (bS (mB (aV Eg (aD 6) (mC (.int 14)))) (bG (cN false (aB (cH (aB (mC (.str "end")) (aB (aR bE (aB (aD 0) (aB (mC (.int 2)) aJ))) aJ))) aJ))) bB)
 (aP (kG (fun x y => x - y) (aD 4) (mC (.int 0)) (mC (.int 1)))
 (aP (bK (aV (dJ false) (aD 5) (aR bE (aB (aD 0) (aB (aV oB (aV cM (aD 4) (mC (.int 1))) (aD 5)) aJ)))) (.nm 10))
 (aP (bK (aV eZ (aR bE (aB (aD 0) (aB (mC (.int 3)) aJ))) (mC (.int 0))) (.nm 11))
 (aP (bK (aR (f_L_block) (aB (aD 0) (aB (aD 1) (aB (aV (dJ false) (aD 2) (mC (.int 1))) (aB (aD 3) (aB (aD 4) (aB (aD 5) aJ))))))) (.nm 9))
 (bG (cN false (aB (cH (aB (mC (.str "call")) (aB (aD 10) (aB (aD 11) (aB (cN false (aB (aD 9) (aB (aR (f_L_block) (aB (aD 0) (aB (aD 1) (aB (aV (dJ false) (aD 2) (mC (.int 1))) (aB (aD 3) (aB (aD 4) (aB (aD 5) aJ))))))) aJ))) aJ))))) aJ))))))))))))))))))
def xT : Nat -> FD × FD
 | 0 => (jS, jS)
 | n + 1 => let r := xT n
  (run 8 6 (tK r.2), run 12 6 (tH r.1 r.2))
def tF (n : Nat) : FD := (xT n).1
def jK (n : Nat) : FD := (xT n).2
def qT : FS :=
 (aP (kG (fun x y => x - y) (aD 2) (mC (.int 0)) (mC (.int 4)))
 (aP (kG (fun x y => x - y) (aD 3) (mC (.int 0)) (mC (.int 1)))
 (aP (bK (aR bE (aB (aD 0) (aB (aV cM (aD 3) (mC (.int 1))) aJ))) (.nm 4))
 (aP (bK (aV eZ (aR bE (aB (aD 0) (aB (mC (.int 3)) aJ))) (mC (.int 0))) (.nm 5))
 (aP (bK (aR bE (aB (aD 0) (aB (mC (.int 2)) aJ))) (.nm 6))
 (aP (bK (cN false (aB (aR hQ (aB (aD 0) (aB (aD 1) aJ))) (aB (aR hQ (aB (aD 0) (aB (aD 1) aJ))) aJ))) (.nm 7))
 (aP (bS (mB (aV eZ (aR bE (aB (aD 0) (aB (mC (.int 2)) aJ))) (mC (.int 0)))) (bK (aR pU (aB (aD 0) (aB (aD 1) aJ))) (.nm 7)) bB)
 (aP (bK (cN false (aB (cN false aJ) (aB (cN false (aB (aV cM (aD 7) (mC (.int 0))) (aB (cH (aB (mC (.str "call")) (aB (aD 4) (aB (aD 5) (aB (cN false (aB (cN false aJ) (aB (cN false aJ) aJ))) aJ))))) (aB (aV cM (aD 7) (mC (.int 1))) aJ)))) aJ))) (.nm 8))
 (bG (cN false (aB (cH (aB (mC (.str "either")) (aB (aV cM (aD 8) (aD 6)) (aB (aV cM (aD 8) (aV oB (mC (.int 1)) (aD 6))) aJ)))) aJ)))))))))))
def qJ : FD := run 9 4 qT
def jE : FS :=
 (gD [7] (bS (mB (aV Eg (aV cM (aD 2) (mC (.int 0))) (mC (.int 0)))) (bK (aV (dJ false) (aD 6) (aR (jK 30) (aB (aD 0) (aB (aD 1) (aB (mC (.int 0)) (aB (aD 2) (aB (aD 3) (aB (aD 4) aJ)))))))) (.nm 6)) bB))
def wY : FS :=
 (aP (bK (aR bE (aB (aD 0) (aB (mC (.int 6)) aJ))) (.nm 5))
 (aP (bK (cN false aJ) (.nm 6))
 (aP (bS (uO (mB (aV eZ (aR bE (aB (aD 0) (aB (mC (.int 2)) aJ))) (mC (.int 0)))) (uO (mB (aV Eg (aV cM (aD 2) (mC (.int 0))) (mC (.int 3)))) (mB (aV Eg (aV cM (aD 3) (mC (.int 0))) (mC (.int 0)))))) (bK (aR qJ (aB (aD 0) (aB (aD 1) (aB (aD 2) (aB (aD 3) aJ))))) (.nm 6)) bB)
 (aP (lN (oO (aV (dJ false) (mC (.int 1)) (aR bE (aB (aD 0) (aB (mC (.int 4)) aJ))))) (.nm 7) jE)
 (aP (bK (cN false (aB (cN false (aB (cH (aB (mC (.str "either")) (aB (cN false (aB (cH (aB (mC (.str "end")) (aB (mC (.int 1)) aJ))) aJ)) (aB (cN false aJ) aJ)))) aJ)) (aB (cN false (aB (cH (aB (mC (.str "end")) (aB (mC (.int 1)) aJ))) aJ)) aJ))) (.nm 8))
 (aP (bS (rN (mB (aV eZ (aD 5) (mC (.int 1)))) (mB (aV eZ (aD 5) (mC (.int 3))))) (bG (aV (dJ false) (aD 6) (aV cM (aD 8) (aV rC (aD 5) (mC (.int 2)))))) bB)
 (aP (bS (mB (aV eZ (aD 5) (mC (.int 2)))) (bG (aV (dJ false) (aV cM (aD 8) (mC (.int 0))) (aD 6))) bB)
 (bG (aD 6)))))))))
def sI : FD := run 9 5 wY
def lF : FS :=
 (gD [8, 9, 10] (aP (bK (cN true (aB (aV oB (aV oB (aD 2) (mC (.int 2))) (m1 B0 (aV Eg (aD 5) (mC (.int 2))))) aJ)) (.nm 9))
 (aP (bK (aV (dJ false) (aD 8) (mC (.int 1))) (.nm 10))
 (aP (bS (dE (aD 4)) (bK (mC (.int 0)) (.nm 10)) bB)
 (An (I6 (aD 7) (aR sI (aB (aD 0) (aB (aD 3) (aB (aD 9) (aB (aD 6) (aB (aD 10) aJ))))))))))))
def wX : FS :=
 (aP (bK (aR bE (aB (aD 0) (aB (mC (.int 6)) aJ))) (.nm 3))
 (aP (bK (aV eZ (aR bE (aB (aD 0) (aB (mC (.int 8)) aJ))) (mC (.int 0))) (.nm 4))
 (aP (bK (aV (dJ false) (mC (.int 1)) (aR bE (aB (aD 0) (aB (aD 1) aJ)))) (.nm 5))
 (aP (bK (cN true (aB (mC (.int 4)) (aB (aD 5) aJ))) (.nm 6))
 (aP (bK (cN true aJ) (.nm 7))
 (aP (lN (oO (aD 5)) (.nm 8) lF)
 (bG (EF (aD 7)))))))))
def vS : FD := Ct 11 3 wX
def F5 (f_placed : FD) : FS :=
 (gD [6, 7] (bK (aV (dJ true) (aD 2) (aR (f_placed) (aB (aD 7) (aB (aV (dJ false) (aD 5) (cH (aB (aD 6) aJ))) aJ)))) (.nm 2)))
def F4 (f_placed : FD) : FS :=
 (gD [3, 4, 5, 6, 7] (aP (bK (aV (dJ false) (aD 1) (cH (aB (aD 3) aJ))) (.nm 5))
 (aP (An (I6 (aD 2) (cH (aB (aD 5) (aB (aD 4) aJ)))))
 (lN (vU (aR fG (aB (aD 4) aJ))) (.tp [6, 7]) (F5 (f_placed))))))
def Kv (f_placed : FD) : FS :=
 (aP (bK (cN true aJ) (.nm 2))
 (aP (lN (vU (aD 0)) (.tp [3, 4]) (F4 (f_placed)))
 (bG (EF (aD 2)))))
def Jc : Nat -> FD
 | 0 => jS
 | n + 1 => Ct 8 2 (Kv (Jc n))
def eS : FS :=
 (gD [4, 5] (aP (bS (rN (jF (dE (aR eN (aB (aD 5) aJ)))) (jF (mB (mP HE BV (mC (.int 0)) (aD 5) (m1 dY (aD 3)))))) (bG (mC .non)) bB)
 (bS (mB (aV eZ (aV tQ (aD 4) (mC (.int 2))) (mC (.int 0)))) (aP (bK (aV cM (aD 3) (aD 5)) (.nm 2))
 (bK (aR fG (aB (aD 2) aJ)) (.nm 3))) (bK (aV cM (aD 3) (aD 5)) (.nm 3)))))
def kP : FS :=
 (aP (bS (rN (jF (dE (m1 (fIsi "tuple") (aD 1)))) (mB (aV eZ (aV tQ (m1 dY (aD 1)) (mC (.int 2))) (mC (.int 0))))) (bG (mC .non)) bB)
 (aP (bK (mC .non) (.nm 2))
 (aP (bK (aD 0) (.nm 3))
 (aP (lN (D0 (aD 1)) (.tp [4, 5]) eS)
 (bG (aD 2))))))
def kD : FD := run 6 2 kP
def jC : FS :=
 (bG (jM (aR eN (aB (aD 1) aJ)) (mP HE BV (mC (.int 0)) (aD 1) (m1 (Az "Book" lM) (aD 0)))))
def jA : FD := run 2 2 jC
def eD (f_L_places : FD) : FS :=
 (gD [5] (bK (aV (dJ true) (aD 2) (aR (f_L_places) (aB (aV cM (aD 4) (aD 5)) (aB (aV (dJ false) (aD 1) (cH (aB (aD 3) (aB (aD 5) aJ)))) aJ)))) (.nm 2)))
def eM (f_L_places : FD) : FS :=
 (gD [3, 4, 5] (aP (An (I6 (aD 2) (cH (aB (aV (dJ false) (aD 1) (cH (aB (aD 3) aJ))) (aB (aV cM (aD 0) (aD 3)) aJ)))))
 (aP (bK (aR lL (aB (aV cM (aD 0) (aD 3)) aJ)) (.nm 4))
 (lN (oO (m1 dY (aD 4))) (.nm 5) (eD (f_L_places))))))
def qQ (f_L_places : FD) : FS :=
 (aP (bK (cN true aJ) (.nm 2))
 (aP (lN (oO (m1 dY (aD 0))) (.nm 3) (eM (f_L_places)))
 (bG (EF (aD 2)))))
def cS : Nat -> FD
 | 0 => jS
 | n + 1 => Ct 6 2 (qQ (cS n))
def fW : FS :=
 (gD [3] (An (I6 (aD 1) (cH (aB (aD 2) (aB (aV cM (aD 3) (mC (.int 0))) (aB (aV cM (aD 3) (mC (.int 1))) aJ)))))))
def fV : FS :=
 (gD [2, 3] (lN (gE (aR (cS 10) (aB (aV cM (aD 0) (aD 2)) (aB (cH aJ) aJ)))) (.nm 3) fW))
def kT : FS :=
 (aP (bK (cN true aJ) (.nm 1))
 (aP (lN (oO (m1 dY (aD 0))) (.nm 2) fV)
 (bG (EF (aD 1)))))
def kF : FD := Ct 4 1 kT
theorem BP {x0 x1 : Vl} {S : aL} : kD [x0, x1] S = cC (kP [some x0, some x1, none, none, none, none] S) := (rfl)
theorem A0 {x0 x1 : Vl} {S : aL} : jA [x0, x1] S = cC (jC [some x0, some x1] S) := (rfl)
theorem GF {n : Nat} {x0 x1 : Vl} {S : aL} : cS (n + 1) [x0, x1] S = trunc S.length (cC ((qQ (cS n)) [some x0, some x1, none, none, none, none] S)) := (rfl)
theorem BR {x0 : Vl} {S : aL} : kF [x0] S = trunc S.length (cC (kT [some x0, none, none, none] S)) := (rfl)
def zJ : FS :=
 (bG (jM (m1 (fIsi "list") (aD 0)) (jM (aV eZ (m1 dY (aD 0)) (mC (.int 49))) (m1 wC (A4 false (gE (aD 0)) (.nm 1) hW (aR eN (aB (aD 1) aJ)) [1])))))
def yU : FD := run 2 1 zJ
def Bm : FS :=
 (gD [1, 2] (bS (mB (aV BU (aD 2) (mC (.int 0)))) (bG (aD 1)) bB))
def HL : FS :=
 (aP (lN (vU (aD 0)) (.tp [1, 2]) Bm)
 (bG (m1 dY (aD 0))))
def qH : FD := run 3 1 HL
def nK : FS :=
 (mPar 1 2 (aD 2) (aV Kj (aD 1) (aD 2)))
def nJ : FS :=
 (gD [2] (Fe 1000000 (mB (aV BU (aD 2) (mC (.int 0)))) nK))
def qA : FS :=
 (aP (bK (mC (.int 0)) (.nm 1))
 (aP (lN (gE (aD 0)) (.nm 2) nJ)
 (bG (m1 Mx (aD 1)))))
def lK : FD := run 3 1 qA
def zI : FS :=
 (aP (bK (aR qH (aB (aD 0) aJ)) (.nm 1))
 (aP (bS (mB (aV eZ (aD 1) (m1 dY (aD 0)))) (bG (aD 0)) bB)
 (aP (bK (aR lK (aB (aD 0) aJ)) (.nm 2))
 (aP (bS (mB (aV BV (aV cM (aD 0) (aD 1)) (mC (.int 0)))) (bK (m1 sM (aD 2)) (.nm 2)) bB)
 (bG (A4 false (gE (aD 0)) (.nm 3) hW (aV B4 (aD 3) (aD 2)) [3]))))))
def sH : FD := run 4 1 zI
def zA : FE :=
 (aV oB (aV xX (aD 4) (aD 5)) (aV xX (aD 3) (aD 6)))
def CZ : FS :=
 (aP (bK (aR qH (aB (aD 1) aJ)) (.nm 2))
 (aP (bK (aV cM (aD 0) (aD 2)) (.nm 3))
 (aP (bS (mB (aV eZ (aD 3) (mC (.int 0)))) (bG (aD 0)) bB)
 (aP (bK (aV cM (aD 1) (aD 2)) (.nm 4))
 (bG (aR sH (aB (A4 false (OF (aD 0) (aD 1)) (.tp [5, 6]) hW zA [5, 6]) aJ)))))))
def C2 : FD := run 7 2 CZ
def yK : FS :=
 (aP (bK (aR qH (aB (aD 3) aJ)) (.nm 4))
 (bS (mB (aV BU (aV cM (aD 1) (aD 4)) (mC (.int 0)))) (bK (aV B4 (aV xX (aD 2) (aV cM (aD 3) (aD 4))) (aR lK (aB (cN false (aB (aD 2) (aB (aV cM (aD 3) (aD 4)) aJ))) aJ))) (.nm 2)) bB))
def yJ : FS :=
 (gD [6] (aP (bK (aR qH (aB (aD 3) aJ)) (.nm 4))
 (aP (bK (aV xX (aV B4 (aD 2) (aV cM (aD 3) (aD 4))) (aV cM (aD 1) (aD 4))) (.nm 6))
 (bS (mB (aV BU (aD 6) (mC (.int 0)))) (bK (A4 false (OF (aD 5) (aD 3)) (.tp [8, 9]) hW (aV oB (aD 8) (aV xX (aD 6) (aD 9))) [8, 9]) (.nm 5)) bB))))
def CY : FS :=
 (aP (bK (mC (.int 1)) (.nm 2))
 (aP (lN (gE (aD 0)) (.nm 3) yK)
 (aP (bK (A4 false (gE (aD 1)) (.nm 7) hW (aV xX (aD 2) (aD 7)) [7]) (.nm 5))
 (aP (lN (gE (aD 0)) (.nm 3) yJ)
 (bG (aD 5))))))
def C1 : FD := run 10 2 CY
def BG : FS :=
 (aP (bK (aR sH (aB (aR C1 (aB (aD 0) (aB (aD 1) aJ))) aJ)) (.nm 2))
 (aP (bS (mB (aV eZ (aR qH (aB (aD 2) aJ)) (m1 dY (aD 2)))) (bG (aD 0)) bB)
 (bG (m1 (DO false qH) (aV (dJ false) (A4 false (gE (aD 0)) (.nm 3) hW (aR C2 (aB (aD 3) (aB (aD 2) aJ))) [3]) (cN false (aB (aD 2) aJ)))))))
def Aj : FD := run 4 2 BG
def rR : FS :=
 (gD [2] (bS (jF (dE (aR yU (aB (aD 3) aJ)))) (oP "NoRows" ["index"] (aB (aD 2) aJ)) bB))
def rQ : FS :=
 (bK (aR Aj (aB (aD 4) (aB (aD 3) aJ))) (.nm 4))
def nE : FS :=
 (aP (bS (jF (dE (m1 (fIsi "list") (aD 1)))) (oP "NoRows" ["index"] (aB (m1 sM (mC (.int 1))) aJ)) bB)
 (aP (lN (vU (aD 1)) (.tp [2, 3]) rR)
 (aP (bK (cN false aJ) (.nm 4))
 (aP (lN (gE (aD 1)) (.nm 3) rQ)
 (Gf "Space" "basis" (aD 0) (aD 4))))))
def eF : FD := run 5 2 nE
def GA : FS :=
 (aP (bS (mB (aV eZ (aV cM (aD 0) (mC (.int 0))) (mC (.str "call")))) (bG (aV Kk (Jd true (aD 0) zU (qZ (mC (.int 3)))) (Ak (aB (aD 1) aJ)))) bB)
 (aP (bS (mB (aV eZ (m1 fLenV (aD 1)) (mC (.int 0)))) (bG (aD 0)) bB)
 (bG (aV Kk (Ak (aB (aV cM (aD 0) (mC (.int 0))) aJ)) (m1 fTupV (aD 1))))))
def Fc : FD := run 2 2 GA
def DP (f_L_copy_w : FD) : FE :=
 (aR Fc (aB (aD 1) (aB (Ff (gE (aR lL (aB (aD 1) aJ))) (.nm 2) hW (aR (f_L_copy_w) (aB (aD 2) aJ)) [2]) aJ)))
def GB (f_L_copy_w : FD) : FS :=
 (bG (Ff (gE (aD 0)) (.nm 1) hW (DP (f_L_copy_w)) [1]))
def Fd : Nat -> FD
 | 0 => jS
 | n + 1 => run 3 1 (GB (Fd n))
def nF : FS :=
 (aP (bS (mB (aV eZ (aV Bh (aD 0) (mC (.int 0))) (mC (.str "call")))) (bG (m1 xY (aV Bh (aD 0) (mC (.int 3))))) bB)
 (bG (Lr true (OG (aD 0) (qZ (mC (.int 1))) zU) (.nm 1) (dE (m1 (fIsi "list") (aD 1))) (aD 1) [1])))
def mY : FD := run 2 1 nF
def jB : FS :=
 (aP (bK (aV cM (aD 0) (mC (.int 0))) (.nm 2))
 (aP (bS (rN (mB (aV eZ (aD 2) (mC (.str "keep")))) (mB (aV eZ (aD 2) (mC (.str "again"))))) (bG (Ak (aB (aD 2) (aB (aV Ef (aD 1) (mC (.int 0))) aJ)))) bB)
 (aP (bS (mB (aV eZ (aD 2) (mC (.str "either")))) (bG (Ak (aB (aD 2) (aB (aV Ef (aD 1) (mC (.int 0))) (aB (aV Ef (aD 1) (mC (.int 1))) aJ))))) bB)
 (aP (bS (mB (aV eZ (aD 2) (mC (.str "call")))) (bG (Ak (aB (aD 2) (aB (aV cM (aD 0) (mC (.int 1))) (aB (aV cM (aD 0) (mC (.int 2))) (aB (aD 1) aJ)))))) bB)
 (bG (aD 0))))))
def iZ : FD := run 3 2 jB
def fH (f_copied_block_w : FD) : FS :=
 (bG (aR iZ (aB (aD 0) (aB (Ff (gE (aR fG (aB (aD 0) aJ))) (.nm 1) hW (aR (f_copied_block_w) (aB (aD 1) aJ)) [1]) aJ))))
def iN (f_copied_statement_w : FD) : FS :=
 (bG (Ff (gE (aD 0)) (.nm 1) hW (aR (f_copied_statement_w) (aB (aD 1) aJ)) [1]))
def hY : Nat -> FD × FD
 | 0 => (jS, jS)
 | n + 1 => let r := hY n
  (run 2 1 (fH r.2), run 2 1 (iN r.1))
def cR (n : Nat) : FD := (hY n).1
def gC (n : Nat) : FD := (hY n).2
theorem DX {x0 : Vl} {S : aL} : mY [x0] S = cC (nF [some x0, none] S) := (rfl)
theorem zZ {x0 x1 : Vl} {S : aL} : iZ [x0, x1] S = cC (jB [some x0, some x1, none] S) := (rfl)
def kQ : FS :=
 (bG (jM (m1 (cV "Space" "int") (aD 0)) (EE (m1 (cV "Space" "bool") (aD 0)))))
def hM : FD := run 1 1 kQ
def gZ : FS :=
 (bG (jM (aR hM (aB (aD 1) aJ)) (mP HE BV (mC (.int 0)) (aD 1) (m1 (Az "Book" lM) (aD 0)))))
def dQ : FD := run 2 2 gZ
def bL : FS :=
 (gD [4, 5] (aP (bS (rN (jF (dE (aR hM (aB (aD 5) aJ)))) (jF (mB (mP HE BV (mC (.int 0)) (aD 5) (m1 dY (aD 3)))))) (bG (mC .non)) bB)
 (bS (mB (aV eZ (aV tQ (aD 4) (mC (.int 2))) (mC (.int 0)))) (aP (bK (aV cM (aD 3) (aD 5)) (.nm 2))
 (bK (aR fG (aB (aD 2) aJ)) (.nm 3))) (bK (aV cM (aD 3) (aD 5)) (.nm 3)))))
def iL : FS :=
 (aP (bS (rN (jF (dE (m1 (cV "Space" "tuple") (aD 1)))) (mB (aV eZ (aV tQ (m1 dY (aD 1)) (mC (.int 2))) (mC (.int 0))))) (bG (mC .non)) bB)
 (aP (bK (mC .non) (.nm 2))
 (aP (bK (aD 0) (.nm 3))
 (aP (lN (D0 (aD 1)) (.tp [4, 5]) bL)
 (bG (aD 2))))))
def gB : FD := run 6 2 iL
def iQ : FS :=
 (aP (bK (aD 1) (.tp [2, 3]))
 (aP (bS (jF (dE (aR dQ (aB (aD 0) (aB (aD 2) aJ))))) (xQ "NoProcedure") bB)
 (aP (bK (aR gB (aB (aV cM (Fg "Book" "own" (aD 0)) (aD 2)) (aB (aD 3) aJ))) (.nm 4))
 (aP (bS (mB (aV (Bi false) (aD 4) (mC .non))) (xQ "NoPath") bB)
 (bG (aR (dZ 20) (aB (aD 4) aJ)))))))
def eA : FD := run 5 2 iQ
def pD : FS :=
 (aP (Am ["NoBook", "NoPath", "NoProcedure", "NoRows"] (bK (aV (sN "Book" eA) (aD 0) (cH (aB (aD 1) (aB (aD 2) aJ)))) (.nm 3)) [("NoProcedure", (bG (cH (aB (mC (.str "NoProcedure")) (aB (mC .non) aJ))))), ("NoPath", (bG (cH (aB (mC (.str "NoPath")) (aB (mC .non) aJ)))))])
 (bG (cH (aB (mC (.str "told")) (aB (aD 3) aJ)))))
def oN : FD := run 4 3 pD
def iO : FS :=
 (bG (jM (m1 (cV "Space" "int") (aD 0)) (EE (m1 (cV "Space" "bool") (aD 0)))))
def iE : FD := run 1 1 iO
def nC (f_L_same_s : FD) : FE :=
 (aR (f_L_same_s) (aB (aV cM (aD 0) (aD 2)) (aB (aV cM (aD 1) (aD 2)) aJ)))
def lQ (f_L_same_s : FD) : FS :=
 (aP (bS (dE (m1 (gY "Space" "list" "tuple") (aD 0))) (aP (bS (rN (mB (aV BU (m1 (cV "Space" "list") (aD 0)) (m1 (cV "Space" "list") (aD 1)))) (mB (aV BU (m1 (cV "Space" "tuple") (aD 0)) (m1 (cV "Space" "tuple") (aD 1))))) (bG (mC (.bl false))) bB)
 (bG (jM (aV eZ (m1 dY (aD 0)) (m1 dY (aD 1))) (m1 wC (A4 false (oO (m1 dY (aD 0))) (.nm 2) hW (nC (f_L_same_s)) [2]))))) bB)
 (aP (bS (rN (dE (m1 (gY "Space" "list" "tuple") (aD 1))) (mB (aV BU (m1 (cV "Space" "bool") (aD 0)) (m1 (cV "Space" "bool") (aD 1))))) (bG (mC (.bl false))) bB)
 (bG (jM (aV eZ (m1 (cV "Space" "int") (aD 0)) (m1 (cV "Space" "int") (aD 1))) (aV eZ (aD 0) (aD 1))))))
def fK : Nat -> FD
 | 0 => jS
 | n + 1 => run 3 2 (lQ (fK n))
def mD : FS :=
 (gD [4] (bS (uO (mB (aV eZ (aV cM (aD 4) (mC (.int 0))) (aD 2))) (dE (aR (fK 20) (aB (aV cM (aD 4) (mC (.int 1))) (aB (aD 3) aJ))))) (bG (cH (aB (mC (.str "told")) (aB (aV cM (aD 4) (mC (.int 2))) aJ)))) bB))
def tJ : FS :=
 (aP (bS (rN (jF (dE (aR iE (aB (aD 2) aJ)))) (rN (mB (aV BV (aD 2) (mC (.int 0)))) (mB (aV fGe (aD 2) (aD 1))))) (bG (cH (aB (mC (.str "NoProcedure")) (aB (mC .non) aJ)))) bB)
 (aP (lN (gE (aD 0)) (.nm 4) mD)
 (bG (cH (aB (mC (.str "NoPath")) (aB (mC .non) aJ))))))
def tE : FD := run 5 4 tJ
def tI : FS :=
 (aP (bK (aR bE (aB (aD 0) (aB (mC (.int 9)) aJ))) (.nm 3))
 (aP (bK (aR bE (aB (aD 0) (aB (aD 2) aJ))) (.nm 4))
 (aP (bK (m1 fTuple (A4 false (oO (aR bE (aB (aD 0) (aB (mC (.int 6)) aJ)))) (.nm 9) hW (aR bE (aB (aD 0) (aB (mC (.int 3)) aJ))) [9])) (.nm 5))
 (aP (bS (uO (mB (aV Eg (m1 dY (aD 1)) (mC (.int 0)))) (mB (aV BV (aD 3) (mC (.int 6))))) (aP (bK (aV cM (aD 1) (aR bE (aB (aD 0) (aB (m1 dY (aD 1)) aJ)))) (.nm 6))
 (aP (bK (aV cM (aD 6) (mC (.int 0))) (.nm 4))
 (bK (aV cM (aD 6) (mC (.int 1))) (.nm 5)))) bB)
 (aP (bK (m1 (tY true) (aD 5)) (.nm 7))
 (aP (bS (mB (aV eZ (aD 3) (mC (.int 0)))) (bG (cH (aB (aD 4) (aB (EF (aD 7)) aJ)))) bB)
 (aP (bS (mB (aV eZ (aD 3) (mC (.int 1)))) (bG (cH (aB (aD 4) (aB (m1 fTuple (aV (dJ false) (aD 7) (cN false (aB (mC (.int 0)) aJ)))) aJ)))) bB)
 (aP (bS (mB (aV eZ (aD 3) (mC (.int 2)))) (bG (cH (aB (aD 4) (aB (m1 fTuple (Jd false (aD 7) zU (qZ (aV oB (m1 dY (aD 7)) (mC (.int 1)))))) aJ)))) bB)
 (aP (bS (uO (mB (aV BV (aD 3) (mC (.int 5)))) (mB (aV Eg (m1 dY (aD 7)) (mC (.int 0))))) (aP (bK (aR bE (aB (aD 0) (aB (m1 dY (aD 7)) aJ))) (.nm 8))
 (yV (aV cM (cH (aB (aV (dJ false) (aV cM (aD 7) (aD 8)) (mC (.int 1))) (aB (aV oB (aV cM (aD 7) (aD 8)) (mC (.int 1))) (aB (mC (.bl true)) (aB (mC (.bl false)) (aB (mC (.str "0")) (aB (mC (.int 8)) (aB (m1 sM (mC (.int 1))) (aB (cN false (aB (mC (.int 0)) aJ)) (aB (mC .dct) (aB (vT false "Space" eF (aB (cN false aJ) aJ)) aJ))))))))))) (aR bE (aB (aD 0) (aB (mC (.int 10)) aJ)))) (aD 7) (aD 8))) bB)
 (aP (bS (mB (aV eZ (aD 3) (mC (.int 6)))) (bK (aV cM (cH (aB (aD 2) (aB (m1 sM (mC (.int 1))) (aB (mC (.bl true)) (aB (mC (.bl false)) (aB (mC .non) (aB (mC (.str "0")) (aB (cN false (aB (mC (.int 0)) aJ)) (aB (mC .dct) (aB (vT false "Space" eF (aB (cN false aJ) aJ)) aJ)))))))))) (aR bE (aB (aD 0) (aB (mC (.int 9)) aJ)))) (.nm 4)) bB)
 (bG (cH (aB (aD 4) (aB (m1 fTuple (aD 7)) aJ))))))))))))))
def tD : FD := Ct 10 3 tI
def fJ : FS :=
 (aP (bS (rN (jF (dE (m1 (cV "Space" "tuple") (aD 1)))) (mB (aV BU (m1 dY (aD 1)) (mC (.int 2))))) (bG (mC (.bl false))) bB)
 (aP (bS (jF (dE (aR dQ (aB (aD 0) (aB (aV cM (aD 1) (mC (.int 0))) aJ))))) (bG (mC (.bl false))) bB)
 (bG (aV (Bi true) (aR gB (aB (aV cM (Fg "Book" "own" (aD 0)) (aV cM (aD 1) (mC (.int 0)))) (aB (aV cM (aD 1) (mC (.int 1))) aJ))) (mC .non)))))
def cP : FD := run 2 2 fJ
def pB : FS :=
 (aP (bK (aR tE (aB (aD 1) (aB (aD 2) (aB (aD 3) (aB (aD 4) aJ))))) (.nm 5))
 (aP (bK (aR oN (aB (aD 0) (aB (aD 3) (aB (aD 4) aJ)))) (.nm 6))
 (aP (bS (rN (mB (aV BU (aV cM (aD 6) (mC (.int 0))) (aV cM (aD 5) (mC (.int 0))))) (jF (dE (aR (kE 20) (aB (aV cM (aD 6) (mC (.int 1))) (aB (aV cM (aD 5) (mC (.int 1))) aJ)))))) (bG (mC (.bl false))) bB)
 (bG (aV eZ (aV (Bj "Book" cP) (cH (aB (aD 3) (aB (aD 4) aJ))) (aD 0)) (aV eZ (aV cM (aD 5) (mC (.int 0))) (mC (.str "told"))))))))
def mF : FD := run 7 5 pB
def iP : FS :=
 (aP (bK (aD 1) (.tp [2, 3]))
 (aP (bS (jF (dE (aR jA (aB (aD 0) (aB (aD 2) aJ))))) (xQ "NoProcedure") bB)
 (aP (bK (aR kD (aB (aV cM (Fg "Book" "own" (aD 0)) (aD 2)) (aB (aD 3) aJ))) (.nm 4))
 (aP (bS (mB (aV (Bi false) (aD 4) (mC .non))) (xQ "NoPath") bB)
 (bG (aR (cR 20) (aB (aD 4) aJ)))))))
def iF : FD := run 5 2 iP
def oE : FS :=
 (gD [7] (An (Jf (aD 7) (cH (aB (mC (.str "mark")) aJ)))))
def oD : FS :=
 (gD [6, 7] (aP (bS (jF (dE (aR mF (aB (aD 4) (aB (aD 5) (aB (aD 3) (aB (aV cM (aD 6) (mC (.int 0))) (aB (aV cM (aD 6) (mC (.int 1))) aJ)))))))) (bG (mC (.bl false))) bB)
 (Gh (aR mY (aB (aV (sN "Book" iF) (aD 4) (cH (aB (aV cM (aD 6) (mC (.int 0))) (aB (aV cM (aD 6) (mC (.int 1))) aJ)))) aJ)) (.nm 7) oE)))
def lZ : FS :=
 (gD [8, 9] (aP (bK (aR tD (aB (aD 1) (aB (aD 5) (aB (aD 3) aJ)))) (.nm 9))
 (bS (jF (dE (aR mF (aB (aD 4) (aB (aD 5) (aB (aD 3) (aB (aV cM (aD 9) (mC (.int 0))) (aB (aV cM (aD 9) (mC (.int 1))) aJ)))))))) (bG (mC (.bl false))) bB)))
def sD : FS :=
 (aP (bS (rN (mB (aV (Bj "Book" cP) (cH (aB (mC (.int 0)) aJ)) (aD 4))) (rN (mB (aV (Bj "Book" cP) (mC .non) (aD 4))) (rN (mB (aV (Bj "Book" cP) (cN false (aB (mC (.int 0)) (aB (cH (aB (mC (.int 0)) aJ)) aJ))) (aD 4))) (mB (aV (Bj "Book" cP) (cH (aB (mC (.int 0)) (aB (cH (aB (mC (.int 0)) aJ)) (aB (mC (.int 0)) aJ)))) (aD 4)))))) (bG (mC (.bl false))) bB)
 (bG (aR (kE 20) (aB (Gg "Book" "bodies" gV (aD 4) aJ) (aB (aD 2) aJ)))))
def sC : FS :=
 (aP (lN (oO (aV Ay (mC (.int 16)) (m1 dY (aD 1)))) (.nm 8) lZ)
 sD)
def sA : FS :=
 (aP (bS (jF (dE (aR (kE 20) (aB (Gg "Book" "bodies" gV (aD 4) aJ) (aB (aD 2) aJ))))) (bG (mC (.bl false))) bB)
 sC)
def pZ : FS :=
 (aP (bK (aR vR (aB (aD 0) aJ)) (.nm 1))
 (aP (bK (aR vS (aB (aD 1) (aB (mC (.int 3)) (aB (mC (.int 7)) aJ)))) (.nm 2))
 (aP (bK (m1 dY (aD 2)) (.nm 3))
 (aP (bK (vT false "Book" jL (aB (aR qI (aB (aD 2) aJ)) aJ)) (.nm 4))
 (aP (bK (aR kF (aB (aD 2) aJ)) (.nm 5))
 (aP (lN (gE (aD 5)) (.nm 6) oD)
 sA))))))
def m_law_k09 : FD := Ct 10 1 pZ
theorem BQ {x0 : Vl} {S : aL} : hM [x0] S = cC (kQ [some x0] S) := (rfl)
theorem xB {x0 x1 : Vl} {S : aL} : dQ [x0, x1] S = cC (gZ [some x0, some x1] S) := (rfl)
theorem yF {x0 x1 : Vl} {S : aL} : gB [x0, x1] S = cC (iL [some x0, some x1, none, none, none, none] S) := (rfl)
theorem yI {x0 x1 : Vl} {S : aL} : eA [x0, x1] S = cC (iQ [some x0, some x1, none, none, none] S) := (rfl)
theorem F0 {x0 x1 x2 : Vl} {S : aL} : oN [x0, x1, x2] S = cC (pD [some x0, some x1, some x2, none] S) := (rfl)
theorem yG {x0 : Vl} {S : aL} : iE [x0] S = cC (iO [some x0] S) := (rfl)
theorem Io {x0 x1 x2 x3 : Vl} {S : aL} : tE [x0, x1, x2, x3] S = cC (tJ [some x0, some x1, some x2, some x3, none] S) := (rfl)
theorem Im {x0 x1 x2 : Vl} {S : aL} : tD [x0, x1, x2] S = trunc S.length (cC (tI [some x0, some x1, some x2, none, none, none, none, none, none, none] S)) := (rfl)
theorem pF {x0 x1 : Vl} {S : aL} : cP [x0, x1] S = cC (fJ [some x0, some x1] S) := (rfl)
theorem Ez {x0 x1 x2 x3 x4 : Vl} {S : aL} : mF [x0, x1, x2, x3, x4] S = cC (pB [some x0, some x1, some x2, some x3, some x4, none, none] S) := (rfl)
theorem yH {x0 x1 : Vl} {S : aL} : iF [x0, x1] S = cC (iP [some x0, some x1, none, none, none] S) := (rfl)
theorem Il {x0 : Vl} {S : aL} : m_law_k09 [x0] S = trunc S.length (cC (pZ [some x0, none, none, none, none, none, none, none, none, none] S)) := (rfl)
end PH
namespace PHZ
open PH PySem PySem.Spec PyProof.Rows L2
theorem BX : FnScope ["value"] ["value"] (defScope qC) := ⟨rfl, rfl, rfl, by decide +kernel, rfl, by decide +kernel, by decide +kernel⟩
theorem Hh : FnScope ["value"] ["value"] (defScope AR) := ⟨rfl, rfl, rfl, by decide +kernel, rfl, by decide +kernel, by decide +kernel⟩
theorem BY : FnScope ["value", "many", "low", "high", "number"] ["value"] (defScope mW) := ⟨rfl, rfl, rfl, by decide +kernel, rfl, by decide +kernel, by decide +kernel⟩
theorem Cm : FnScope ["statement", "word"] ["statement"] (defScope rW) := ⟨rfl, rfl, rfl, by decide +kernel, rfl, by decide +kernel, by decide +kernel⟩
theorem AK : FnScope ["statement", "blocks", "word"] ["statement", "blocks"] (defScope pG) := ⟨rfl, rfl, rfl, by decide +kernel, rfl, by decide +kernel, by decide +kernel⟩
theorem qW : FnScope ["block", "statement"] ["block"] (defScope jV) := ⟨rfl, rfl, rfl, by decide +kernel, rfl, by decide +kernel, by decide +kernel⟩
theorem mS : FnScope ["statement", "block"] ["statement"] (defScope gG) := ⟨rfl, rfl, rfl, by decide +kernel, rfl, by decide +kernel, by decide +kernel⟩
theorem AL : FnScope ["value", "level", "many", "word"] ["value", "level", "many"] (defScope pH) := ⟨rfl, rfl, rfl, by decide +kernel, rfl, by decide +kernel, by decide +kernel⟩
theorem rT : FnScope ["block", "level", "many", "path", "met", "at", "statement", "here", "number", "inner", "fault"] ["block", "level", "many", "path", "met"] (defScope pI) := ⟨rfl, rfl, rfl, by decide +kernel, rfl, by decide +kernel, by decide +kernel⟩
theorem zO : FnScope ["body", "path", "statement", "block", "at", "number"] ["body", "path"] (defScope nL) := ⟨rfl, rfl, rfl, by decide +kernel, rfl, by decide +kernel, by decide +kernel⟩
theorem Cq : FnScope ["self", "bodies", "procedure", "body", "fault", "met"] ["self", "bodies"] (defScope jJ) := ⟨rfl, rfl, rfl, by decide +kernel, rfl, by decide +kernel, by decide +kernel⟩
theorem E6 : FnScope ["self"] ["self"] (defScope nO) := ⟨rfl, rfl, rfl, by decide +kernel, rfl, by decide +kernel, by decide +kernel⟩
theorem AO : FnScope ["self", "body"] ["self"] (defScope gS) := ⟨rfl, rfl, rfl, by decide +kernel, rfl, by decide +kernel, by decide +kernel⟩
theorem xJ : FnScope ["book", "procedure"] ["book", "procedure"] (defScope mN) := ⟨rfl, rfl, rfl, by decide +kernel, rfl, by decide +kernel, by decide +kernel⟩
theorem Ck : FnScope ["value", "number"] ["value"] (defScope oH) := ⟨rfl, rfl, rfl, by decide +kernel, rfl, by decide +kernel, by decide +kernel⟩
theorem JG : FnScope ["row", "at", "number"] ["row"] (defScope Cr) := ⟨rfl, rfl, rfl, by decide +kernel, rfl, by decide +kernel, by decide +kernel⟩
theorem vB : FnScope ["row", "divisor", "number"] ["row"] (defScope lI) := ⟨rfl, rfl, rfl, by decide +kernel, rfl, by decide +kernel, by decide +kernel⟩
theorem vA : FnScope ["row", "at", "divisor", "number"] ["row"] (defScope oG) := ⟨rfl, rfl, rfl, by decide +kernel, rfl, by decide +kernel, by decide +kernel⟩
theorem FC : FnScope ["row", "base", "at", "factor", "scale", "a", "b"] ["row", "base"] (defScope sY) := ⟨rfl, rfl, rfl, by decide +kernel, rfl, by decide +kernel, by decide +kernel⟩
theorem uI : FnScope ["basis", "row", "multiple", "base", "at", "rest", "factor", "number", "a", "b"] ["basis", "row"] (defScope pR) := ⟨rfl, rfl, rfl, by decide +kernel, rfl, by decide +kernel, by decide +kernel⟩
theorem Dx : FnScope ["basis", "row", "rest", "base"] ["basis", "row"] (defScope qB) := ⟨rfl, rfl, rfl, by decide +kernel, rfl, by decide +kernel, by decide +kernel⟩
theorem BZ : FnScope ["self", "rows", "index", "row", "basis"] ["self", "rows"] (defScope jW) := ⟨rfl, rfl, rfl, by decide +kernel, rfl, by decide +kernel, by decide +kernel⟩
theorem Hj : FnScope ["_law_script", "_law_cell"] ["_law_script"] (defScope vG) := ⟨rfl, rfl, rfl, by decide +kernel, rfl, by decide +kernel, by decide +kernel⟩
theorem Hl : FnScope ["_law_pool_here", "_law_many", "_law_at", "_law_cell", "_law_number"] ["_law_pool_here", "_law_many"] (defScope AW) := ⟨rfl, rfl, rfl, by decide +kernel, rfl, by decide +kernel, by decide +kernel⟩
theorem Co : FnScope ["_law_pool_here", "_law_mood", "_law_menus", "_law_menu", "_law_kind", "_law_far"] ["_law_pool_here", "_law_mood"] (defScope rY) := ⟨rfl, rfl, rfl, by decide +kernel, rfl, by decide +kernel, by decide +kernel⟩
theorem Hk : FnScope ["_law_pool_here", "_law_mood", "_law_k", "_law_kind", "_law_rows"] ["_law_pool_here", "_law_mood"] (defScope AV) := ⟨rfl, rfl, rfl, by decide +kernel, rfl, by decide +kernel, by decide +kernel⟩
theorem AM : FnScope ["_law_pool_here", "_law_mood", "_law_level", "_law_room", "_law_calls", "_law_low", "_law_kind", "_law_pair_here", "_law_inner", "_law_one", "_law_goal", "_law_saved"] ["_law_pool_here", "_law_mood", "_law_level", "_law_room", "_law_calls", "_law_low"] (defScope xK) := ⟨rfl, rfl, rfl, by decide +kernel, rfl, by decide +kernel, by decide +kernel⟩
theorem AN : FnScope ["_law_pool_here", "_law_mood", "_law_level", "_law_room", "_law_calls", "_law_low", "_law_block_here", "_law_turn"] ["_law_pool_here", "_law_mood", "_law_level", "_law_room", "_law_calls", "_law_low"] (defScope xN) := ⟨rfl, rfl, rfl, by decide +kernel, rfl, by decide +kernel, by decide +kernel⟩
theorem E5 : FnScope ["_law_pool_here", "_law_mood", "_law_room", "_law_calls", "_law_goal", "_law_saved", "_law_at", "_law_pair_here", "_law_rows"] ["_law_pool_here", "_law_mood", "_law_room", "_law_calls"] (defScope uM) := ⟨rfl, rfl, rfl, by decide +kernel, rfl, by decide +kernel, by decide +kernel⟩
theorem Hn : FnScope ["_law_pool_here", "_law_mood", "_law_room", "_law_calls", "_law_low", "_law_ending", "_law_body_here", "_law_turn", "_law_rows"] ["_law_pool_here", "_law_mood", "_law_room", "_law_calls", "_law_low"] (defScope AY) := ⟨rfl, rfl, rfl, by decide +kernel, rfl, by decide +kernel, by decide +kernel⟩
theorem Hm : FnScope ["_law_pool_here", "_law_most", "_law_size", "_law_mood", "_law_wild", "_law_many", "_law_calls", "_law_bodies", "_law_procedure", "_law_room", "_law_low"] ["_law_pool_here", "_law_most", "_law_size"] (defScope AX) := ⟨rfl, rfl, rfl, by decide +kernel, rfl, by decide +kernel, by decide +kernel⟩
theorem Dz : FnScope ["_law_statement", "_law_item"] ["_law_statement"] (defScope qF) := ⟨rfl, rfl, rfl, by decide +kernel, rfl, by decide +kernel, by decide +kernel⟩
theorem Hi : FnScope ["_law_statement", "_law_blocks_here"] ["_law_statement", "_law_blocks_here"] (defScope AU) := ⟨rfl, rfl, rfl, by decide +kernel, rfl, by decide +kernel, by decide +kernel⟩
theorem Bq : FnScope ["_law_block_here", "_law_row", "_law_inner"] ["_law_block_here"] (defScope vH) := ⟨rfl, rfl, rfl, by decide +kernel, rfl, by decide +kernel, by decide +kernel⟩
theorem Dy : FnScope ["_law_bodies", "_law_body_here"] ["_law_bodies"] (defScope qE) := ⟨rfl, rfl, rfl, by decide +kernel, rfl, by decide +kernel, by decide +kernel⟩
theorem yN : FnScope ["_law_block_here", "_law_path", "_law_places_here", "_law_at", "_law_blocks_here", "_law_number"] ["_law_block_here", "_law_path"] (defScope uL) := ⟨rfl, rfl, rfl, by decide +kernel, rfl, by decide +kernel, by decide +kernel⟩
theorem zQ : FnScope ["_law_bodies", "_law_places_here", "_law_procedure", "_law_place"] ["_law_bodies"] (defScope nN) := ⟨rfl, rfl, rfl, by decide +kernel, rfl, by decide +kernel, by decide +kernel⟩
theorem Bp : FnScope ["_law_one", "_law_other_here", "_law_k"] ["_law_one", "_law_other_here"] (defScope vF) := ⟨rfl, rfl, rfl, by decide +kernel, rfl, by decide +kernel, by decide +kernel⟩
theorem zP : FnScope ["value"] ["value"] (defScope nM) := ⟨rfl, rfl, rfl, by decide +kernel, rfl, by decide +kernel, by decide +kernel⟩
theorem uJ : FnScope ["book", "procedure"] ["book", "procedure"] (defScope jU) := ⟨rfl, rfl, rfl, by decide +kernel, rfl, by decide +kernel, by decide +kernel⟩
theorem uZ : FnScope ["body", "path", "statement", "block", "at", "number"] ["body", "path"] (defScope lH) := ⟨rfl, rfl, rfl, by decide +kernel, rfl, by decide +kernel, by decide +kernel⟩
theorem vE : FnScope ["self", "place", "procedure", "path", "statement"] ["self", "place"] (defScope fZ) := ⟨rfl, rfl, rfl, by decide +kernel, rfl, by decide +kernel, by decide +kernel⟩
theorem Cp : FnScope ["_law_book_here", "_law_procedure", "_law_path", "_law_answer"] ["_law_book_here", "_law_procedure", "_law_path"] (defScope rZ) := ⟨rfl, rfl, rfl, by decide +kernel, rfl, by decide +kernel, by decide +kernel⟩
theorem vC : FnScope ["_law_value"] ["_law_value"] (defScope lJ) := ⟨rfl, rfl, rfl, by decide +kernel, rfl, by decide +kernel, by decide +kernel⟩
theorem yM : FnScope ["_law_one", "_law_other_here", "_law_k"] ["_law_one", "_law_other_here"] (defScope qD) := ⟨rfl, rfl, rfl, by decide +kernel, rfl, by decide +kernel, by decide +kernel⟩
theorem FG : FnScope ["_law_places_here", "_law_many", "_law_procedure", "_law_path", "_law_place"] ["_law_places_here", "_law_many", "_law_procedure", "_law_path"] (defScope xM) := ⟨rfl, rfl, rfl, by decide +kernel, rfl, by decide +kernel, by decide +kernel⟩
theorem FF : FnScope ["_law_pool_here", "_law_places_here", "_law_many", "_law_kind", "_law_procedure", "_law_path", "_law_place", "_law_items", "_law_at", "_law_k"] ["_law_pool_here", "_law_places_here", "_law_many"] (defScope sZ) := ⟨rfl, rfl, rfl, by decide +kernel, rfl, by decide +kernel, by decide +kernel⟩
theorem uK : FnScope ["self", "place"] ["self", "place"] (defScope fF) := ⟨rfl, rfl, rfl, by decide +kernel, rfl, by decide +kernel, by decide +kernel⟩
theorem Cn : FnScope ["_law_book_here", "_law_places_here", "_law_many", "_law_procedure", "_law_path", "_law_due_here", "_law_answer"] ["_law_book_here", "_law_places_here", "_law_many", "_law_procedure", "_law_path"] (defScope rX) := ⟨rfl, rfl, rfl, by decide +kernel, rfl, by decide +kernel, by decide +kernel⟩
theorem Ba : FnScope ["_law_statement", "_law_item"] ["_law_statement"] (defScope mX) := ⟨rfl, rfl, rfl, by decide +kernel, rfl, by decide +kernel, by decide +kernel⟩
theorem xI : FnScope ["statement", "blocks", "word"] ["statement", "blocks"] (defScope mM) := ⟨rfl, rfl, rfl, by decide +kernel, rfl, by decide +kernel, by decide +kernel⟩
theorem oF : FnScope ["block", "statement"] ["block"] (defScope iB) := ⟨rfl, rfl, rfl, by decide +kernel, rfl, by decide +kernel, by decide +kernel⟩
theorem lC : FnScope ["statement", "block"] ["statement"] (defScope fE) := ⟨rfl, rfl, rfl, by decide +kernel, rfl, by decide +kernel, by decide +kernel⟩
theorem vD : FnScope ["self", "place", "procedure", "path", "statement"] ["self", "place"] (defScope fY) := ⟨rfl, rfl, rfl, by decide +kernel, rfl, by decide +kernel, by decide +kernel⟩
theorem sc_law_k09 : FnScope ["_law_script", "_law_pool_here", "_law_bodies", "_law_many", "_law_book_here", "_law_places_here", "_law_place", "_law_inner", "_law_step", "_law_other_here"] ["_law_script"] (defScope sX) := ⟨rfl, rfl, rfl, by decide +kernel, rfl, by decide +kernel, by decide +kernel⟩
theorem FB : FnScope ["self", "procedure", "path"] ["self", "procedure", "path"] (defScope pQ) := ⟨rfl, rfl, rfl, by decide +kernel, rfl, by decide +kernel, by decide +kernel⟩
theorem F9 : FnScope ["self", "index"] ["self", "index"] (defScope pP) := ⟨rfl, rfl, rfl, by decide +kernel, rfl, by decide +kernel, by decide +kernel⟩
structure Txt (P : Program) (w : World) (K : aC) (mg : Str -> Option Value) : Prop where
 tree : Tre P
 n_isinstance : mg "isinstance" = none
 n_int : mg "int" = none
 n_bool : mg "bool" = none
 n_tuple : mg "tuple" = none
 n_len : mg "len" = none
 n_str : mg "str" = none
 lim : Lim K
 k_LIMITS : ∃ es n, KDict K w (He.ga K "LIMITS") es n
 g_LIMITS : mg "LIMITS" = some (.ref (He.ga K "LIMITS"))
 n_all : mg "all" = none
 i_DEEPEST : ∃ t, mg "DEEPEST" = some (.int 3 t)
 n_list : mg "list" = none
 n_enumerate : mg "enumerate" = none
 i_MOST_IN_LIST : ∃ t, mg "MOST_IN_LIST" = some (.int 8 t)
 i_MOST_IN_PROCEDURE : ∃ t, mg "MOST_IN_PROCEDURE" = some (.int 12 t)
 i_MOST_PROCEDURES : ∃ t, mg "MOST_PROCEDURES" = some (.int 3 t)
 xa_NoBook : XaF K mg "NoBook" ["procedure", "path"]
 fx_NoBook : HS K "NoBook" "__init__" "NoBook.__init__" pQ
 c_Book : Cls K (He.ga K "Book")
 a_Book_own : NoAttr K (He.ga K "Book") "own"
 n_abs : mg "abs" = none
 sk : Ky K mg
 n_zip : mg "zip" = none
 n_sorted : mg "sorted" = none
 xa_NoRows : XaF K mg "NoRows" ["index"]
 fx_NoRows : HS K "NoRows" "__init__" "NoRows.__init__" pP
 c_Space : Cls K (He.ga K "Space")
 a_Space_basis : NoAttr K (He.ga K "Space") "basis"
 n_range : mg "range" = none
 I_Space : IsF K "Space"
 kn_Space_int : LB K "Space" "int"
 kn_Space_bool : LB K "Space" "bool"
 kn_Space_tuple : LB K "Space" "tuple"
 x_NoProcedure : XcF K mg "NoProcedure"
 x_NoPath : XcF K mg "NoPath"
 xm : XMs K ["NoBook", "NoPath", "NoProcedure", "NoRows"]
 g_NoPath : mg "NoPath" = some (.ref (He.ga K "NoPath"))
 g_NoProcedure : mg "NoProcedure" = some (.ref (He.ga K "NoProcedure"))
 kn_Space_list : LB K "Space" "list"
 T_Space : ClF K mg "Space"
 T_Book : ClF K mg "Book"
 n_min : mg "min" = none
 G_is_integer : mg "is_integer" = some (.ref (He.ga K "is_integer"))
 f_is_integer : mJ K "is_integer" qC
 G_is_bit : mg "is_bit" = some (.ref (He.ga K "is_bit"))
 f_is_bit : mJ K "is_bit" AR
 G_is_command : mg "is_command" = some (.ref (He.ga K "is_command"))
 f_is_command : mJ K "is_command" mW
 G_blocks_of : mg "blocks_of" = some (.ref (He.ga K "blocks_of"))
 f_blocks_of : mJ K "blocks_of" rW
 G_with_blocks : mg "with_blocks" = some (.ref (He.ga K "with_blocks"))
 f_with_blocks : mJ K "with_blocks" pG
 G_copied_block : mg "copied_block" = some (.ref (He.ga K "copied_block"))
 f_copied_block : mJ K "copied_block" jV
 G_copied_statement : mg "copied_statement" = some (.ref (He.ga K "copied_statement"))
 f_copied_statement : mJ K "copied_statement" gG
 G_well_formed : mg "well_formed" = some (.ref (He.ga K "well_formed"))
 f_well_formed : mJ K "well_formed" pH
 G_first_fault : mg "first_fault" = some (.ref (He.ga K "first_fault"))
 f_first_fault : mJ K "first_fault" pI
 G_statement_at : mg "statement_at" = some (.ref (He.ga K "statement_at"))
 f_statement_at : mJ K "statement_at" nL
 M_Book_init : Meth K (He.ga K "Book") "__init__" (He.ma K (He.ga K "Book") "__init__")
 f_Book_init : HS K "Book" "__init__" "Book.__init__" jJ
 M_Book_len : Meth K (He.ga K "Book") "__len__" (He.ma K (He.ga K "Book") "__len__")
 f_Book_len : HS K "Book" "__len__" "Book.__len__" nO
 M_Book_bodies : Meth K (He.ga K "Book") "bodies" (He.ma K (He.ga K "Book") "bodies")
 f_Book_bodies : HS K "Book" "bodies" "Book.bodies" gS
 G_has_procedure : mg "has_procedure" = some (.ref (He.ga K "has_procedure"))
 f_has_procedure : mJ K "has_procedure" mN
 G_is_matrix : mg "is_matrix" = some (.ref (He.ga K "is_matrix"))
 f_is_matrix : mJ K "is_matrix" oH
 G_pivot : mg "pivot" = some (.ref (He.ga K "pivot"))
 f_pivot : mJ K "pivot" Cr
 G_common_divisor : mg "common_divisor" = some (.ref (He.ga K "common_divisor"))
 f_common_divisor : mJ K "common_divisor" lI
 G_primitive : mg "primitive" = some (.ref (He.ga K "primitive"))
 f_primitive : mJ K "primitive" oG
 G_cleared : mg "cleared" = some (.ref (He.ga K "cleared"))
 f_cleared : mJ K "cleared" sY
 G_reduced : mg "reduced" = some (.ref (He.ga K "reduced"))
 f_reduced : mJ K "reduced" pR
 G_with_row : mg "with_row" = some (.ref (He.ga K "with_row"))
 f_with_row : mJ K "with_row" qB
 M_Space_init : Meth K (He.ga K "Space") "__init__" (He.ma K (He.ga K "Space") "__init__")
 f_Space_init : HS K "Space" "__init__" "Space.__init__" jW
 G_L_pool : mg "_law_pool" = some (.ref (He.ga K "_law_pool"))
 f_L_pool : mJ K "_law_pool" vG
 G_L_draw : mg "_law_draw" = some (.ref (He.ga K "_law_draw"))
 f_L_draw : mJ K "_law_draw" AW
 G_L_command : mg "_law_command" = some (.ref (He.ga K "_law_command"))
 f_L_command : mJ K "_law_command" rY
 G_L_pair : mg "_law_pair" = some (.ref (He.ga K "_law_pair"))
 f_L_pair : mJ K "_law_pair" AV
 G_L_piece : mg "_law_piece" = some (.ref (He.ga K "_law_piece"))
 f_L_piece : mJ K "_law_piece" xK
 G_L_block : mg "_law_block" = some (.ref (He.ga K "_law_block"))
 f_L_block : mJ K "_law_block" xN
 G_L_around : mg "_law_around" = some (.ref (He.ga K "_law_around"))
 f_L_around : mJ K "_law_around" uM
 G_L_body : mg "_law_body" = some (.ref (He.ga K "_law_body"))
 f_L_body : mJ K "_law_body" AY
 G_L_book : mg "_law_book" = some (.ref (He.ga K "_law_book"))
 f_L_book : mJ K "_law_book" AX
 G_L_blocks : mg "_law_blocks" = some (.ref (He.ga K "_law_blocks"))
 f_L_blocks : mJ K "_law_blocks" qF
 G_L_with : mg "_law_with" = some (.ref (He.ga K "_law_with"))
 f_L_with : mJ K "_law_with" AU
 G_L_copy : mg "_law_copy" = some (.ref (He.ga K "_law_copy"))
 f_L_copy : mJ K "_law_copy" vH
 G_L_copies : mg "_law_copies" = some (.ref (He.ga K "_law_copies"))
 f_L_copies : mJ K "_law_copies" qE
 G_L_places : mg "_law_places" = some (.ref (He.ga K "_law_places"))
 f_L_places : mJ K "_law_places" uL
 G_L_all_places : mg "_law_all_places" = some (.ref (He.ga K "_law_all_places"))
 f_L_all_places : mJ K "_law_all_places" nN
 G_L_same : mg "_law_same" = some (.ref (He.ga K "_law_same"))
 f_L_same : mJ K "_law_same" vF
 G_is_integer_s : mg "is_integer" = some (.ref (He.ga K "is_integer"))
 f_is_integer_s : mJ K "is_integer" nM
 G_has_procedure_s : mg "has_procedure" = some (.ref (He.ga K "has_procedure"))
 f_has_procedure_s : mJ K "has_procedure" jU
 G_statement_at_s : mg "statement_at" = some (.ref (He.ga K "statement_at"))
 f_statement_at_s : mJ K "statement_at" lH
 M_Book_getitem_s : Meth K (He.ga K "Book") "__getitem__" (He.ma K (He.ga K "Book") "__getitem__")
 f_Book_getitem_s : HS K "Book" "__getitem__" "Book.__getitem__" fZ
 G_L_asked_3 : mg "_law_asked" = some (.ref (He.ga K "_law_asked"))
 f_L_asked_3 : mJ K "_law_asked" rZ
 G_L_is_integer_s : mg "_law_is_integer" = some (.ref (He.ga K "_law_is_integer"))
 f_L_is_integer_s : mJ K "_law_is_integer" lJ
 G_L_same_s : mg "_law_same" = some (.ref (He.ga K "_law_same"))
 f_L_same_s : mJ K "_law_same" qD
 G_L_due_7 : mg "_law_due" = some (.ref (He.ga K "_law_due"))
 f_L_due_7 : mJ K "_law_due" xM
 G_L_other : mg "_law_other" = some (.ref (He.ga K "_law_other"))
 f_L_other : mJ K "_law_other" sZ
 M_Book_contains_s : Meth K (He.ga K "Book") "__contains__" (He.ma K (He.ga K "Book") "__contains__")
 f_Book_contains_s : HS K "Book" "__contains__" "Book.__contains__" fF
 G_L_right_5 : mg "_law_right" = some (.ref (He.ga K "_law_right"))
 f_L_right_5 : mJ K "_law_right" rX
 G_L_blocks_v : mg "_law_blocks" = some (.ref (He.ga K "_law_blocks"))
 f_L_blocks_v : mJ K "_law_blocks" mX
 G_with_blocks_v : mg "with_blocks" = some (.ref (He.ga K "with_blocks"))
 f_with_blocks_v : mJ K "with_blocks" mM
 G_copied_block_w : mg "copied_block" = some (.ref (He.ga K "copied_block"))
 f_copied_block_w : mJ K "copied_block" iB
 G_copied_statement_w : mg "copied_statement" = some (.ref (He.ga K "copied_statement"))
 f_copied_statement_w : mJ K "copied_statement" fE
 M_Book_getitem_w : Meth K (He.ga K "Book") "__getitem__" (He.ma K (He.ga K "Book") "__getitem__")
 f_Book_getitem_w : HS K "Book" "__getitem__" "Book.__getitem__" fY
 G_law_k09 : mg "law" = some (.ref (He.ga K "law"))
 f_law_k09 : mJ K "law" sX
section
variable {P : Program} {w : World} {K : aC} {mg : Str -> Option Value} {base : Heap}
theorem xa_NoBook (T : Txt P w K mg) : XcA P w K mg base 1 "NoBook" ["self", "procedure", "path"] (O2 (He.ga K "NoBook") "procedure" "path") :=
 Ja (m := "__init__") T.xa_NoBook T.fx_NoBook FB J7 (fun _ _ _ _ _ _ us hl => match us, hl with | [_, _, _], _ => rfl) fun cdv A outer s H vs Q E hr hsp => by
  obtain ⟨a, y, z, e, ha, h⟩ := hsp;subst e;exact ⟨_, (pss_cons (ps_ost (cv 0) (cv 1)) (pss_one (ps_ost (cv 0) (cv 2)))), rd_X2 T.xa_NoBook (by simp) (by simp) ha (fun _ _ => rfl) h⟩
theorem xa_NoRows (T : Txt P w K mg) : XcA P w K mg base 1 "NoRows" ["self", "index"] (O3 (He.ga K "NoRows") "index") :=
 Ja (m := "__init__") T.xa_NoRows T.fx_NoRows F9 J8 (fun _ _ _ _ _ _ us hl => match us, hl with | [_, _], _ => rfl) fun cdv A outer s H vs Q E hr hsp => by
  obtain ⟨a, y, e, ha, h⟩ := hsp;subst e;exact ⟨_, (pss_one (ps_ost (cv 0) (cv 1))), rd_X1 T.xa_NoRows (by simp) ha (fun _ _ => rfl) h⟩
theorem gU (T : Txt P w K mg) : kW P w K mg base 1 "is_integer" ["value"] (spF K eN) :=
 eU (k := 0) T.f_is_integer T.G_is_integer BX (Runs.plain (n := 1) (np := 1)) (fun _ _ _ _ _ _ us hl => match us, hl with | [_], _ => rfl) fun _ _ _ _ _ _ hr tk nd => by
  unfold nD;exact (aH (aM (gX (fO (T := "int") T.n_isinstance T.n_int (fv 0)) (pe_one (Fz (fO (T := "bool") T.n_isinstance T.n_bool (fv 0)))))))
theorem Ht (T : Txt P w K mg) : kW P w K mg base 2 "is_bit" ["value"] (spF K vP) :=
 eU (k := 1) T.f_is_bit T.G_is_bit Hh (Runs.plain (n := 1) (np := 1)) (fun _ _ _ _ _ _ us hl => match us, hl with | [_], _ => rfl) fun _ _ _ _ _ _ hr tk nd => by
  unfold wN;exact (aH (aM (gX (aN (gU T) hr tk (aA (fv 0) aG)) (pe_one (AC nP AQ nP AQ fI (fv 0) fI)))))
theorem Bc (T : Txt P w K mg) : kW P w K mg base 2 "is_command" ["value"] (spF K iD) :=
 eU (k := 1) T.f_is_command T.G_is_command BY (Runs.plain (n := 5) (np := 1)) (fun _ _ _ _ _ _ us hl => match us, hl with | [_], _ => rfl) fun _ _ _ _ _ _ hr tk nd => by
  unfold iM kN;exact (aF (bF (PW.pt (eR (dR (cX (fO (T := "tuple") T.n_isinstance T.n_tuple (fv 0)))) (pw_or1 (aS (bI hr.units) s_eq (dU T.n_len (fv 0)) fI)))) (aH (aM fB)) aO)
  (aF (bF (PW.pt (eR (dR (cX (fO (T := "str") T.n_isinstance T.n_str (bR (fv 0) fI)))) (pw_or1 (IS T.lim T.k_LIMITS T.g_LIMITS (bR (fv 0) fI))))) (aH (aM fB)) aO)
  (aF (Ax (t := (.tp [1, 2, 3])) (f_lim T.lim T.k_LIMITS T.g_LIMITS (bR (fv 0) fI)) (pg_tup rfl (pgs_cons (pg_name (i := 1) nd rfl (.inl rfl)) (pgs_cons (pg_name (i := 2) nd rfl (.inr rfl)) (pgs_cons (pg_name (i := 3) nd rfl (.inr rfl)) pgs_nil)))))
  (aF (bF (aS (iS hr.units) tN (dU T.n_len (fv 0)) (cE bX dP (fv 1) fI)) (aH (aM fB)) aO)
  (aH (aM (HD T.n_all (sL (own := [("number", 4)]) (t := (.nm 4)) rfl nd (eV (G1 (fv 0) (oR fI) oS)) (blkOk_by (own := [("number", 4)]) (N := ["value", "many", "low", "high", "number"]) (sc := defScope mW) (by decide +kernel)) (fun _ _ _ _ _ => (pg_name (i := 4) nd rfl (.inl rfl))) (fun _ _ _ _ _ => eK) (fun _ _ _ _ _ => (gX (aN (gU T) hr takes0 (aA (fv 4) aG)) (pe_one (AC nP AQ nP AQ (fv 2) (fv 4) (fv 3)))))))))))))
theorem jZ (T : Txt P w K mg) : kW P w K mg base 1 "blocks_of" ["statement"] (spF K fG) :=
 eU (k := 0) T.f_blocks_of T.G_blocks_of Cm (Runs.plain (n := 2) (np := 1)) (fun _ _ _ _ _ _ us hl => match us, hl with | [_], _ => rfl) fun _ _ _ _ _ _ hr tk nd => by
  unfold pA;exact (aF (aT (i := 1) nd rfl (.inl rfl) (bR (fv 0) fI))
  (aF (bF (PW.pt (eR (aS (bI hr.units) s_eq (fv 1) fS) (pw_or1 (aS (bI hr.units) s_eq (fv 1) fS)))) (aH (aM (cD (aA (bR (fv 0) fI) aG)))) aO)
  (aF (bF (aS (bI hr.units) s_eq (fv 1) fS) (aH (aM (cD (aA (bR (fv 0) fI) (aA (bR (fv 0) fI) aG))))) aO)
  (aF (bF (aS (bI hr.units) s_eq (fv 1) fS) (aH (aM (bR (fv 0) fI))) aO)
  (aH (aM (cD aG)))))))
theorem Af (T : Txt P w K mg) : kW P w K mg base 1 "with_blocks" ["statement", "blocks"] (spF K lS) :=
 eU (k := 0) T.f_with_blocks T.G_with_blocks AK (Runs.plain (n := 3) (np := 2)) (fun _ _ _ _ _ _ us hl => match us, hl with | [_, _], _ => rfl) fun _ _ _ _ _ _ hr tk nd => by
  unfold lV;exact (aF (aT (i := 2) nd rfl (.inl rfl) (bR (fv 0) fI))
  (aF (bF (PW.pt (eR (aS (bI hr.units) s_eq (fv 2) fS) (pw_or1 (aS (bI hr.units) s_eq (fv 2) fS)))) (aH (aM (bY (aA (fv 2) (aA (bR (fv 1) fI) aG))))) aO)
  (aF (bF (aS (bI hr.units) s_eq (fv 2) fS) (aH (aM (bY (aA (fv 2) (aA (bR (fv 1) fI) (aA (bR (fv 1) fI) aG)))))) aO)
  (aF (bF (aS (bI hr.units) s_eq (fv 2) fS) (aH (aM (bY (aA (fv 2) (aA (bR (fv 0) fI) (aA (bR (fv 0) fI) (aA (fv 1) aG))))))) aO)
  (aH (aM (fv 0)))))))
theorem hJ (T : Txt P w K mg) : ∀ n, (kW P w K mg base (1 + n + 1) "copied_statement" ["statement"] (spF K (dZ n))) /\ (kW P w K mg base (1 + n + 1) "copied_block" ["block"] (spF K (eG n)))
 | 0 => ⟨kB T.f_copied_statement T.G_copied_statement mS (fun _ _ _ _ _ _ us hl => match us, hl with | [_], _ => rfl), kB T.f_copied_block T.G_copied_block qW (fun _ _ _ _ _ _ us hl => match us, hl with | [_], _ => rfl)⟩
 | n + 1 => by
  have ih := hJ T n;have ih_copied_statement := ih.1;have ih_copied_block := ih.2;refine ⟨?_, ?_⟩
  ·exact eU (k := 1 + n + 1) T.f_copied_statement T.G_copied_statement mS (Runs.plain (n := 2) (np := 1)) (fun _ _ _ _ _ _ us hl => match us, hl with | [_], _ => rfl) fun _ _ _ _ _ _ hr tk nd => by
    unfold gN;exact (aH (aM (aN (Af T) hr tk (aA (fv 0) (aA (sL (own := [("block", 1)]) (t := (.nm 1)) rfl nd (eV (aN (jZ T) hr tk (aA (fv 0) aG) (by omega))) (blkOk_by (own := [("block", 1)]) (N := ["statement", "block"]) (sc := defScope gG) (by decide +kernel)) (fun _ _ _ _ _ => (pg_name (i := 1) nd rfl (.inl rfl))) (fun _ _ _ _ _ => eK) (fun _ _ _ _ _ => (aN ih_copied_block hr takes0 (aA (fv 1) aG) (by omega)))) aG)) (by omega))))
  ·exact eU (k := 1 + n + 1) T.f_copied_block T.G_copied_block qW (Runs.plain (n := 2) (np := 1)) (fun _ _ _ _ _ _ us hl => match us, hl with | [_], _ => rfl) fun _ _ _ _ _ _ hr tk nd => by
    unfold kR;exact (aH (aM (sL (own := [("statement", 1)]) (t := (.nm 1)) rfl nd (eV (fv 0)) (blkOk_by (own := [("statement", 1)]) (N := ["block", "statement"]) (sc := defScope jV) (by decide +kernel)) (fun _ _ _ _ _ => (pg_name (i := 1) nd rfl (.inl rfl))) (fun _ _ _ _ _ => eK) (fun _ _ _ _ _ => (aN ih_copied_statement hr takes0 (aA (fv 1) aG) (by omega))))))
theorem tP (T : Txt P w K mg) (n : Nat) : kW P w K mg base (1 + n + 1) "copied_statement" ["statement"] (spF K (dZ n)) := (hJ T n).1
theorem qY (T : Txt P w K mg) (n : Nat) : kW P w K mg base (1 + n + 1) "copied_block" ["block"] (spF K (eG n)) := (hJ T n).2
theorem Ag (T : Txt P w K mg) : kW P w K mg base 3 "well_formed" ["value", "level", "many"] (spF K iU) :=
 eU (k := 2) T.f_well_formed T.G_well_formed AL (Runs.plain (n := 4) (np := 3)) (fun _ _ _ _ _ _ us hl => match us, hl with | [_, _, _], _ => rfl) fun _ _ _ _ _ _ hr tk nd => by
  unfold lW;exact (aF (bF (cX (aN (Bc T) hr tk (aA (fv 0) aG))) (aH (aM fB)) aO)
  (aF (bF (PW.pt (eR (dR (cX (fO (T := "tuple") T.n_isinstance T.n_tuple (fv 0)))) (eR (aS hI rV (dU T.n_len (fv 0)) fI) (pw_or1 (dR (cX (fO (T := "str") T.n_isinstance T.n_str (bR (fv 0) fI)))))))) (aH (aM fB)) aO)
  (aF (aT (i := 3) nd rfl (.inl rfl) (bR (fv 0) fI))
  (aF (bF (aS (bI hr.units) s_eq (fv 3) fS) (aH (aM (gX (lD (bI hr.units) s_eq (dU T.n_len (fv 0)) fI) (pe_one (aN (Ht T) hr tk (aA (bR (fv 0) fI) aG)))))) aO)
  (aF (bF (aS (bI hr.units) s_eq (fv 1) (DN T.i_DEEPEST)) (aH (aM fB)) aO)
  (aF (bF (PW.pt (eR (aS (bI hr.units) s_eq (fv 3) fS) (pw_or1 (aS (bI hr.units) s_eq (fv 3) fS)))) (aH (aM (gX (lD (bI hr.units) s_eq (dU T.n_len (fv 0)) fI) (pe_one (fO (T := "list") T.n_isinstance T.n_list (bR (fv 0) fI)))))) aO)
  (aF (bF (aS (bI hr.units) s_eq (fv 3) fS) (aH (aM (gX (lD (bI hr.units) s_eq (dU T.n_len (fv 0)) fI) (gX (fO (T := "list") T.n_isinstance T.n_list (bR (fv 0) fI)) (pe_one (fO (T := "list") T.n_isinstance T.n_list (bR (fv 0) fI))))))) aO)
  (aF (bF (PW.pt (eR (aS (iS hr.units) tN (fv 3) fS) (pw_or1 (aS (iS hr.units) tN (dU T.n_len (fv 0)) fI)))) (aH (aM fB)) aO)
  (aF (bF (PW.pt (eR (dR (cX (aN (gU T) hr tk (aA (bR (fv 0) fI) aG)))) (pw_or1 (dR (vY nP AQ hI rV fI (bR (fv 0) fI) (fv 2)))))) (aH (aM fB)) aO)
  (aF (bF (PW.pt (eR (dR (cX (fO (T := "bool") T.n_isinstance T.n_bool (bR (fv 0) fI)))) (eR (dR (cX (fO (T := "list") T.n_isinstance T.n_list (bR (fv 0) fI)))) (pw_or1 (aS (iS hr.units) tN (dU T.n_len (bR (fv 0) fI)) fI))))) (aH (aM fB)) aO)
  (aH (aM (gX (fO (T := "list") T.n_isinstance T.n_list (bR (bR (fv 0) fI) fI)) (pe_one (fO (T := "list") T.n_isinstance T.n_list (bR (bR (fv 0) fI) fI))))))))))))))))
theorem sF (T : Txt P w K mg) : ∀ n, kW P w K mg base (3 + n + 1) "first_fault" ["block", "level", "many", "path", "met"] (spF K (cU n))
 | 0 => kB T.f_first_fault T.G_first_fault rT (fun _ _ _ _ _ _ us hl => match us, hl with | [_, _, _, _, _], _ => rfl)
 | n + 1 => by
  have ih_first_fault := sF T n;exact eU (k := 3 + n + 1) T.f_first_fault T.G_first_fault rT (Runs.plain (n := 11) (np := 5)) (fun _ _ _ _ _ _ us hl => match us, hl with | [_, _, _, _, _], _ => rfl) fun _ _ _ _ _ _ hr tk nd => by
   unfold lX iY fC;exact (aF (fL (t := (.tp [5, 6])) (passes_of rfl) rfl (wA (by rfl) T.n_enumerate (fv 0)) (pg_tup rfl (pgs_cons (pg_name (i := 5) nd rfl (.inl rfl)) (pgs_cons (pg_name (i := 6) nd rfl (.inl rfl)) pgs_nil))) (dF [5, 6, 7, 8, 9, 10] (aF (aT (i := 7) nd rfl (.inl rfl) (cE bX dP (fv 3) (bY (aA (fv 5) aG))))
  (aF (bF (PW.pt (eR (aS (bI hr.units) s_eq (fv 5) (DN T.i_MOST_IN_LIST)) (eR (aS (bI hr.units) s_eq (fv 4) (DN T.i_MOST_IN_PROCEDURE)) (pw_or1 (dR (cX (aN (Ag T) hr tk (aA (fv 6) (aA (fv 1) (aA (fv 2) aG))) (by omega)))))))) (aH (aM (bY (aA (fv 7) (aA (fv 4) aG))))) aO)
  (aF (IT (k := 4) nd rfl (.inl rfl) fI)
  (aH (fL (t := (.tp [8, 9])) (passes_of rfl) rfl (wA (by rfl) T.n_enumerate (aN (jZ T) hr tk (aA (fv 6) aG) (by omega))) (pg_tup rfl (pgs_cons (pg_name (i := 8) nd rfl (.inl rfl)) (pgs_cons (pg_name (i := 9) nd rfl (.inl rfl)) pgs_nil))) (dF [8, 9, 10] (aF (Ax (t := (.tp [10, 4])) (aN ih_first_fault hr tk (aA (fv 9) (aA (cE bX dP (fv 1) fI) (aA (fv 2) (aA (cE bX dP (fv 7) (bY (aA (fv 8) aG))) (aA (fv 4) aG))))) (by omega)) (pg_tup rfl (pgs_cons (pg_name (i := 10) nd rfl (.inl rfl)) (pgs_cons (pg_name (i := 4) nd rfl (.inl rfl)) pgs_nil))))
  (aH (bF (aS Ad FH (fv 10) fN) (aH (aM (bY (aA (fv 10) (aA (fv 4) aG))))) aO)))))))))))
  (aH (aM (bY (aA fN (aA (fv 4) aG))))))
theorem zS (T : Txt P w K mg) : kW P w K mg base 2 "statement_at" ["body", "path"] (spF K kD) :=
 eU (k := 1) T.f_statement_at T.G_statement_at zO (Runs.plain (n := 6) (np := 2)) (fun _ _ _ _ _ _ us hl => match us, hl with | [_, _], _ => rfl) fun _ _ _ _ _ _ hr tk nd => by
  unfold kP eS;exact (aF (bF (PW.pt (eR (dR (cX (fO (T := "tuple") T.n_isinstance T.n_tuple (fv 1)))) (pw_or1 (aS (bI hr.units) s_eq (cE iC pS (dU T.n_len (fv 1)) fI) fI)))) (aH (aM fN)) aO)
  (aF (aT (i := 2) nd rfl (.inl rfl) fN)
  (aF (aT (i := 3) nd rfl (.inl rfl) (fv 0))
  (aF (fL (t := (.tp [4, 5])) (passes_of rfl) rfl (Ed (by rfl) T.n_enumerate (fv 1)) (pg_tup rfl (pgs_cons (pg_name (i := 4) nd rfl (.inl rfl)) (pgs_cons (pg_name (i := 5) nd rfl (.inl rfl)) pgs_nil))) (dF [4, 5] (aF (bF (PW.pt (eR (dR (cX (aN (gU T) hr tk (aA (fv 5) aG)))) (pw_or1 (dR (vY nP AQ hI rV fI (fv 5) (dU T.n_len (fv 3))))))) (aH (aM fN)) aO)
  (aH (bF (aS (bI hr.units) s_eq (cE iC pS (fv 4) fI) fI) (aF (aT (i := 2) nd rfl (.inl rfl) (bR (fv 3) (fv 5)))
  (aH (aT (i := 3) nd rfl (.inl rfl) (aN (jZ T) hr tk (aA (fv 2) aG))))) (aH (aT (i := 3) nd rfl (.inl rfl) (bR (fv 3) (fv 5)))))))))
  (aH (aM (fv 2)))))))
theorem Cz (T : Txt P w K mg) : OkMX P w K mg base 23 "Book" "__init__" ["self", "bodies"] (spF K jL) :=
 Ah (k := 22) T.f_Book_init T.M_Book_init Cq (Runs.plain (n := 6) (np := 2)) (fun _ _ _ _ _ _ us hl => match us, hl with | [_, _], _ => rfl) fun _ _ _ _ _ _ hr tk nd => by
  unfold pE dO;exact (aF (bF (PW.pt (eR (dR (cX (fO (T := "list") T.n_isinstance T.n_list (fv 1)))) (pw_or1 (dR (vY nP AQ nP AQ fI (dU T.n_len (fv 1)) (DN T.i_MOST_PROCEDURES)))))) (aH (xV (xa_NoBook T) hr tk (aA (tX fI) (aA (bY aG) aG)))) aO)
  (aF (fL (t := (.tp [2, 3])) (passes_of rfl) rfl (wA (by rfl) T.n_enumerate (fv 1)) (pg_tup rfl (pgs_cons (pg_name (i := 2) nd rfl (.inl rfl)) (pgs_cons (pg_name (i := 3) nd rfl (.inl rfl)) pgs_nil))) (dF [2, 3, 4, 5] (aF (bF (dR (cX (fO (T := "list") T.n_isinstance T.n_list (fv 3)))) (aH (xV (xa_NoBook T) hr tk (aA (fv 2) (aA (bY aG) aG)))) aO)
  (aF (Ax (t := (.tp [4, 5])) (aN (sF T 10) hr tk (aA (fv 3) (aA fI (aA (dU T.n_len (fv 1)) (aA (bY aG) (aA fI aG)))))) (pg_tup rfl (pgs_cons (pg_name (i := 4) nd rfl (.inl rfl)) (pgs_cons (pg_name (i := 5) nd rfl (.inl rfl)) pgs_nil))))
  (aH (bF (aS Ad FH (fv 4) fN) (aH (xV (xa_NoBook T) hr tk (aA (fv 2) (aA (fv 4) aG)))) aO))))))
  (aH (H8 T.c_Book T.a_Book_own (fv 0) (sL (own := [("body", 3)]) (t := (.nm 3)) rfl nd (eV (fv 1)) (blkOk_by (own := [("body", 3)]) (N := ["self", "bodies", "procedure", "body", "fault", "met"]) (sc := defScope jJ) (by decide +kernel)) (fun _ _ _ _ _ => (pg_name (i := 3) nd rfl (.inl rfl))) (fun _ _ _ _ _ => eK) (fun _ _ _ _ _ => (aN (qY T 20) hr takes0 (aA (fv 3) aG))))))))
theorem yT (T : Txt P w K mg) : OkMX P w K mg base 1 "Book" "__len__" ["self"] (spF K lM) :=
 Ah (k := 0) T.f_Book_len T.M_Book_len E6 (Runs.plain (n := 1) (np := 1)) (fun _ _ _ _ _ _ us hl => match us, hl with | [_], _ => rfl) fun _ _ _ _ _ _ hr tk nd => by
  unfold qU;exact (aH (aM (dU T.n_len (Ee T.c_Book T.a_Book_own (fv 0)))))
theorem sG (T : Txt P w K mg) : OkMX P w K mg base 23 "Book" "bodies" ["self"] (spF K gV) :=
 Ah (k := 22) T.f_Book_bodies T.M_Book_bodies AO (Runs.plain (n := 2) (np := 1)) (fun _ _ _ _ _ _ us hl => match us, hl with | [_], _ => rfl) fun _ _ _ _ _ _ hr tk nd => by
  unfold lY;exact (aH (aM (sL (own := [("body", 1)]) (t := (.nm 1)) rfl nd (eV (Ee T.c_Book T.a_Book_own (fv 0))) (blkOk_by (own := [("body", 1)]) (N := ["self", "body"]) (sc := defScope gS) (by decide +kernel)) (fun _ _ _ _ _ => (pg_name (i := 1) nd rfl (.inl rfl))) (fun _ _ _ _ _ => eK) (fun _ _ _ _ _ => (aN (qY T 20) hr takes0 (aA (fv 1) aG))))))
theorem xP (T : Txt P w K mg) : kW P w K mg base 3 "has_procedure" ["book", "procedure"] (spF K jA) :=
 eU (k := 2) T.f_has_procedure T.G_has_procedure xJ (Runs.plain (n := 2) (np := 2)) (fun _ _ _ _ _ _ us hl => match us, hl with | [_, _], _ => rfl) fun _ _ _ _ _ _ hr tk nd => by
  unfold jC;exact (aH (aM (gX (aN (gU T) hr tk (aA (fv 1) aG)) (pe_one (AC nP AQ hI rV fI (fv 1) (Ke T.n_len (yT T) hr (fv 0)))))))
theorem Cw (T : Txt P w K mg) : kW P w K mg base 2 "is_matrix" ["value"] (spF K yU) :=
 eU (k := 1) T.f_is_matrix T.G_is_matrix Ck (Runs.plain (n := 2) (np := 1)) (fun _ _ _ _ _ _ us hl => match us, hl with | [_], _ => rfl) fun _ _ _ _ _ _ hr tk nd => by
  unfold zJ;exact (aH (aM (gX (fO (T := "list") T.n_isinstance T.n_list (fv 0)) (gX (lD (bI hr.units) s_eq (dU T.n_len (fv 0)) fI) (pe_one (HD T.n_all (sL (own := [("number", 1)]) (t := (.nm 1)) rfl nd (eV (fv 0)) (blkOk_by (own := [("number", 1)]) (N := ["value", "number"]) (sc := defScope oH) (by decide +kernel)) (fun _ _ _ _ _ => (pg_name (i := 1) nd rfl (.inl rfl))) (fun _ _ _ _ _ => eK) (fun _ _ _ _ _ => (aN (gU T) hr takes0 (aA (fv 1) aG))))))))))
theorem pT (T : Txt P w K mg) : kW P w K mg base 1 "pivot" ["row"] (spF K qH) :=
 eU (k := 0) T.f_pivot T.G_pivot JG (Runs.plain (n := 3) (np := 1)) (fun _ _ _ _ _ _ us hl => match us, hl with | [_], _ => rfl) fun _ _ _ _ _ _ hr tk nd => by
  unfold HL Bm;exact (aF (fL (t := (.tp [1, 2])) (passes_of rfl) rfl (wA (by rfl) T.n_enumerate (fv 0)) (pg_tup rfl (pgs_cons (pg_name (i := 1) nd rfl (.inl rfl)) (pgs_cons (pg_name (i := 2) nd rfl (.inl rfl)) pgs_nil))) (dF [1, 2] (aH (bF (aS (iS hr.units) tN (fv 2) fI) (aH (aM (fv 1))) aO))))
  (aH (aM (dU T.n_len (fv 0)))))
theorem oM (T : Txt P w K mg) : kW P w K mg base 34 "common_divisor" ["row"] (spF K lK) :=
 eU (k := 33) T.f_common_divisor T.G_common_divisor vB (Runs.plain (n := 3) (np := 1)) (fun _ _ _ _ _ _ us hl => match us, hl with | [_], _ => rfl) fun _ _ _ _ _ _ hr tk nd => by
  unfold qA nJ nK;exact (aF (aT (i := 1) nd rfl (.inl rfl) fI)
  (aF (fL (t := (.nm 2)) (passes_of rfl) rfl (eV (fv 0)) (pg_name (i := 2) nd rfl (.inl rfl)) (dF [2] (aH (KS (k := 1000000) (passes_of rfl) (aS (iS hr.units) tN (fv 2) fI) (aH (Pd (i := 1) (j := 2) (by rfl) nd rfl rfl (by decide) rfl rfl (fv 2) (cE JY O6 (fv 1) (fv 2)) (by rfl)))))))
  (aH (aM (f_abs T.n_abs (fv 1))))))
theorem vK (T : Txt P w K mg) : kW P w K mg base 35 "primitive" ["row"] (spF K sH) :=
 eU (k := 34) T.f_primitive T.G_primitive vA (Runs.plain (n := 4) (np := 1)) (fun _ _ _ _ _ _ us hl => match us, hl with | [_], _ => rfl) fun _ _ _ _ _ _ hr tk nd => by
  unfold zI;exact (aF (aT (i := 1) nd rfl (.inl rfl) (aN (pT T) hr tk (aA (fv 0) aG)))
  (aF (bF (aS (bI hr.units) s_eq (fv 1) (dU T.n_len (fv 0))) (aH (aM (fv 0))) aO)
  (aF (aT (i := 2) nd rfl (.inr rfl) (aN (oM T) hr tk (aA (fv 0) aG)))
  (aF (bF (aS hI rV (bR (fv 0) (fv 1)) fI) (aH (aT (i := 2) nd rfl (.inr rfl) (tX (fv 2)))) aO)
  (aH (aM (sL (own := [("number", 3)]) (t := (.nm 3)) rfl nd (eV (fv 0)) (blkOk_by (own := [("number", 3)]) (N := ["row", "at", "divisor", "number"]) (sc := defScope oG) (by decide +kernel)) (fun _ _ _ _ _ => (pg_name (i := 3) nd rfl (.inl rfl))) (fun _ _ _ _ _ => eK) (fun _ _ _ _ _ => (cE (op_fdivN T.sk T.tree (F8 vA) hr) Cs (fv 3) (fv 2))))))))))
theorem FW (T : Txt P w K mg) : kW P w K mg base 36 "cleared" ["row", "base"] (spF K C2) :=
 eU (k := 35) T.f_cleared T.G_cleared FC (Runs.plain (n := 7) (np := 2)) (fun _ _ _ _ _ _ us hl => match us, hl with | [_, _], _ => rfl) fun _ _ _ _ _ _ hr tk nd => by
  unfold CZ zA;exact (aF (aT (i := 2) nd rfl (.inl rfl) (aN (pT T) hr tk (aA (fv 1) aG)))
  (aF (aT (i := 3) nd rfl (.inr rfl) (bR (fv 0) (fv 2)))
  (aF (bF (aS (bI hr.units) s_eq (fv 3) fI) (aH (aM (fv 0))) aO)
  (aF (aT (i := 4) nd rfl (.inr rfl) (bR (fv 1) (fv 2)))
  (aH (aM (aN (vK T) hr tk (aA (sL (own := [("a", 5), ("b", 6)]) (t := (.tp [5, 6])) rfl nd (KY (by rfl) T.n_zip (fv 0) (fv 1)) (blkOk_by (own := [("a", 5), ("b", 6)]) (N := ["row", "base", "at", "factor", "scale", "a", "b"]) (sc := defScope sY) (by decide +kernel)) (fun _ _ _ _ _ => (pg_tup rfl (pgs_cons (pg_name (i := 5) nd rfl (.inl rfl)) (pgs_cons (pg_name (i := 6) nd rfl (.inl rfl)) pgs_nil)))) (fun _ _ _ _ _ => eK) (fun _ _ _ _ _ => (cE fR mT (cE lR tV (fv 4) (fv 5)) (cE lR tV (fv 3) (fv 6))))) aG))))))))
theorem FV (T : Txt P w K mg) : kW P w K mg base 35 "reduced" ["basis", "row"] (spF K C1) :=
 eU (k := 34) T.f_reduced T.G_reduced uI (Runs.plain (n := 10) (np := 2)) (fun _ _ _ _ _ _ us hl => match us, hl with | [_, _], _ => rfl) fun _ _ _ _ _ _ hr tk nd => by
  unfold CY yJ yK;exact (aF (aT (i := 2) nd rfl (.inr rfl) fI)
  (aF (fL (t := (.nm 3)) (passes_of rfl) rfl (eV (fv 0)) (pg_name (i := 3) nd rfl (.inl rfl)) (aF (aT (i := 4) nd rfl (.inl rfl) (aN (pT T) hr tk (aA (fv 3) aG)))
  (aH (bF (aS (iS hr.units) tN (bR (fv 1) (fv 4)) fI) (aH (aT (i := 2) nd rfl (.inr rfl) (cE (op_fdivN T.sk T.tree (F8 uI) hr) Cs (cE lR tV (fv 2) (bR (fv 3) (fv 4))) (aN (oM T) hr tk (aA (cD (aA (fv 2) (aA (bR (fv 3) (fv 4)) aG))) aG))))) aO))))
  (aF (Ea (i := 5) (own := [("number", 7)]) (t := (.nm 7)) rfl nd rfl rfl (sw_true rfl rfl rfl (by decide +kernel)) (eV (fv 1)) (blkOk_by (own := [("number", 7)]) (N := ["basis", "row", "multiple", "base", "at", "rest", "factor", "number", "a", "b"]) (sc := defScope pR) (by decide +kernel)) (fun _ _ _ _ _ => (pg_name (i := 7) nd rfl (.inl rfl))) (fun _ _ _ _ _ => eK) (fun _ _ _ _ _ => (cE lR tV (fv 2) (fv 7))))
  (aF (fL (t := (.nm 3)) (passes_of rfl) rfl (eV (fv 0)) (pg_name (i := 3) nd rfl (.inl rfl)) (dF [6] (aF (aT (i := 4) nd rfl (.inl rfl) (aN (pT T) hr tk (aA (fv 3) aG)))
  (aF (aT (i := 6) nd rfl (.inr rfl) (cE lR tV (cE (op_fdivN T.sk T.tree (F8 uI) hr) Cs (fv 2) (bR (fv 3) (fv 4))) (bR (fv 1) (fv 4))))
  (aH (bF (aS (iS hr.units) tN (fv 6) fI) (aH (Ea (i := 5) (own := [("a", 8), ("b", 9)]) (t := (.tp [8, 9])) rfl nd rfl rfl (sw_true rfl rfl rfl (by decide +kernel)) (KY (by rfl) T.n_zip (fv 5) (fv 3)) (blkOk_by (own := [("a", 8), ("b", 9)]) (N := ["basis", "row", "multiple", "base", "at", "rest", "factor", "number", "a", "b"]) (sc := defScope pR) (by decide +kernel)) (fun _ _ _ _ _ => (pg_tup rfl (pgs_cons (pg_name (i := 8) nd rfl (.inl rfl)) (pgs_cons (pg_name (i := 9) nd rfl (.inl rfl)) pgs_nil)))) (fun _ _ _ _ _ => eK) (fun _ _ _ _ _ => (cE fR mT (fv 8) (cE lR tV (fv 6) (fv 9)))))) aO))))))
  (aH (aM (fv 5)))))))
theorem EB (T : Txt P w K mg) : kW P w K mg base 37 "with_row" ["basis", "row"] (spF K Aj) :=
 eU (k := 36) T.f_with_row T.G_with_row Dx (Runs.plain (n := 4) (np := 2)) (fun _ _ _ _ _ _ us hl => match us, hl with | [_, _], _ => rfl) fun _ _ _ _ _ _ hr tk nd => by
  unfold BG;exact (aF (aT (i := 2) nd rfl (.inr rfl) (aN (vK T) hr tk (aA (aN (FV T) hr tk (aA (fv 0) (aA (fv 1) aG))) aG)))
  (aF (bF (aS (bI hr.units) s_eq (aN (pT T) hr tk (aA (fv 2) aG)) (dU T.n_len (fv 2))) (aH (aM (fv 0))) aO)
  (aH (aM (Mp T.n_sorted (pT T) hr T.G_pivot (cE bX dP (sL (own := [("base", 3)]) (t := (.nm 3)) rfl nd (eV (fv 0)) (blkOk_by (own := [("base", 3)]) (N := ["basis", "row", "rest", "base"]) (sc := defScope qB) (by decide +kernel)) (fun _ _ _ _ _ => (pg_name (i := 3) nd rfl (.inl rfl))) (fun _ _ _ _ _ => eK) (fun _ _ _ _ _ => (aN (FW T) hr takes0 (aA (fv 3) (aA (fv 2) aG))))) (cD (aA (fv 2) aG))))))))
theorem tW (T : Txt P w K mg) : OkMX P w K mg base 38 "Space" "__init__" ["self", "rows"] (spF K eF) :=
 Ah (k := 37) T.f_Space_init T.M_Space_init BZ (Runs.plain (n := 5) (np := 2)) (fun _ _ _ _ _ _ us hl => match us, hl with | [_, _], _ => rfl) fun _ _ _ _ _ _ hr tk nd => by
  unfold nE rQ rR;exact (aF (bF (dR (cX (fO (T := "list") T.n_isinstance T.n_list (fv 1)))) (aH (CC (xa_NoRows T) hr tk (aA (tX fI) aG))) aO)
  (aF (fL (t := (.tp [2, 3])) (passes_of rfl) rfl (wA (by rfl) T.n_enumerate (fv 1)) (pg_tup rfl (pgs_cons (pg_name (i := 2) nd rfl (.inl rfl)) (pgs_cons (pg_name (i := 3) nd rfl (.inl rfl)) pgs_nil))) (dF [2] (aH (bF (dR (cX (aN (Cw T) hr tk (aA (fv 3) aG)))) (aH (CC (xa_NoRows T) hr tk (aA (fv 2) aG))) aO))))
  (aF (aT (i := 4) nd rfl (.inl rfl) (cD aG))
  (aF (fL (t := (.nm 3)) (passes_of rfl) rfl (eV (fv 1)) (pg_name (i := 3) nd rfl (.inl rfl)) (aH (aT (i := 4) nd rfl (.inl rfl) (aN (EB T) hr tk (aA (fv 4) (aA (fv 3) aG))))))
  (aH (H8 T.c_Space T.a_Space_basis (fv 0) (fv 4)))))))
theorem Hv (T : Txt P w K mg) : kW P w K mg base 1 "_law_pool" ["_law_script"] (spF K vR) :=
 eU (k := 0) T.f_L_pool T.G_L_pool Hj (Runs.plain (n := 2) (np := 1)) (fun _ _ _ _ _ _ us hl => match us, hl with | [_], _ => rfl) fun _ _ _ _ _ _ hr tk nd => by
  unfold wR;exact (aH (aM (cE bX dP (cD (aA fI aG)) (Pg (sL (own := [("_law_cell", 1)]) (t := (.nm 1)) rfl nd (eV (G1 (fv 0) oS (oR fI))) (blkOk_by (own := [("_law_cell", 1)]) (N := ["_law_script", "_law_cell"]) (sc := defScope vG) (by decide +kernel)) (fun _ _ _ _ _ => (pg_name (i := 1) nd rfl (.inl rfl))) (fun _ _ _ _ _ => eK) (fun _ _ _ _ _ => (xW T.n_int (fv 1)))) (pe_one (cD (aA fI aG)))))))
theorem bO (T : Txt P w K mg) : kW P w K mg base 1 "_law_draw" ["_law_pool_here", "_law_many"] (spF K bE) :=
 eU (k := 0) T.f_L_draw T.G_L_draw Hl (Runs.plain (n := 5) (np := 2)) (fun _ _ _ _ _ _ us hl => match us, hl with | [_, _], _ => rfl) fun _ _ _ _ _ _ hr tk nd => by
  unfold wV;exact (aF (Fy (fv 0) fI fI)
  (aF (aT (i := 2) nd rfl (.inl rfl) (cE bX dP fI (cE iC pS (xW T.n_int (bR (fv 0) fI)) (cE fR mT (dU T.n_len (fv 0)) fI))))
  (aF (aT (i := 3) nd rfl (.inl rfl) (xW T.n_int (bR (fv 0) (fv 2))))
  (aF (bF (aS FU O9 (fv 3) (cE Lj s_pow fI fI)) (aF (H7 (cE sE AS (fv 3) (fv 1)) (fv 0) (fv 2))
  (aH (aM (cE iC pS (fv 3) (fv 1))))) aO)
  (aF (aT (i := 4) nd rfl (.inl rfl) (cE iC pS (cE lR tV (xW T.n_int (cE bX dP (cE bX dP (fv 3) (cE lR tV fI (bR (fv 0) fI))) fI)) fI) fI))
  (aF (aT (i := 4) nd rfl (.inl rfl) (cE iC pS (cE lR tV (fv 4) (cE bX dP (cE sE AS (fv 4) fI) fI)) fI))
  (aF (aT (i := 4) nd rfl (.inl rfl) (cE iC pS (cE lR tV (fv 4) (cE bX dP (cE sE AS (fv 4) fI) fI)) fI))
  (aH (aM (cE iC pS (cE sE AS (fv 4) fI) (fv 1)))))))))))
theorem qG (T : Txt P w K mg) : kW P w K mg base 2 "_law_command" ["_law_pool_here", "_law_mood"] (spF K hQ) :=
 eU (k := 1) T.f_L_command T.G_L_command Co (Runs.plain (n := 6) (np := 2)) (fun _ _ _ _ _ _ us hl => match us, hl with | [_, _], _ => rfl) fun _ _ _ _ _ _ hr tk nd => by
  unfold pC;exact (aF (aT (i := 2) nd rfl (.inl rfl) (cD (aA (cD (aA fI (aA fI (aA fI (aA fI (aA fI aG)))))) (aA (cD (aA fI (aA fI (aA fI (aA fI (aA fI aG)))))) (aA (cD (aA fI (aA fI (aA fI (aA fI (aA fI aG)))))) (aA (cD (aA fI (aA fI (aA fI (aA fI (aA fI aG)))))) (aA (cD (aA fI (aA fI (aA fI (aA fI (aA fI aG)))))) aG)))))))
  (aF (aT (i := 2) nd rfl (.inl rfl) (cE bX dP (fv 2) (cD (aA (cD (aA fI (aA fI (aA fI (aA fI (aA fI (aA fI (aA fI (aA fI (aA fI aG)))))))))) (aA (cD (aA fI (aA fI (aA fI (aA fI (aA fI aG)))))) (aA (cD (aA fI (aA fI (aA fI (aA fI (aA fI aG)))))) aG))))))
  (aF (aT (i := 3) nd rfl (.inl rfl) (bR (fv 2) (fv 1)))
  (aF (aT (i := 4) nd rfl (.inl rfl) (bR (fv 3) (aN (bO T) hr tk (aA (fv 0) (aA (dU T.n_len (fv 3)) aG)))))
  (aF (bF (aS (bI hr.units) s_eq (fv 4) fI) (aF (aT (i := 5) nd rfl (.inl rfl) (cE fR mT (aN (bO T) hr tk (aA (fv 0) (aA fI aG))) fI))
  (aH (aM (bY (aA fS (aA (bR (cD (aA (fv 5) (aA fI (aA (cE fR mT (cE iC pS (xW T.n_int (fv 5)) fI) fI) (aA fI aG))))) (aN (bO T) hr tk (aA (fv 0) (aA fI aG)))) aG)))))) aO)
  (aF (bF (aS (bI hr.units) s_eq (fv 4) fI) (aH (aM (bY (aA fS (aA (cE bX dP fI (aN (bO T) hr tk (aA (fv 0) (aA fI aG)))) aG))))) aO)
  (aF (bF (aS (bI hr.units) s_eq (fv 4) fI) (aH (aM (bY (aA fS aG)))) aO)
  (aF (bF (aS (bI hr.units) s_eq (fv 4) fI) (aH (aM (bY (aA fS (aA (bR (bY (aA (tX fI) (aA (tX fI) (aA (tX fI) (aA fI (aA fI (aA fI (aA fI (aA (tX fI) aG))))))))) (aN (bO T) hr tk (aA (fv 0) (aA fI aG)))) aG))))) aO)
  (aF (bF (aS hI rV (fv 4) fI) (aH (aM (bY (aA (bR (bY (aA fS (aA fS aG))) (cE fR mT (fv 4) fI)) (aA (cE fR mT (aN (bO T) hr tk (aA (fv 0) (aA fI aG))) fI) (aA (cE fR mT (aN (bO T) hr tk (aA (fv 0) (aA fI aG))) fI) aG)))))) aO)
  (aH (aM (bY (aA (bR (bY (aA fS (aA fS (aA fS aG)))) (cE fR mT (fv 4) fI)) aG)))))))))))))
theorem By (T : Txt P w K mg) : kW P w K mg base 2 "_law_pair" ["_law_pool_here", "_law_mood"] (spF K pU) :=
 eU (k := 1) T.f_L_pair T.G_L_pair Hk (Runs.plain (n := 5) (np := 2)) (fun _ _ _ _ _ _ us hl => match us, hl with | [_, _], _ => rfl) fun _ _ _ _ _ _ hr tk nd => by
  unfold wU;exact (aF (aT (i := 2) nd rfl (.inl rfl) (cE bX dP fI (aN (bO T) hr tk (aA (fv 0) (aA fI aG)))))
  (aF (aT (i := 3) nd rfl (.inl rfl) (aN (bO T) hr tk (aA (fv 0) (aA fI aG))))
  (aF (bF (aS (bI hr.units) s_eq (fv 1) fI) (aH (aT (i := 3) nd rfl (.inl rfl) (cE bX dP fI (cE iC pS (fv 3) fI)))) aO)
  (aF (bF (aS (bI hr.units) s_eq (fv 1) fI) (aH (aT (i := 3) nd rfl (.inl rfl) fI)) aO)
  (aF (aT (i := 4) nd rfl (.inl rfl) (cD (aA (cD (aA (bY (aA fS (aA (fv 2) aG))) (aA (bY (aA fS (aA (tX (fv 2)) aG))) aG))) (aA (cD (aA (bY (aA fS (aA (fv 2) aG))) (aA (bY (aA fS (aA (cE fR mT fI (fv 2)) aG))) aG))) (aA (cD (aA (bY (aA fS aG)) (aA (bY (aA fS aG)) aG))) aG)))))
  (aH (aM (bR (cE bX dP (fv 4) (cD (aA (cD (aA (bY (aA fS aG)) (aA (bY (aA fS aG)) aG))) aG))) (fv 3)))))))))
theorem yP (T : Txt P w K mg) : ∀ n, (kW P w K mg base (2 + n + 1) "_law_block" ["_law_pool_here", "_law_mood", "_law_level", "_law_room", "_law_calls", "_law_low"] (spF K (tF n))) /\ (kW P w K mg base (2 + n + 1) "_law_piece" ["_law_pool_here", "_law_mood", "_law_level", "_law_room", "_law_calls", "_law_low"] (spF K (jK n)))
 | 0 => ⟨kB T.f_L_block T.G_L_block AN (fun _ _ _ _ _ _ us hl => match us, hl with | [_, _, _, _, _, _], _ => rfl), kB T.f_L_piece T.G_L_piece AM (fun _ _ _ _ _ _ us hl => match us, hl with | [_, _, _, _, _, _], _ => rfl)⟩
 | n + 1 => by
  have ih := yP T n;have ih_L_block := ih.1;have ih_L_piece := ih.2;refine ⟨?_, ?_⟩
  ·exact eU (k := 2 + n + 1) T.f_L_block T.G_L_block AN (Runs.plain (n := 8) (np := 6)) (fun _ _ _ _ _ _ us hl => match us, hl with | [_, _, _, _, _, _], _ => rfl) fun _ _ _ _ _ _ hr tk nd => by
    unfold tK jI;exact (aF (aT (i := 6) nd rfl (.inl rfl) (cD aG))
  (aF (fL (t := (.nm 7)) (passes_of rfl) rfl (lU (by rfl) T.n_range (aN (bO T) hr tk (aA (fv 0) (aA fI aG)) (by omega))) (pg_name (i := 7) nd rfl (.inl rfl)) (dF [7] (aH (bF (aS mO zR (bR (fv 3) fI) fI) (aH (aT (i := 6) nd rfl (.inl rfl) (cE bX dP (fv 6) (aN ih_L_piece hr tk (aA (fv 0) (aA (fv 1) (aA (fv 2) (aA (fv 3) (aA (fv 4) (aA (fv 5) aG)))))) (by omega))))) aO))))
  (aH (aM (fv 6)))))
  ·exact eU (k := 2 + n + 1) T.f_L_piece T.G_L_piece AM (Runs.plain (n := 12) (np := 6)) (fun _ _ _ _ _ _ us hl => match us, hl with | [_, _, _, _, _, _], _ => rfl) fun _ _ _ _ _ _ hr tk nd => by
    unfold tH;exact (aF (aT (i := 6) nd rfl (.inl rfl) (aN (bO T) hr tk (aA (fv 0) (aA fI aG)) (by omega)))
  (aF (bF (PW.pt (pK (aS mO zR (fv 6) fI) (pK (aS hI rV (fv 6) fI) (pw_and1 (aS mO zR (fv 2) fI))))) (aH (aT (i := 6) nd rfl (.inl rfl) (cE iC pS (fv 6) fI))) aO)
  (aF (bF (PW.pt (pK (aS (bI hr.units) s_eq (fv 6) fI) (pw_and1 (aS hI rV (bR (fv 3) fI) fI)))) (aH (aT (i := 6) nd rfl (.inl rfl) fI)) aO)
  (aF (bF (PW.pt (pK (aS mO zR (fv 6) fI) (pK (aS hI rV (fv 6) fI) (pw_and1 (PW.pt (eR (aS hI rV (bR (fv 4) fI) fI) (pw_or1 (aS FU O9 (fv 5) (bR (fv 4) fI))))))))) (aH (aT (i := 6) nd rfl (.inl rfl) fI)) aO)
  (aF (nU (fv 3) fI fI)
  (aF (bF (aS hI rV (fv 6) fI) (aH (aM (cD (aA (aN (qG T) hr tk (aA (fv 0) (aA (fv 1) aG)) (by omega)) aG)))) aO)
  (aF (bF (aS (bI hr.units) s_eq (fv 6) fI) (aF (nU (fv 3) fI fI)
  (aF (aT (i := 7) nd rfl (.inl rfl) (aN (By T) hr tk (aA (fv 0) (aA (fv 1) aG)) (by omega)))
  (aF (aT (i := 8) nd rfl (.inl rfl) (cD aG))
  (aF (bF (aS mO zR (bR (fv 3) fI) fI) (aH (aT (i := 8) nd rfl (.inl rfl) (aN ih_L_piece hr tk (aA (fv 0) (aA (fv 1) (aA (fv 2) (aA (fv 3) (aA (fv 4) (aA (fv 5) aG)))))) (by omega)))) aO)
  (aH (aM (cE bX dP (cE bX dP (G1 (fv 7) oS (oR fI)) (fv 8)) (G1 (fv 7) (oR fI) oS)))))))) aO)
  (aF (bF (aS hI rV (fv 6) fI) (aF (aT (i := 9) nd rfl (.inl rfl) (aN ih_L_block hr tk (aA (fv 0) (aA (fv 1) (aA (cE bX dP (fv 2) fI) (aA (fv 3) (aA (fv 4) (aA fI aG)))))) (by omega)))
  (aH (aM (cD (aA (bY (aA fS (aA (fv 9) (aA (aN ih_L_block hr tk (aA (fv 0) (aA (fv 1) (aA (cE bX dP (fv 2) fI) (aA (fv 3) (aA (fv 4) (aA (fv 5) aG)))))) (by omega)) aG)))) aG))))) aO)
  (aF (bF (aS (bI hr.units) s_eq (fv 6) fI) (aH (aM (cD (aA (bY (aA fS (aA (aN ih_L_block hr tk (aA (fv 0) (aA (fv 1) (aA (cE bX dP (fv 2) fI) (aA (fv 3) (aA (fv 4) (aA fI aG)))))) (by omega)) aG))) aG)))) aO)
  (aF (bF (aS (bI hr.units) s_eq (fv 6) fI) (aH (aM (cD (aA (bY (aA fS (aA (aN ih_L_block hr tk (aA (fv 0) (aA (fv 1) (aA (cE bX dP (fv 2) fI) (aA (fv 3) (aA (fv 4) (aA (fv 5) aG)))))) (by omega)) aG))) aG)))) aO)
  (aF (bF (aS mO zR (fv 6) fI) (aH (aM (cD (aA (bY (aA fS (aA (aN (bO T) hr tk (aA (fv 0) (aA fI aG)) (by omega)) aG))) aG)))) aO)
  (aF (nU (fv 4) fI fI)
  (aF (aT (i := 10) nd rfl (.inl rfl) (cE bX dP (fv 5) (aN (bO T) hr tk (aA (fv 0) (aA (cE fR mT (bR (fv 4) fI) (fv 5)) aG)) (by omega))))
  (aF (aT (i := 11) nd rfl (.inl rfl) (lD (bI hr.units) s_eq (aN (bO T) hr tk (aA (fv 0) (aA fI aG)) (by omega)) fI))
  (aF (aT (i := 9) nd rfl (.inl rfl) (aN ih_L_block hr tk (aA (fv 0) (aA (fv 1) (aA (cE bX dP (fv 2) fI) (aA (fv 3) (aA (fv 4) (aA (fv 5) aG)))))) (by omega)))
  (aH (aM (cD (aA (bY (aA fS (aA (fv 10) (aA (fv 11) (aA (cD (aA (fv 9) (aA (aN ih_L_block hr tk (aA (fv 0) (aA (fv 1) (aA (cE bX dP (fv 2) fI) (aA (fv 3) (aA (fv 4) (aA (fv 5) aG)))))) (by omega)) aG))) aG))))) aG)))))))))))))))))))
theorem FX (T : Txt P w K mg) (n : Nat) : kW P w K mg base (2 + n + 1) "_law_piece" ["_law_pool_here", "_law_mood", "_law_level", "_law_room", "_law_calls", "_law_low"] (spF K (jK n)) := (yP T n).2
theorem ED (T : Txt P w K mg) : kW P w K mg base 3 "_law_around" ["_law_pool_here", "_law_mood", "_law_room", "_law_calls"] (spF K qJ) :=
 eU (k := 2) T.f_L_around T.G_L_around E5 (Runs.plain (n := 9) (np := 4)) (fun _ _ _ _ _ _ us hl => match us, hl with | [_, _, _, _], _ => rfl) fun _ _ _ _ _ _ hr tk nd => by
  unfold qT;exact (aF (nU (fv 2) fI fI)
  (aF (nU (fv 3) fI fI)
  (aF (aT (i := 4) nd rfl (.inl rfl) (aN (bO T) hr tk (aA (fv 0) (aA (bR (fv 3) fI) aG))))
  (aF (aT (i := 5) nd rfl (.inl rfl) (lD (bI hr.units) s_eq (aN (bO T) hr tk (aA (fv 0) (aA fI aG))) fI))
  (aF (aT (i := 6) nd rfl (.inl rfl) (aN (bO T) hr tk (aA (fv 0) (aA fI aG))))
  (aF (aT (i := 7) nd rfl (.inl rfl) (cD (aA (aN (qG T) hr tk (aA (fv 0) (aA (fv 1) aG))) (aA (aN (qG T) hr tk (aA (fv 0) (aA (fv 1) aG))) aG))))
  (aF (bF (aS (bI hr.units) s_eq (aN (bO T) hr tk (aA (fv 0) (aA fI aG))) fI) (aH (aT (i := 7) nd rfl (.inl rfl) (aN (By T) hr tk (aA (fv 0) (aA (fv 1) aG))))) aO)
  (aF (aT (i := 8) nd rfl (.inl rfl) (cD (aA (cD aG) (aA (cD (aA (bR (fv 7) fI) (aA (bY (aA fS (aA (fv 4) (aA (fv 5) (aA (cD (aA (cD aG) (aA (cD aG) aG))) aG))))) (aA (bR (fv 7) fI) aG)))) aG))))
  (aH (aM (cD (aA (bY (aA fS (aA (bR (fv 8) (fv 6)) (aA (bR (fv 8) (cE fR mT fI (fv 6))) aG)))) aG))))))))))))
theorem Hx (T : Txt P w K mg) : kW P w K mg base 34 "_law_body" ["_law_pool_here", "_law_mood", "_law_room", "_law_calls", "_law_low"] (spF K sI) :=
 eU (k := 33) T.f_L_body T.G_L_body Hn (Runs.plain (n := 9) (np := 5)) (fun _ _ _ _ _ _ us hl => match us, hl with | [_, _, _, _, _], _ => rfl) fun _ _ _ _ _ _ hr tk nd => by
  unfold wY jE;exact (aF (aT (i := 5) nd rfl (.inl rfl) (aN (bO T) hr tk (aA (fv 0) (aA fI aG))))
  (aF (aT (i := 6) nd rfl (.inl rfl) (cD aG))
  (aF (bF (PW.pt (pK (aS (bI hr.units) s_eq (aN (bO T) hr tk (aA (fv 0) (aA fI aG))) fI) (pK (aS mO zR (bR (fv 2) fI) fI) (pw_and1 (aS mO zR (bR (fv 3) fI) fI))))) (aH (aT (i := 6) nd rfl (.inl rfl) (aN (ED T) hr tk (aA (fv 0) (aA (fv 1) (aA (fv 2) (aA (fv 3) aG))))))) aO)
  (aF (fL (t := (.nm 7)) (passes_of rfl) rfl (lU (by rfl) T.n_range (cE bX dP fI (aN (bO T) hr tk (aA (fv 0) (aA fI aG))))) (pg_name (i := 7) nd rfl (.inl rfl)) (dF [7] (aH (bF (aS mO zR (bR (fv 2) fI) fI) (aH (aT (i := 6) nd rfl (.inl rfl) (cE bX dP (fv 6) (aN (FX T 30) hr tk (aA (fv 0) (aA (fv 1) (aA fI (aA (fv 2) (aA (fv 3) (aA (fv 4) aG)))))))))) aO))))
  (aF (aT (i := 8) nd rfl (.inl rfl) (cD (aA (cD (aA (bY (aA fS (aA (cD (aA (bY (aA fS (aA fI aG))) aG)) (aA (cD aG) aG)))) aG)) (aA (cD (aA (bY (aA fS (aA fI aG))) aG)) aG))))
  (aF (bF (PW.pt (eR (aS (bI hr.units) s_eq (fv 5) fI) (pw_or1 (aS (bI hr.units) s_eq (fv 5) fI)))) (aH (aM (cE bX dP (fv 6) (bR (fv 8) (cE sE AS (fv 5) fI))))) aO)
  (aF (bF (aS (bI hr.units) s_eq (fv 5) fI) (aH (aM (cE bX dP (bR (fv 8) fI) (fv 6)))) aO)
  (aH (aM (fv 6))))))))))
theorem Hw (T : Txt P w K mg) : kW P w K mg base 35 "_law_book" ["_law_pool_here", "_law_most", "_law_size"] (spF K vS) :=
 eU (k := 34) T.f_L_book T.G_L_book Hm (Runs.cut (n := 11) (np := 3)) (fun _ _ _ _ _ _ us hl => match us, hl with | [_, _, _], _ => rfl) fun _ _ _ _ _ _ hr tk nd => by
  unfold wX lF;exact (aF (aT (i := 3) nd rfl (.inl rfl) (aN (bO T) hr tk (aA (fv 0) (aA fI aG))))
  (aF (aT (i := 4) nd rfl (.inl rfl) (lD (bI hr.units) s_eq (aN (bO T) hr tk (aA (fv 0) (aA fI aG))) fI))
  (aF (aT (i := 5) nd rfl (.inl rfl) (cE bX dP fI (aN (bO T) hr tk (aA (fv 0) (aA (fv 1) aG)))))
  (aF (aT (i := 6) nd rfl (.inl rfl) (cD (aA fI (aA (fv 5) aG))))
  (aF (aT (i := 7) nd rfl (.inl rfl) (cD aG))
  (aF (fL (t := (.nm 8)) (passes_of rfl) rfl (lU (by rfl) T.n_range (fv 5)) (pg_name (i := 8) nd rfl (.inl rfl)) (dF [8, 9, 10] (aF (aT (i := 9) nd rfl (.inl rfl) (cD (aA (cE fR mT (cE fR mT (fv 2) fI) (xW T.n_int (lD mO zR (fv 5) fI))) aG)))
  (aF (aT (i := 10) nd rfl (.inl rfl) (cE bX dP (fv 8) fI))
  (aF (bF (cX (fv 4)) (aH (aT (i := 10) nd rfl (.inl rfl) fI)) aO)
  (aH (AA (Ki (fv 7) (aN (Hx T) hr tk (aA (fv 0) (aA (fv 3) (aA (fv 9) (aA (fv 6) (aA (fv 10) aG))))))))))))))
  (aH (aM (HC (fv 7))))))))))
theorem yS (T : Txt P w K mg) : kW P w K mg base 1 "_law_blocks" ["_law_statement"] (spF K lL) :=
 eU (k := 0) T.f_L_blocks T.G_L_blocks Dz (Runs.plain (n := 2) (np := 1)) (fun _ _ _ _ _ _ us hl => match us, hl with | [_], _ => rfl) fun _ _ _ _ _ _ hr tk nd => by
  unfold qS;exact (aF (bF (aS (bI hr.units) s_eq (bR (fv 0) fI) fS) (aH (aM (Kd T.n_list (bR (fv 0) fI)))) aO)
  (aH (aM (sL (own := [("_law_item", 1)]) (t := (.nm 1)) rfl nd (eV (G1 (fv 0) (oR fI) oS)) (blkOk_by (own := [("_law_item", 1)]) (N := ["_law_statement", "_law_item"]) (sc := defScope qF) (by decide +kernel)) (fun _ _ _ _ _ => (pg_name (i := 1) nd rfl (.inl rfl))) (fun _ _ _ _ _ => (H6 (cX (fO (T := "list") T.n_isinstance T.n_list (fv 1))))) (fun _ _ _ _ _ => (fv 1))))))
theorem Hu (T : Txt P w K mg) : kW P w K mg base 1 "_law_with" ["_law_statement", "_law_blocks_here"] (spF K vQ) :=
 eU (k := 0) T.f_L_with T.G_L_with Hi (Runs.plain (n := 2) (np := 2)) (fun _ _ _ _ _ _ us hl => match us, hl with | [_, _], _ => rfl) fun _ _ _ _ _ _ hr tk nd => by
  unfold wO;exact (aF (bF (aS (bI hr.units) s_eq (bR (fv 0) fI) fS) (aH (aM (cE bX dP (G1 (fv 0) oS (oR fI)) (bY (aA (fv 1) aG))))) aO)
  (aF (bF (aS (bI hr.units) s_eq (dU T.n_len (fv 1)) fI) (aH (aM (fv 0))) aO)
  (aH (aM (cE bX dP (bY (aA (bR (fv 0) fI) aG)) (wB T.n_tuple (fv 1)))))))
theorem Bz (T : Txt P w K mg) : ∀ n, kW P w K mg base (1 + n + 1) "_law_copy" ["_law_block_here"] (spF K (pV n))
 | 0 => kB T.f_L_copy T.G_L_copy Bq (fun _ _ _ _ _ _ us hl => match us, hl with | [_], _ => rfl)
 | n + 1 => by
  have ih_L_copy := Bz T n;exact eU (k := 1 + n + 1) T.f_L_copy T.G_L_copy Bq (Runs.plain (n := 3) (np := 1)) (fun _ _ _ _ _ _ us hl => match us, hl with | [_], _ => rfl) fun _ _ _ _ _ _ hr tk nd => by
   unfold wW uQ;exact (aH (aM (sL (own := [("_law_row", 1)]) (t := (.nm 1)) rfl nd (eV (fv 0)) (blkOk_by (own := [("_law_row", 1)]) (N := ["_law_block_here", "_law_row", "_law_inner"]) (sc := defScope vH) (by decide +kernel)) (fun _ _ _ _ _ => (pg_name (i := 1) nd rfl (.inl rfl))) (fun _ _ _ _ _ => eK) (fun _ _ _ _ _ => (aN (Hu T) hr takes0 (aA (fv 1) (aA (sL (own := [("_law_inner", 2)]) (t := (.nm 2)) rfl nd (eV (aN (yS T) hr takes0 (aA (fv 1) aG) (by omega))) (blkOk_by (own := [("_law_inner", 2)]) (N := ["_law_block_here", "_law_row", "_law_inner"]) (by kernel_rfl)) (fun _ _ _ _ _ => (pg_name (i := 2) nd rfl (.inl rfl))) (fun _ _ _ _ _ => eK) (fun _ _ _ _ _ => (aN ih_L_copy hr takes0 (aA (fv 2) aG) (by omega)))) aG)) (by omega))))))
theorem EC (T : Txt P w K mg) : kW P w K mg base 13 "_law_copies" ["_law_bodies"] (spF K qI) :=
 eU (k := 12) T.f_L_copies T.G_L_copies Dy (Runs.plain (n := 2) (np := 1)) (fun _ _ _ _ _ _ us hl => match us, hl with | [_], _ => rfl) fun _ _ _ _ _ _ hr tk nd => by
  unfold qR;exact (aH (aM (sL (own := [("_law_body_here", 1)]) (t := (.nm 1)) rfl nd (eV (fv 0)) (blkOk_by (own := [("_law_body_here", 1)]) (N := ["_law_bodies", "_law_body_here"]) (sc := defScope qE) (by decide +kernel)) (fun _ _ _ _ _ => (pg_name (i := 1) nd rfl (.inl rfl))) (fun _ _ _ _ _ => eK) (fun _ _ _ _ _ => (aN (Bz T 10) hr takes0 (aA (fv 1) aG))))))
theorem yR (T : Txt P w K mg) : ∀ n, kW P w K mg base (1 + n + 1) "_law_places" ["_law_block_here", "_law_path"] (spF K (cS n))
 | 0 => kB T.f_L_places T.G_L_places yN (fun _ _ _ _ _ _ us hl => match us, hl with | [_, _], _ => rfl)
 | n + 1 => by
  have ih_L_places := yR T n;exact eU (k := 1 + n + 1) T.f_L_places T.G_L_places yN (Runs.cut (n := 6) (np := 2)) (fun _ _ _ _ _ _ us hl => match us, hl with | [_, _], _ => rfl) fun _ _ _ _ _ _ hr tk nd => by
   unfold qQ eM eD;exact (aF (aT (i := 2) nd rfl (.inl rfl) (cD aG))
  (aF (fL (t := (.nm 3)) (passes_of rfl) rfl (lU (by rfl) T.n_range (dU T.n_len (fv 0))) (pg_name (i := 3) nd rfl (.inl rfl)) (dF [3, 4, 5] (aF (AA (Ki (fv 2) (bY (aA (cE bX dP (fv 1) (bY (aA (fv 3) aG))) (aA (bR (fv 0) (fv 3)) aG)))))
  (aF (aT (i := 4) nd rfl (.inl rfl) (aN (yS T) hr tk (aA (bR (fv 0) (fv 3)) aG) (by omega)))
  (aH (fL (t := (.nm 5)) (passes_of rfl) rfl (lU (by rfl) T.n_range (dU T.n_len (fv 4))) (pg_name (i := 5) nd rfl (.inl rfl)) (dF [5] (aH (aT (i := 2) nd rfl (.inl rfl) (cE bX dP (fv 2) (aN ih_L_places hr tk (aA (bR (fv 4) (fv 5)) (aA (cE bX dP (fv 1) (bY (aA (fv 3) (aA (fv 5) aG)))) aG)) (by omega))))))))))))
  (aH (aM (HC (fv 2))))))
theorem zT (T : Txt P w K mg) : kW P w K mg base 13 "_law_all_places" ["_law_bodies"] (spF K kF) :=
 eU (k := 12) T.f_L_all_places T.G_L_all_places zQ (Runs.cut (n := 4) (np := 1)) (fun _ _ _ _ _ _ us hl => match us, hl with | [_], _ => rfl) fun _ _ _ _ _ _ hr tk nd => by
  unfold kT fV fW;exact (aF (aT (i := 1) nd rfl (.inl rfl) (cD aG))
  (aF (fL (t := (.nm 2)) (passes_of rfl) rfl (lU (by rfl) T.n_range (dU T.n_len (fv 0))) (pg_name (i := 2) nd rfl (.inl rfl)) (dF [2, 3] (aH (fL (t := (.nm 3)) (passes_of rfl) rfl (eV (aN (yR T 10) hr tk (aA (bR (fv 0) (fv 2)) (aA (bY aG) aG)))) (pg_name (i := 3) nd rfl (.inl rfl)) (dF [3] (aH (AA (Ki (fv 1) (bY (aA (fv 2) (aA (bR (fv 3) fI) (aA (bR (fv 3) fI) aG))))))))))))
  (aH (aM (HC (fv 1))))))
theorem tA (T : Txt P w K mg) : ∀ n, kW P w K mg base (0 + n + 1) "_law_same" ["_law_one", "_law_other_here"] (spF K (kE n))
 | 0 => kB T.f_L_same T.G_L_same Bp (fun _ _ _ _ _ _ us hl => match us, hl with | [_, _], _ => rfl)
 | n + 1 => by
  have ih_L_same := tA T n;exact eU (k := 0 + n + 1) T.f_L_same T.G_L_same Bp (Runs.plain (n := 3) (np := 2)) (fun _ _ _ _ _ _ us hl => match us, hl with | [_, _], _ => rfl) fun _ _ _ _ _ _ hr tk nd => by
   unfold wQ qN;exact (aF (bF (cX (Kg (T := "list") (U := "tuple") T.n_isinstance T.n_list T.n_tuple (fv 0))) (aF (bF (PW.pt (eR (aS (iS hr.units) tN (fO (T := "list") T.n_isinstance T.n_list (fv 0)) (fO (T := "list") T.n_isinstance T.n_list (fv 1))) (pw_or1 (aS (iS hr.units) tN (fO (T := "tuple") T.n_isinstance T.n_tuple (fv 0)) (fO (T := "tuple") T.n_isinstance T.n_tuple (fv 1)))))) (aH (aM fB)) aO)
  (aH (aM (gX (lD (bI hr.units) s_eq (dU T.n_len (fv 0)) (dU T.n_len (fv 1))) (pe_one (HD T.n_all (sL (own := [("_law_k", 2)]) (t := (.nm 2)) rfl nd (lU (by rfl) T.n_range (dU T.n_len (fv 0))) (blkOk_by (own := [("_law_k", 2)]) (N := ["_law_one", "_law_other_here", "_law_k"]) (sc := defScope vF) (by decide +kernel)) (fun _ _ _ _ _ => (pg_name (i := 2) nd rfl (.inl rfl))) (fun _ _ _ _ _ => eK) (fun _ _ _ _ _ => (aN ih_L_same hr takes0 (aA (bR (fv 0) (fv 2)) (aA (bR (fv 1) (fv 2)) aG)) (by omega)))))))))) aO)
  (aF (bF (PW.pt (eR (cX (Kg (T := "list") (U := "tuple") T.n_isinstance T.n_list T.n_tuple (fv 1))) (pw_or1 (aS (iS hr.units) tN (fO (T := "bool") T.n_isinstance T.n_bool (fv 0)) (fO (T := "bool") T.n_isinstance T.n_bool (fv 1)))))) (aH (aM fB)) aO)
  (aH (aM (gX (lD (bI hr.units) s_eq (fO (T := "int") T.n_isinstance T.n_int (fv 0)) (fO (T := "int") T.n_isinstance T.n_int (fv 1))) (pe_one (lD (bI hr.units) s_eq (fv 0) (fv 1))))))))
theorem qX (T : Txt P w K mg) : kW P w K mg base 1 "is_integer" ["value"] (spF K hM) :=
 eU (k := 0) T.f_is_integer_s T.G_is_integer_s zP (Runs.plain (n := 1) (np := 1)) (fun _ _ _ _ _ _ us hl => match us, hl with | [_], _ => rfl) fun _ _ _ _ _ _ hr tk nd => by
  unfold kQ;exact (aH (aM (gX (kM (T := "int") T.I_Space T.kn_Space_int T.n_isinstance T.n_int (fv 0)) (pe_one (Fz (kM (T := "bool") T.I_Space T.kn_Space_bool T.n_isinstance T.n_bool (fv 0)))))))
theorem nQ (T : Txt P w K mg) : kW P w K mg base 3 "has_procedure" ["book", "procedure"] (spF K dQ) :=
 eU (k := 2) T.f_has_procedure_s T.G_has_procedure_s uJ (Runs.plain (n := 2) (np := 2)) (fun _ _ _ _ _ _ us hl => match us, hl with | [_, _], _ => rfl) fun _ _ _ _ _ _ hr tk nd => by
  unfold gZ;exact (aH (aM (gX (aN (qX T) hr tk (aA (fv 1) aG)) (pe_one (AC nP AQ hI rV fI (fv 1) (Ke T.n_len (yT T) hr (fv 0)))))))
theorem oL (T : Txt P w K mg) : kW P w K mg base 2 "statement_at" ["body", "path"] (spF K gB) :=
 eU (k := 1) T.f_statement_at_s T.G_statement_at_s uZ (Runs.plain (n := 6) (np := 2)) (fun _ _ _ _ _ _ us hl => match us, hl with | [_, _], _ => rfl) fun _ _ _ _ _ _ hr tk nd => by
  unfold iL bL;exact (aF (bF (PW.pt (eR (dR (cX (kM (T := "tuple") T.I_Space T.kn_Space_tuple T.n_isinstance T.n_tuple (fv 1)))) (pw_or1 (aS (bI hr.units) s_eq (cE iC pS (dU T.n_len (fv 1)) fI) fI)))) (aH (aM fN)) aO)
  (aF (aT (i := 2) nd rfl (.inl rfl) fN)
  (aF (aT (i := 3) nd rfl (.inl rfl) (fv 0))
  (aF (fL (t := (.tp [4, 5])) (passes_of rfl) rfl (Ed (by rfl) T.n_enumerate (fv 1)) (pg_tup rfl (pgs_cons (pg_name (i := 4) nd rfl (.inl rfl)) (pgs_cons (pg_name (i := 5) nd rfl (.inl rfl)) pgs_nil))) (dF [4, 5] (aF (bF (PW.pt (eR (dR (cX (aN (qX T) hr tk (aA (fv 5) aG)))) (pw_or1 (dR (vY nP AQ hI rV fI (fv 5) (dU T.n_len (fv 3))))))) (aH (aM fN)) aO)
  (aH (bF (aS (bI hr.units) s_eq (cE iC pS (fv 4) fI) fI) (aF (aT (i := 2) nd rfl (.inl rfl) (bR (fv 3) (fv 5)))
  (aH (aT (i := 3) nd rfl (.inl rfl) (aN (jZ T) hr tk (aA (fv 2) aG))))) (aH (aT (i := 3) nd rfl (.inl rfl) (bR (fv 3) (fv 5)))))))))
  (aH (aM (fv 2)))))))
theorem vO (T : Txt P w K mg) : OkMX P w K mg base 23 "Book" "__getitem__" ["self", "place"] (spF K eA) :=
 Ah (k := 22) T.f_Book_getitem_s T.M_Book_getitem_s vE (Runs.plain (n := 5) (np := 2)) (fun _ _ _ _ _ _ us hl => match us, hl with | [_, _], _ => rfl) fun _ _ _ _ _ _ hr tk nd => by
  unfold iQ;exact (aF (Ax (t := (.tp [2, 3])) (fv 1) (pg_tup rfl (pgs_cons (pg_name (i := 2) nd rfl (.inl rfl)) (pgs_cons (pg_name (i := 3) nd rfl (.inl rfl)) pgs_nil))))
  (aF (bF (dR (cX (aN (nQ T) hr tk (aA (fv 0) (aA (fv 2) aG))))) (aH (vZ T.x_NoProcedure tk)) aO)
  (aF (aT (i := 4) nd rfl (.inl rfl) (aN (oL T) hr tk (aA (bR (Ee T.c_Book T.a_Book_own (fv 0)) (fv 2)) (aA (fv 3) aG))))
  (aF (bF (aS Gc NJ (fv 4) fN) (aH (vZ T.x_NoPath tk)) aO)
  (aH (aM (aN (tP T 20) hr tk (aA (fv 4) aG))))))))
theorem Cy (T : Txt P w K mg) : kW P w K mg base 25 "_law_asked" ["_law_book_here", "_law_procedure", "_law_path"] (spF K oN) :=
 eU (k := 24) T.f_L_asked_3 T.G_L_asked_3 Cp (Runs.plain (n := 4) (np := 3)) (fun _ _ _ _ _ _ us hl => match us, hl with | [_, _, _], _ => rfl) fun _ _ _ _ _ _ hr tk nd => by
  unfold pD;exact (aF (Mm T.xm rfl rfl tk (fun W pn xe tk po => (aH (aT (i := 3) nd rfl (.inl rfl) (Kh (vO T) hr tk (H9 T.f_Book_getitem_s) (fv 0) (bY (aA (fv 1) (aA (fv 2) aG))))))) (Gq T.g_NoProcedure (fun _ _ _ _ _ => (aH (aM (bY (aA fS (aA fN aG)))))) (Gq T.g_NoPath (fun _ _ _ _ _ => (aH (aM (bY (aA fS (aA fN aG)))))) Of)))
  (aH (aM (bY (aA fS (aA (fv 3) aG))))))
theorem vM (T : Txt P w K mg) : kW P w K mg base 1 "_law_is_integer" ["_law_value"] (spF K iE) :=
 eU (k := 0) T.f_L_is_integer_s T.G_L_is_integer_s vC (Runs.plain (n := 1) (np := 1)) (fun _ _ _ _ _ _ us hl => match us, hl with | [_], _ => rfl) fun _ _ _ _ _ _ hr tk nd => by
  unfold iO;exact (aH (aM (gX (kM (T := "int") T.I_Space T.kn_Space_int T.n_isinstance T.n_int (fv 0)) (pe_one (Fz (kM (T := "bool") T.I_Space T.kn_Space_bool T.n_isinstance T.n_bool (fv 0)))))))
theorem yQ (T : Txt P w K mg) : ∀ n, kW P w K mg base (0 + n + 1) "_law_same" ["_law_one", "_law_other_here"] (spF K (fK n))
 | 0 => kB T.f_L_same_s T.G_L_same_s yM (fun _ _ _ _ _ _ us hl => match us, hl with | [_, _], _ => rfl)
 | n + 1 => by
  have ih_L_same_s := yQ T n;exact eU (k := 0 + n + 1) T.f_L_same_s T.G_L_same_s yM (Runs.plain (n := 3) (np := 2)) (fun _ _ _ _ _ _ us hl => match us, hl with | [_, _], _ => rfl) fun _ _ _ _ _ _ hr tk nd => by
   unfold lQ nC;exact (aF (bF (cX (HB (T := "list") (U := "tuple") T.I_Space T.kn_Space_list T.kn_Space_tuple T.n_isinstance T.n_list T.n_tuple (fv 0))) (aF (bF (PW.pt (eR (aS (iS hr.units) tN (kM (T := "list") T.I_Space T.kn_Space_list T.n_isinstance T.n_list (fv 0)) (kM (T := "list") T.I_Space T.kn_Space_list T.n_isinstance T.n_list (fv 1))) (pw_or1 (aS (iS hr.units) tN (kM (T := "tuple") T.I_Space T.kn_Space_tuple T.n_isinstance T.n_tuple (fv 0)) (kM (T := "tuple") T.I_Space T.kn_Space_tuple T.n_isinstance T.n_tuple (fv 1)))))) (aH (aM fB)) aO)
  (aH (aM (gX (lD (bI hr.units) s_eq (dU T.n_len (fv 0)) (dU T.n_len (fv 1))) (pe_one (HD T.n_all (sL (own := [("_law_k", 2)]) (t := (.nm 2)) rfl nd (lU (by rfl) T.n_range (dU T.n_len (fv 0))) (blkOk_by (own := [("_law_k", 2)]) (N := ["_law_one", "_law_other_here", "_law_k"]) (sc := defScope qD) (by decide +kernel)) (fun _ _ _ _ _ => (pg_name (i := 2) nd rfl (.inl rfl))) (fun _ _ _ _ _ => eK) (fun _ _ _ _ _ => (aN ih_L_same_s hr takes0 (aA (bR (fv 0) (fv 2)) (aA (bR (fv 1) (fv 2)) aG)) (by omega)))))))))) aO)
  (aF (bF (PW.pt (eR (cX (HB (T := "list") (U := "tuple") T.I_Space T.kn_Space_list T.kn_Space_tuple T.n_isinstance T.n_list T.n_tuple (fv 1))) (pw_or1 (aS (iS hr.units) tN (kM (T := "bool") T.I_Space T.kn_Space_bool T.n_isinstance T.n_bool (fv 0)) (kM (T := "bool") T.I_Space T.kn_Space_bool T.n_isinstance T.n_bool (fv 1)))))) (aH (aM fB)) aO)
  (aH (aM (gX (lD (bI hr.units) s_eq (kM (T := "int") T.I_Space T.kn_Space_int T.n_isinstance T.n_int (fv 0)) (kM (T := "int") T.I_Space T.kn_Space_int T.n_isinstance T.n_int (fv 1))) (pe_one (lD (bI hr.units) s_eq (fv 0) (fv 1))))))))
theorem FZ (T : Txt P w K mg) : kW P w K mg base 22 "_law_due" ["_law_places_here", "_law_many", "_law_procedure", "_law_path"] (spF K tE) :=
 eU (k := 21) T.f_L_due_7 T.G_L_due_7 FG (Runs.plain (n := 5) (np := 4)) (fun _ _ _ _ _ _ us hl => match us, hl with | [_, _, _, _], _ => rfl) fun _ _ _ _ _ _ hr tk nd => by
  unfold tJ mD;exact (aF (bF (PW.pt (eR (dR (cX (aN (vM T) hr tk (aA (fv 2) aG)))) (eR (aS hI rV (fv 2) fI) (pw_or1 (aS FU O9 (fv 2) (fv 1)))))) (aH (aM (bY (aA fS (aA fN aG))))) aO)
  (aF (fL (t := (.nm 4)) (passes_of rfl) rfl (eV (fv 0)) (pg_name (i := 4) nd rfl (.inl rfl)) (dF [4] (aH (bF (PW.pt (pK (aS (bI hr.units) s_eq (bR (fv 4) fI) (fv 2)) (pw_and1 (cX (aN (yQ T 20) hr tk (aA (bR (fv 4) fI) (aA (fv 3) aG))))))) (aH (aM (bY (aA fS (aA (bR (fv 4) fI) aG))))) aO))))
  (aH (aM (bY (aA fS (aA fN aG)))))))
theorem FY (T : Txt P w K mg) : kW P w K mg base 40 "_law_other" ["_law_pool_here", "_law_places_here", "_law_many"] (spF K tD) :=
 eU (k := 39) T.f_L_other T.G_L_other FF (Runs.cut (n := 10) (np := 3)) (fun _ _ _ _ _ _ us hl => match us, hl with | [_, _, _], _ => rfl) fun _ _ _ _ _ _ hr tk nd => by
  unfold tI;exact (aF (aT (i := 3) nd rfl (.inl rfl) (aN (bO T) hr tk (aA (fv 0) (aA fI aG))))
  (aF (aT (i := 4) nd rfl (.inl rfl) (aN (bO T) hr tk (aA (fv 0) (aA (fv 2) aG))))
  (aF (aT (i := 5) nd rfl (.inl rfl) (wB T.n_tuple (sL (own := [("_law_k", 9)]) (t := (.nm 9)) rfl nd (lU (by rfl) T.n_range (aN (bO T) hr tk (aA (fv 0) (aA fI aG)))) (blkOk_by (own := [("_law_k", 9)]) (N := ["_law_pool_here", "_law_places_here", "_law_many", "_law_kind", "_law_procedure", "_law_path", "_law_place", "_law_items", "_law_at", "_law_k"]) (sc := defScope sZ) (by decide +kernel)) (fun _ _ _ _ _ => (pg_name (i := 9) nd rfl (.inl rfl))) (fun _ _ _ _ _ => eK) (fun _ _ _ _ _ => (aN (bO T) hr takes0 (aA (fv 0) (aA fI aG)))))))
  (aF (bF (PW.pt (pK (aS mO zR (dU T.n_len (fv 1)) fI) (pw_and1 (aS hI rV (fv 3) fI)))) (aF (aT (i := 6) nd rfl (.inl rfl) (bR (fv 1) (aN (bO T) hr tk (aA (fv 0) (aA (dU T.n_len (fv 1)) aG)))))
  (aF (aT (i := 4) nd rfl (.inl rfl) (bR (fv 6) fI))
  (aH (aT (i := 5) nd rfl (.inl rfl) (bR (fv 6) fI))))) aO)
  (aF (aT (i := 7) nd rfl (.inl rfl) (Kd T.n_list (fv 5)))
  (aF (bF (aS (bI hr.units) s_eq (fv 3) fI) (aH (aM (bY (aA (fv 4) (aA (HC (fv 7)) aG))))) aO)
  (aF (bF (aS (bI hr.units) s_eq (fv 3) fI) (aH (aM (bY (aA (fv 4) (aA (wB T.n_tuple (cE bX dP (fv 7) (cD (aA fI aG)))) aG))))) aO)
  (aF (bF (aS (bI hr.units) s_eq (fv 3) fI) (aH (aM (bY (aA (fv 4) (aA (wB T.n_tuple (G1 (fv 7) oS (oR (cE fR mT (dU T.n_len (fv 7)) fI)))) aG))))) aO)
  (aF (bF (PW.pt (pK (aS hI rV (fv 3) fI) (pw_and1 (aS mO zR (dU T.n_len (fv 7)) fI)))) (aF (aT (i := 8) nd rfl (.inl rfl) (aN (bO T) hr tk (aA (fv 0) (aA (dU T.n_len (fv 7)) aG))))
  (aH (H7 (bR (bY (aA (cE bX dP (bR (fv 7) (fv 8)) fI) (aA (cE fR mT (bR (fv 7) (fv 8)) fI) (aA fB (aA fB (aA fS (aA fI (aA (tX fI) (aA (cD (aA fI aG)) (aA Nm (aA (G2 T.T_Space (tW T) hr tk (aA (cD aG) aG)) aG))))))))))) (aN (bO T) hr tk (aA (fv 0) (aA fI aG)))) (fv 7) (fv 8)))) aO)
  (aF (bF (aS (bI hr.units) s_eq (fv 3) fI) (aH (aT (i := 4) nd rfl (.inl rfl) (bR (bY (aA (fv 2) (aA (tX fI) (aA fB (aA fB (aA fN (aA fS (aA (cD (aA fI aG)) (aA Nm (aA (G2 T.T_Space (tW T) hr tk (aA (cD aG) aG)) aG)))))))))) (aN (bO T) hr tk (aA (fv 0) (aA fI aG)))))) aO)
  (aH (aM (bY (aA (fv 4) (aA (wB T.n_tuple (fv 7)) aG)))))))))))))))
theorem eT (T : Txt P w K mg) : OkMX P w K mg base 4 "Book" "__contains__" ["self", "place"] (spF K cP) :=
 Ah (k := 3) T.f_Book_contains_s T.M_Book_contains_s uK (Runs.plain (n := 2) (np := 2)) (fun _ _ _ _ _ _ us hl => match us, hl with | [_, _], _ => rfl) fun _ _ _ _ _ _ hr tk nd => by
  unfold fJ;exact (aF (bF (PW.pt (eR (dR (cX (kM (T := "tuple") T.I_Space T.kn_Space_tuple T.n_isinstance T.n_tuple (fv 1)))) (pw_or1 (aS (iS hr.units) tN (dU T.n_len (fv 1)) fI)))) (aH (aM fB)) aO)
  (aF (bF (dR (cX (aN (nQ T) hr tk (aA (fv 0) (aA (bR (fv 1) fI) aG))))) (aH (aM fB)) aO)
  (aH (aM (lD Ad FH (aN (oL T) hr tk (aA (bR (Ee T.c_Book T.a_Book_own (fv 0)) (bR (fv 1) fI)) (aA (bR (fv 1) fI) aG))) fN)))))
theorem vL (T : Txt P w K mg) : kW P w K mg base 26 "_law_right" ["_law_book_here", "_law_places_here", "_law_many", "_law_procedure", "_law_path"] (spF K mF) :=
 eU (k := 25) T.f_L_right_5 T.G_L_right_5 Cn (Runs.plain (n := 7) (np := 5)) (fun _ _ _ _ _ _ us hl => match us, hl with | [_, _, _, _, _], _ => rfl) fun _ _ _ _ _ _ hr tk nd => by
  unfold pB;exact (aF (aT (i := 5) nd rfl (.inl rfl) (aN (FZ T) hr tk (aA (fv 1) (aA (fv 2) (aA (fv 3) (aA (fv 4) aG))))))
  (aF (aT (i := 6) nd rfl (.inl rfl) (aN (Cy T) hr tk (aA (fv 0) (aA (fv 3) (aA (fv 4) aG)))))
  (aF (bF (PW.pt (eR (aS (iS hr.units) tN (bR (fv 6) fI) (bR (fv 5) fI)) (pw_or1 (dR (cX (aN (tA T 20) hr tk (aA (bR (fv 6) fI) (aA (bR (fv 5) fI) aG)))))))) (aH (aM fB)) aO)
  (aH (aM (lD (bI hr.units) s_eq (lD (Ae (eT T) hr) E7 (bY (aA (fv 3) (aA (fv 4) aG))) (fv 0)) (lD (bI hr.units) s_eq (bR (fv 5) fI) fS)))))))
theorem Be (T : Txt P w K mg) : kW P w K mg base 1 "_law_blocks" ["_law_statement"] (spF K mY) :=
 eU (k := 0) T.f_L_blocks_v T.G_L_blocks_v Ba (Runs.plain (n := 2) (np := 1)) (fun _ _ _ _ _ _ us hl => match us, hl with | [_], _ => rfl) fun _ _ _ _ _ _ hr tk nd => by
  unfold nF;exact (aF (bF (aS (bI hr.units) s_eq (Nl (fv 0) fI) fS) (aH (aM (Mq T.n_list (Nl (fv 0) fI)))) aO)
  (aH (aM (f_lcJ true (own := [("_law_item", 1)]) (t := (.nm 1)) rfl nd (f_slB (fv 0) (oR fI) oS) (blkOk_by (own := [("_law_item", 1)]) (N := ["_law_statement", "_law_item"]) (sc := defScope mX) (by decide +kernel)) (fun _ _ _ _ _ => (pg_name (i := 1) nd rfl (.inl rfl))) (fun _ _ _ _ _ => (H6 (cX (fO (T := "list") T.n_isinstance T.n_list (fv 1))))) (fun _ _ _ _ _ => (fv 1))))))
theorem xO (T : Txt P w K mg) : kW P w K mg base 1 "with_blocks" ["statement", "blocks"] (spF K iZ) :=
 eU (k := 0) T.f_with_blocks_v T.G_with_blocks_v xI (Runs.plain (n := 3) (np := 2)) (fun _ _ _ _ _ _ us hl => match us, hl with | [_, _], _ => rfl) fun _ _ _ _ _ _ hr tk nd => by
  unfold jB;exact (aF (aT (i := 2) nd rfl (.inl rfl) (bR (fv 0) fI))
  (aF (bF (PW.pt (eR (aS (bI hr.units) s_eq (fv 2) fS) (pw_or1 (aS (bI hr.units) s_eq (fv 2) fS)))) (aH (aM (G0 (aA (fv 2) (aA (Kf (fv 1) fI) aG))))) aO)
  (aF (bF (aS (bI hr.units) s_eq (fv 2) fS) (aH (aM (G0 (aA (fv 2) (aA (Kf (fv 1) fI) (aA (Kf (fv 1) fI) aG)))))) aO)
  (aF (bF (aS (bI hr.units) s_eq (fv 2) fS) (aH (aM (G0 (aA (fv 2) (aA (bR (fv 0) fI) (aA (bR (fv 0) fI) (aA (fv 1) aG))))))) aO)
  (aH (aM (fv 0)))))))
theorem jY (T : Txt P w K mg) : ∀ n, (kW P w K mg base (1 + n + 1) "copied_statement" ["statement"] (spF K (cR n))) /\ (kW P w K mg base (1 + n + 1) "copied_block" ["block"] (spF K (gC n)))
 | 0 => ⟨kB T.f_copied_statement_w T.G_copied_statement_w lC (fun _ _ _ _ _ _ us hl => match us, hl with | [_], _ => rfl), kB T.f_copied_block_w T.G_copied_block_w oF (fun _ _ _ _ _ _ us hl => match us, hl with | [_], _ => rfl)⟩
 | n + 1 => by
  have ih := jY T n;have ih_copied_statement_w := ih.1;have ih_copied_block_w := ih.2;refine ⟨?_, ?_⟩
  ·exact eU (k := 1 + n + 1) T.f_copied_statement_w T.G_copied_statement_w lC (Runs.plain (n := 2) (np := 1)) (fun _ _ _ _ _ _ us hl => match us, hl with | [_], _ => rfl) fun _ _ _ _ _ _ hr tk nd => by
    unfold fH;exact (aH (aM (aN (xO T) hr tk (aA (fv 0) (aA (Nk (own := [("block", 1)]) (t := (.nm 1)) rfl nd (eV (aN (jZ T) hr tk (aA (fv 0) aG) (by omega))) (blkOk_by (own := [("block", 1)]) (N := ["statement", "block"]) (sc := defScope fE) (by decide +kernel)) (fun _ _ _ _ _ => (pg_name (i := 1) nd rfl (.inl rfl))) (fun _ _ _ _ _ => eK) (fun _ _ _ _ _ => (aN ih_copied_block_w hr takes0 (aA (fv 1) aG) (by omega)))) aG)) (by omega))))
  ·exact eU (k := 1 + n + 1) T.f_copied_block_w T.G_copied_block_w oF (Runs.plain (n := 2) (np := 1)) (fun _ _ _ _ _ _ us hl => match us, hl with | [_], _ => rfl) fun _ _ _ _ _ _ hr tk nd => by
    unfold iN;exact (aH (aM (Nk (own := [("statement", 1)]) (t := (.nm 1)) rfl nd (eV (fv 0)) (blkOk_by (own := [("statement", 1)]) (N := ["block", "statement"]) (sc := defScope iB) (by decide +kernel)) (fun _ _ _ _ _ => (pg_name (i := 1) nd rfl (.inl rfl))) (fun _ _ _ _ _ => eK) (fun _ _ _ _ _ => (aN ih_copied_statement_w hr takes0 (aA (fv 1) aG) (by omega))))))
theorem rJ (T : Txt P w K mg) (n : Nat) : kW P w K mg base (1 + n + 1) "copied_statement" ["statement"] (spF K (cR n)) := (jY T n).1
theorem vN (T : Txt P w K mg) : OkMX P w K mg base 23 "Book" "__getitem__" ["self", "place"] (spF K iF) :=
 Ah (k := 22) T.f_Book_getitem_w T.M_Book_getitem_w vD (Runs.plain (n := 5) (np := 2)) (fun _ _ _ _ _ _ us hl => match us, hl with | [_, _], _ => rfl) fun _ _ _ _ _ _ hr tk nd => by
  unfold iP;exact (aF (Ax (t := (.tp [2, 3])) (fv 1) (pg_tup rfl (pgs_cons (pg_name (i := 2) nd rfl (.inl rfl)) (pgs_cons (pg_name (i := 3) nd rfl (.inl rfl)) pgs_nil))))
  (aF (bF (dR (cX (aN (xP T) hr tk (aA (fv 0) (aA (fv 2) aG))))) (aH (vZ T.x_NoProcedure tk)) aO)
  (aF (aT (i := 4) nd rfl (.inl rfl) (aN (zS T) hr tk (aA (bR (Ee T.c_Book T.a_Book_own (fv 0)) (fv 2)) (aA (fv 3) aG))))
  (aF (bF (aS Gc NJ (fv 4) fN) (aH (vZ T.x_NoPath tk)) aO)
  (aH (aM (aN (rJ T 20) hr tk (aA (fv 4) aG))))))))
theorem law_fn (T : Txt P w K mg) : ∃ fd, (∀ (s : Shared) (us : List Value), us.length = (["_law_script"] : List Str).length -> BindsTo s fd ⟨us, []⟩ ((["_law_script"] : List Str).zip us)) /\ ∀ base, FnOk P w K mg base (L2.CX P w) 41 (He.ga K "law") fd ["_law_script"] (spF K m_law_k09) :=
 Jk (N := ["_law_script", "_law_pool_here", "_law_bodies", "_law_many", "_law_book_here", "_law_places_here", "_law_place", "_law_inner", "_law_step", "_law_other_here"]) T.f_law_k09 sc_law_k09 (Runs.cut (n := 10) (np := 1) (mb := pZ)) (fun _ _ _ _ _ _ us hl => match us, hl with | [_], _ => rfl) fun base cdv A outer s H E hr => by
  have nd : (["_law_script", "_law_pool_here", "_law_bodies", "_law_many", "_law_book_here", "_law_places_here", "_law_place", "_law_inner", "_law_step", "_law_other_here"] : List Str).Nodup := sc_law_k09.nd;have tk := takes_of (X := cxOf (L2.CX P w) P w K mg base ["_law_script", "_law_pool_here", "_law_bodies", "_law_many", "_law_book_here", "_law_places_here", "_law_place", "_law_inner", "_law_step", "_law_other_here"] "law" (defScope sX) (He.ga K "law") cdv A outer s H E) (E := E) rfl rfl rfl rfl;unfold pZ sA sC sD lZ oD oE;exact (aF (aT (i := 1) nd rfl (.inl rfl) (aN (Hv T) hr tk (aA (fv 0) aG)))
  (aF (aT (i := 2) nd rfl (.inl rfl) (aN (Hw T) hr tk (aA (fv 1) (aA fI (aA fI aG)))))
  (aF (aT (i := 3) nd rfl (.inl rfl) (dU T.n_len (fv 2)))
  (aF (aT (i := 4) nd rfl (.inl rfl) (G2 T.T_Book (Cz T) hr tk (aA (aN (EC T) hr tk (aA (fv 2) aG)) aG)))
  (aF (aT (i := 5) nd rfl (.inl rfl) (aN (zT T) hr tk (aA (fv 2) aG)))
  (aF (fL (t := (.nm 6)) (passes_of rfl) rfl (eV (fv 5)) (pg_name (i := 6) nd rfl (.inl rfl)) (dF [6, 7] (aF (bF (dR (cX (aN (vL T) hr tk (aA (fv 4) (aA (fv 5) (aA (fv 3) (aA (bR (fv 6) fI) (aA (bR (fv 6) fI) aG)))))))) (aH (aM fB)) aO)
  (aH (Mn (t := (.nm 7)) (passes_of rfl) rfl (aN (Be T) hr tk (aA (Kh (vN T) hr tk (H9 T.f_Book_getitem_w) (fv 4) (bY (aA (bR (fv 6) fI) (aA (bR (fv 6) fI) aG)))) aG)) (pg_name (i := 7) nd rfl (.inl rfl)) (dF [7] (aH (AA (Pi (fv 7) (bY (aA fS aG)))))))))))
  (aF (bF (dR (cX (aN (tA T 20) hr tk (aA (HA (sG T) hr tk T.c_Book (fv 4)) (aA (fv 2) aG))))) (aH (aM fB)) aO)
  (aF (fL (t := (.nm 8)) (passes_of rfl) rfl (lU (by rfl) T.n_range (Ph T.n_min fI (dU T.n_len (fv 1)))) (pg_name (i := 8) nd rfl (.inl rfl)) (dF [8, 9] (aF (aT (i := 9) nd rfl (.inl rfl) (aN (FY T) hr tk (aA (fv 1) (aA (fv 5) (aA (fv 3) aG)))))
  (aH (bF (dR (cX (aN (vL T) hr tk (aA (fv 4) (aA (fv 5) (aA (fv 3) (aA (bR (fv 9) fI) (aA (bR (fv 9) fI) aG)))))))) (aH (aM fB)) aO)))))
  (aF (bF (PW.pt (eR (aS (Ae (eT T) hr) E7 (bY (aA fI aG)) (fv 4)) (eR (aS (Ae (eT T) hr) E7 fN (fv 4)) (eR (aS (Ae (eT T) hr) E7 (cD (aA fI (aA (bY (aA fI aG)) aG))) (fv 4)) (pw_or1 (aS (Ae (eT T) hr) E7 (bY (aA fI (aA (bY (aA fI aG)) (aA fI aG)))) (fv 4))))))) (aH (aM fB)) aO)
  (aH (aM (aN (tA T 20) hr tk (aA (HA (sG T) hr tk T.c_Book (fv 4)) (aA (fv 2) aG))))))))))))))
end
theorem zW {K : aC} (h : ex K = true) (i : Nat) {b : Bool} (e : (exs K)[i]? = some b := by rfl) : b = true := bA.mp h b (bU e)
theorem ob_eq (s : AE) : ob s = hk.obs s.abs := Lo (HandSHeadRun.getT_eq s)
theorem txt {P : Program} (ht : Tre P) {w : World} {K : aC} {h : Heap} {mg : Str -> Option Value} (X : K.In h) (G : h.Ns mainGlobals mg) (c : He.SaysT fa fn ts w K /\ ex K = true) : Txt P w K mg where
  tree := ht
  n_isinstance := He.free_ok X G (c.1.d.fact 0 (f := .free "isinstance") rfl)
  n_int := He.free_ok X G (c.1.d.fact 1 (f := .free "int") rfl)
  n_bool := He.free_ok X G (c.1.d.fact 2 (f := .free "bool") rfl)
  n_tuple := He.free_ok X G (c.1.d.fact 3 (f := .free "tuple") rfl)
  n_len := He.free_ok X G (c.1.d.fact 4 (f := .free "len") rfl)
  n_str := He.free_ok X G (c.1.d.fact 5 (f := .free "str") rfl)
  lim := OL (zW c.2 0) (Ij c.1 0 (t := Fi) rfl)
  k_LIMITS := c.1.tab 0 (t := Fi) rfl
  g_LIMITS := He.glo_ok X G (c.1.d.fact 6 (f := .glo "LIMITS") rfl)
  n_all := He.free_ok X G (c.1.d.fact 7 (f := .free "all") rfl)
  i_DEEPEST := He.int_ok X G (c.1.d.fact 8 (f := .int "DEEPEST" 3) rfl)
  n_list := He.free_ok X G (c.1.d.fact 9 (f := .free "list") rfl)
  n_enumerate := He.free_ok X G (c.1.d.fact 10 (f := .free "enumerate") rfl)
  i_MOST_IN_LIST := He.int_ok X G (c.1.d.fact 11 (f := .int "MOST_IN_LIST" 8) rfl)
  i_MOST_IN_PROCEDURE := He.int_ok X G (c.1.d.fact 12 (f := .int "MOST_IN_PROCEDURE" 12) rfl)
  i_MOST_PROCEDURES := He.int_ok X G (c.1.d.fact 13 (f := .int "MOST_PROCEDURES" 3) rfl)
  xa_NoBook := J1 (zW c.2 1) (He.glo_ok X G (c.1.d.fact 14 (f := .glo "NoBook") rfl))
  fx_NoBook := c.1.d.def_ 0 (d := B7) rfl
  c_Book := He.cls_ok (c.1.d.fact 15 (f := .cls "Book") rfl)
  a_Book_own := He.noat_ok (c.1.d.fact 16 (f := .noat "Book" "own") rfl)
  n_abs := He.free_ok X G (c.1.d.fact 17 (f := .free "abs") rfl)
  sk := JF (zW c.2 2)
  n_zip := He.free_ok X G (c.1.d.fact 18 (f := .free "zip") rfl)
  n_sorted := He.free_ok X G (c.1.d.fact 19 (f := .free "sorted") rfl)
  xa_NoRows := J1 (zW c.2 3) (He.glo_ok X G (c.1.d.fact 20 (f := .glo "NoRows") rfl))
  fx_NoRows := c.1.d.def_ 1 (d := B6) rfl
  c_Space := He.cls_ok (c.1.d.fact 21 (f := .cls "Space") rfl)
  a_Space_basis := He.noat_ok (c.1.d.fact 22 (f := .noat "Space" "basis") rfl)
  n_range := He.free_ok X G (c.1.d.fact 23 (f := .free "range") rfl)
  I_Space := Oc (zW c.2 4) (He.cls_ok (c.1.d.fact 24 (f := .cls "Space") rfl))
  kn_Space_int := of_decide_eq_true (zW c.2 5)
  kn_Space_bool := of_decide_eq_true (zW c.2 6)
  kn_Space_tuple := of_decide_eq_true (zW c.2 7)
  x_NoProcedure := J0 (zW c.2 8) (He.glo_ok X G (c.1.d.fact 25 (f := .glo "NoProcedure") rfl))
  x_NoPath := J0 (zW c.2 9) (He.glo_ok X G (c.1.d.fact 26 (f := .glo "NoPath") rfl))
  xm := Nv (zW c.2 10)
  g_NoPath := He.glo_ok X G (c.1.d.fact 27 (f := .glo "NoPath") rfl)
  g_NoProcedure := He.glo_ok X G (c.1.d.fact 28 (f := .glo "NoProcedure") rfl)
  kn_Space_list := of_decide_eq_true (zW c.2 11)
  T_Space := ⟨He.cls_ok (c.1.d.fact 29 (f := .cls "Space") rfl), He.mkr_ok (c.1.d.fact 30 (f := .mkr "Space") rfl), He.glo_ok X G (c.1.d.fact 31 (f := .glo "Space") rfl)⟩
  T_Book := ⟨He.cls_ok (c.1.d.fact 32 (f := .cls "Book") rfl), He.mkr_ok (c.1.d.fact 33 (f := .mkr "Book") rfl), He.glo_ok X G (c.1.d.fact 34 (f := .glo "Book") rfl)⟩
  n_min := He.free_ok X G (c.1.d.fact 35 (f := .free "min") rfl)
  G_is_integer := He.glo_ok X G (c.1.d.fact 36 (f := .glo "is_integer") rfl)
  f_is_integer := c.1.d.def_ 2 (d := tZ) rfl
  G_is_bit := He.glo_ok X G (c.1.d.fact 37 (f := .glo "is_bit") rfl)
  f_is_bit := c.1.d.def_ 3 (d := CG) rfl
  G_is_command := He.glo_ok X G (c.1.d.fact 38 (f := .glo "is_command") rfl)
  f_is_command := c.1.d.def_ 4 (d := uA) rfl
  G_blocks_of := He.glo_ok X G (c.1.d.fact 39 (f := .glo "blocks_of") rfl)
  f_blocks_of := c.1.d.def_ 5 (d := wI) rfl
  G_with_blocks := He.glo_ok X G (c.1.d.fact 40 (f := .glo "with_blocks") rfl)
  f_with_blocks := c.1.d.def_ 6 (d := sO) rfl
  G_copied_block := He.glo_ok X G (c.1.d.fact 41 (f := .glo "copied_block") rfl)
  f_copied_block := c.1.d.def_ 7 (d := rF) rfl
  G_copied_statement := He.glo_ok X G (c.1.d.fact 42 (f := .glo "copied_statement") rfl)
  f_copied_statement := c.1.d.def_ 8 (d := mV) rfl
  G_well_formed := He.glo_ok X G (c.1.d.fact 43 (f := .glo "well_formed") rfl)
  f_well_formed := c.1.d.def_ 9 (d := sP) rfl
  G_first_fault := He.glo_ok X G (c.1.d.fact 44 (f := .glo "first_fault") rfl)
  f_first_fault := c.1.d.def_ 10 (d := sQ) rfl
  G_statement_at := He.glo_ok X G (c.1.d.fact 45 (f := .glo "statement_at") rfl)
  f_statement_at := c.1.d.def_ 11 (d := rD) rfl
  M_Book_init := He.meth_ok (c.1.d.fact 46 (f := .meth "Book" "__init__") rfl)
  f_Book_init := c.1.d.def_ 12 (d := wM) rfl
  M_Book_len := He.meth_ok (c.1.d.fact 47 (f := .meth "Book" "__len__") rfl)
  f_Book_len := c.1.d.def_ 13 (d := zH) rfl
  M_Book_bodies := He.meth_ok (c.1.d.fact 48 (f := .meth "Book" "bodies") rfl)
  f_Book_bodies := c.1.d.def_ 14 (d := sR) rfl
  G_has_procedure := He.glo_ok X G (c.1.d.fact 49 (f := .glo "has_procedure") rfl)
  f_has_procedure := c.1.d.def_ 15 (d := pY) rfl
  G_is_matrix := He.glo_ok X G (c.1.d.fact 50 (f := .glo "is_matrix") rfl)
  f_is_matrix := c.1.d.def_ 16 (d := wH) rfl
  G_pivot := He.glo_ok X G (c.1.d.fact 51 (f := .glo "pivot") rfl)
  f_pivot := c.1.d.def_ 17 (d := Ek) rfl
  G_common_divisor := He.glo_ok X G (c.1.d.fact 52 (f := .glo "common_divisor") rfl)
  f_common_divisor := c.1.d.def_ 18 (d := oV) rfl
  G_primitive := He.glo_ok X G (c.1.d.fact 53 (f := .glo "primitive") rfl)
  f_primitive := c.1.d.def_ 19 (d := wG) rfl
  G_cleared := He.glo_ok X G (c.1.d.fact 54 (f := .glo "cleared") rfl)
  f_cleared := c.1.d.def_ 20 (d := BB) rfl
  G_reduced := He.glo_ok X G (c.1.d.fact 55 (f := .glo "reduced") rfl)
  f_reduced := c.1.d.def_ 21 (d := B9) rfl
  G_with_row := He.glo_ok X G (c.1.d.fact 56 (f := .glo "with_row") rfl)
  f_with_row := c.1.d.def_ 22 (d := zB) rfl
  M_Space_init := He.meth_ok (c.1.d.fact 57 (f := .meth "Space" "__init__") rfl)
  f_Space_init := c.1.d.def_ 23 (d := uB) rfl
  G_L_pool := He.glo_ok X G (c.1.d.fact 58 (f := .glo "_law_pool") rfl)
  f_L_pool := c.1.d.def_ 24 (d := CJ) rfl
  G_L_draw := He.glo_ok X G (c.1.d.fact 59 (f := .glo "_law_draw") rfl)
  f_L_draw := c.1.d.def_ 25 (d := CL) rfl
  G_L_command := He.glo_ok X G (c.1.d.fact 60 (f := .glo "_law_command") rfl)
  f_L_command := c.1.d.def_ 26 (d := wK) rfl
  G_L_pair := He.glo_ok X G (c.1.d.fact 61 (f := .glo "_law_pair") rfl)
  f_L_pair := c.1.d.def_ 27 (d := CK) rfl
  G_L_piece := He.glo_ok X G (c.1.d.fact 62 (f := .glo "_law_piece") rfl)
  f_L_piece := c.1.d.def_ 28 (d := BC) rfl
  G_L_block := He.glo_ok X G (c.1.d.fact 63 (f := .glo "_law_block") rfl)
  f_L_block := c.1.d.def_ 29 (d := BF) rfl
  G_L_around := He.glo_ok X G (c.1.d.fact 64 (f := .glo "_law_around") rfl)
  f_L_around := c.1.d.def_ 30 (d := zG) rfl
  G_L_body := He.glo_ok X G (c.1.d.fact 65 (f := .glo "_law_body") rfl)
  f_L_body := c.1.d.def_ 31 (d := CO) rfl
  G_L_book := He.glo_ok X G (c.1.d.fact 66 (f := .glo "_law_book") rfl)
  f_L_book := c.1.d.def_ 32 (d := CN) rfl
  G_L_blocks := He.glo_ok X G (c.1.d.fact 67 (f := .glo "_law_blocks") rfl)
  f_L_blocks := c.1.d.def_ 33 (d := zF) rfl
  G_L_with := He.glo_ok X G (c.1.d.fact 68 (f := .glo "_law_with") rfl)
  f_L_with := c.1.d.def_ 34 (d := CH) rfl
  G_L_copy := He.glo_ok X G (c.1.d.fact 69 (f := .glo "_law_copy") rfl)
  f_L_copy := c.1.d.def_ 35 (d := CM) rfl
  G_L_copies := He.glo_ok X G (c.1.d.fact 70 (f := .glo "_law_copies") rfl)
  f_L_copies := c.1.d.def_ 36 (d := zE) rfl
  G_L_places := He.glo_ok X G (c.1.d.fact 71 (f := .glo "_law_places") rfl)
  f_L_places := c.1.d.def_ 37 (d := zD) rfl
  G_L_all_places := He.glo_ok X G (c.1.d.fact 72 (f := .glo "_law_all_places") rfl)
  f_L_all_places := c.1.d.def_ 38 (d := rG) rfl
  G_L_same := He.glo_ok X G (c.1.d.fact 73 (f := .glo "_law_same") rfl)
  f_L_same := c.1.d.def_ 39 (d := CI) rfl
  G_is_integer_s := He.glo_ok X G (c.1.d.fact 74 (f := .glo "is_integer") rfl)
  f_is_integer_s := c.1.d.def_ 40 (d := rE) rfl
  G_has_procedure_s := He.glo_ok X G (c.1.d.fact 75 (f := .glo "has_procedure") rfl)
  f_has_procedure_s := c.1.d.def_ 41 (d := nV) rfl
  G_statement_at_s := He.glo_ok X G (c.1.d.fact 76 (f := .glo "statement_at") rfl)
  f_statement_at_s := c.1.d.def_ 42 (d := oT) rfl
  M_Book_getitem_s := He.meth_ok (c.1.d.fact 77 (f := .meth "Book" "__getitem__") rfl)
  f_Book_getitem_s := c.1.d.def_ 43 (d := oY) rfl
  G_L_asked_3 := He.glo_ok X G (c.1.d.fact 78 (f := .glo "_law_asked") rfl)
  f_L_asked_3 := c.1.d.def_ 44 (d := wL) rfl
  G_L_is_integer_s := He.glo_ok X G (c.1.d.fact 79 (f := .glo "_law_is_integer") rfl)
  f_L_is_integer_s := c.1.d.def_ 45 (d := oW) rfl
  G_L_same_s := He.glo_ok X G (c.1.d.fact 80 (f := .glo "_law_same") rfl)
  f_L_same_s := c.1.d.def_ 46 (d := zC) rfl
  G_L_due_7 := He.glo_ok X G (c.1.d.fact 81 (f := .glo "_law_due") rfl)
  f_L_due_7 := c.1.d.def_ 47 (d := BE) rfl
  G_L_other := He.glo_ok X G (c.1.d.fact 82 (f := .glo "_law_other") rfl)
  f_L_other := c.1.d.def_ 48 (d := BD) rfl
  M_Book_contains_s := He.meth_ok (c.1.d.fact 83 (f := .meth "Book" "__contains__") rfl)
  f_Book_contains_s := c.1.d.def_ 49 (d := nW) rfl
  G_L_right_5 := He.glo_ok X G (c.1.d.fact 84 (f := .glo "_law_right") rfl)
  f_L_right_5 := c.1.d.def_ 50 (d := wJ) rfl
  G_L_blocks_v := He.glo_ok X G (c.1.d.fact 85 (f := .glo "_law_blocks") rfl)
  f_L_blocks_v := c.1.d.def_ 51 (d := uC) rfl
  G_with_blocks_v := He.glo_ok X G (c.1.d.fact 86 (f := .glo "with_blocks") rfl)
  f_with_blocks_v := c.1.d.def_ 52 (d := pX) rfl
  G_copied_block_w := He.glo_ok X G (c.1.d.fact 87 (f := .glo "copied_block") rfl)
  f_copied_block_w := c.1.d.def_ 53 (d := oU) rfl
  G_copied_statement_w := He.glo_ok X G (c.1.d.fact 88 (f := .glo "copied_statement") rfl)
  f_copied_statement_w := c.1.d.def_ 54 (d := lE) rfl
  M_Book_getitem_w := He.meth_ok (c.1.d.fact 89 (f := .meth "Book" "__getitem__") rfl)
  f_Book_getitem_w := c.1.d.def_ 55 (d := oX) rfl
  G_law_k09 := He.glo_ok X G (c.1.d.fact 90 (f := .glo "law") rfl)
  f_law_k09 := c.1.d.def_ 56 (d := BA) rfl
end PHZ
namespace PH
open PySem PySem.Spec PyProof.Rows L2
theorem Ic {α : Type} {x : α} {r : List α} : atI (x :: r) 0 = some x := cQ (n := 0) rfl
theorem atI1 {α : Type} {x y : α} {r : List α} : atI (x :: y :: r) 1 = some y := cQ (n := 1) rfl
theorem atI2 {α : Type} {x y z : α} {r : List α} : atI (x :: y :: z :: r) 2 = some z := cQ (n := 2) rfl
theorem atI3 {α : Type} {x y z w : α} {r : List α} : atI (x :: y :: z :: w :: r) 3 = some w := cQ (n := 3) rfl
theorem cZ {x : D} {r : List D} {S : aL} : cM (.dat (.tup (x :: r))) (.dat (.int 0)) S = .ok (.dat x) S := yY Ic
theorem mG {x y : D} {r : List D} {S : aL} : cM (.dat (.tup (x :: y :: r))) (.dat (.int 1)) S = .ok (.dat y) S := yY atI1
theorem As {x y z : D} {r : List D} {S : aL} : cM (.dat (.tup (x :: y :: z :: r))) (.dat (.int 2)) S = .ok (.dat z) S := yY atI2
theorem Lz {x y z w : D} {r : List D} {S : aL} : cM (.dat (.tup (x :: y :: z :: w :: r))) (.dat (.int 3)) S = .ok (.dat w) S := yY atI3
theorem IC {x : D} {r : List D} {S : aL} : cM (.dat (.lst (x :: r))) (.dat (.int 0)) S = .ok (.dat x) S := kL Ic
theorem M0 {x y : D} {r : List D} {S : aL} : cM (.dat (.lst (x :: y :: r))) (.dat (.int 1)) S = .ok (.dat y) S := kL atI1
def PoolAt (S : aL) (p : Nat) (ks : List Int) : Prop := S[p]? = some (.lst (ks.map D.int)) /\ 2 <= ks.length
theorem Jz {S : aL} {p : Nat} {ks : List Int} {k : Int} {n : Nat} {u : Int} (h : S[p]? = some (.lst (ks.map D.int))) (hk : k = (n : Int)) (hu : ks[n]? = some u) : K0 (.cel p) k S = some (.int u) := by
 subst hk;simp only [K0, h];rw [if_pos (by omega)]
 simp [hu]
theorem Dw {S : aL} {p : Nat} {ks : List Int} {k : Int} {n : Nat} {u : Int} (h : S[p]? = some (.lst (ks.map D.int))) (hk : k = (n : Int)) (hu : n < ks.length) : setC (.cel p) k (.int u) S = some (S.set p (.lst ((ks.set n u).map D.int))) := by
 subst hk;simp only [setC, h];rw [if_pos ⟨by omega, by simpa using hu⟩]
 simp [List.map_set]
theorem BH {g : Int -> Int -> Int} {o i e : FE} {ρ : Ev} {S : aL} {p n : Nat} {k u w : Int} {ks : List Int} (ho : o ρ S = .ok (.cel p) S) (hi : i ρ S = .ok (.dat (.int k)) S) (he : e ρ S = .ok (.dat (.int w)) S) (h : S[p]? = some (.lst (ks.map D.int))) (hk : k = (n : Int)) (hu : ks[n]? = some u) :
  kG g o i e ρ S = .next ρ (S.set p (.lst ((ks.set n (g u w)).map D.int))) := by
 simp only [kG, ho, hi, he, ET, Jz h hk hu, Dw h hk (aI.mp hu).1]
theorem qL {S : aL} {p : Nat} {ks : List Int} {k : Int} {n : Nat} {u : Int} (h : S[p]? = some (.lst (ks.map D.int))) (hk : k = (n : Int)) (hu : ks[n]? = some u) : cM (.cel p) (.dat (.int k)) S = .ok (.dat (.int u)) S :=
 g_ixC h (by rw [cQ hk]; simp [hu])
theorem mL {S : aL} {p : Nat} {c d : Cell} (h : S[p]? = some c) : (S.set p d)[p]? = some d := by
 rw [bC, if_pos rfl, if_pos (aI.mp h).1]
theorem pw18 {S : aL} : Mr (.dat (.int 10)) (.dat (.int 18)) S = .ok (.dat (.int 1000000000000000000)) S := rfl
theorem dw1 (a : Int) : IntMulOk 7919 a := mulL (by decide) (by decide)
theorem dw2 (a : Int) : IntMulOk a 48271 := mulR (by decide) (by decide)
theorem dw3 (a : Int) : CDiv a 1009 := ⟨by decide, by decide⟩
theorem dw4 (a : Int) : CDiv a 2003 := ⟨by decide, by decide⟩
theorem dw5 (a : Int) : CDiv a 11 := ⟨by decide, by decide⟩
theorem dw6 (a b : Int) : IntMulOk (a % 2147483647) b := by
 have h1 : 0 <= a % 2147483647 := fQ _ (by decide)
 have h2 : a % 2147483647 < 2147483647 := fD _ (by decide)
 generalize a % 2147483647 = x at h1 h2;exact mulL (by omega) (by omega)
theorem dw7 : (0 : Int) < 2147483647 := by decide
theorem dw8 : (0 : Int) < 2147483399 := by decide
theorem dw9 {a k : Int} {ks : List Int} {S S1 : aL} {p : Nat} {u : Int} (h0 : 0 < k) (hS1 : S.set p (.lst ((ks.set 0 (u + 1)).map D.int)) = S1) : ∃ (d : Int) (ks' : List Int), cC (Out.ret (.dat (.int (a % k))) S1) = .ok (.dat (.int d)) (S.set p (.lst (ks'.map D.int))) /\ 0 <= d /\ d < k /\ ks'.length = ks.length :=
 ⟨a % k, ks.set 0 (u + 1), by rw [hS1]; rfl, fQ _ (by omega), fD _ h0, by simp⟩
theorem eL {S : aL} {p : Nat} {ks : List Int} {k : Int} (hP : PoolAt S p ks) (h0 : 0 < k) (h1 : k < 1073741824) :
  ∃ (d : Int) (ks' : List Int), bE [.cel p, .dat (.int k)] S = .ok (.dat (.int d)) (S.set p (.lst (ks'.map D.int))) /\ 0 <= d /\ d < k /\ ks'.length = ks.length := by
 obtain ⟨hp, hl⟩ := hP;obtain ⟨u, hu⟩ : ∃ u, ks[0]? = some u := ⟨ks[0], by simp [show 0 < ks.length by omega]⟩
 have hp1 := mL (d := .lst ((ks.set 0 (u + 1)).map D.int)) hp;have hn : (1 : Int) + (u + 1) % ((ks.length : Int) - 1) = ((1 + ((u + 1) % ((ks.length : Int) - 1)).toNat : Nat) : Int) := by
  have := fQ (u + 1) (show ((ks.length : Int) - 1) ≠ 0 by omega)
  omega
 have hlt : 1 + ((u + 1) % ((ks.length : Int) - 1)).toNat < ks.length := by
  have := fD (u + 1) (show 0 < ((ks.length : Int) - 1) by omega)
  have := fQ (u + 1) (show ((ks.length : Int) - 1) ≠ 0 by omega)
  omega
 generalize hj : 1 + ((u + 1) % ((ks.length : Int) - 1)).toNat = j at hn hlt;obtain ⟨c, hc⟩ : ∃ c, (ks.set 0 (u + 1))[j]? = some c := ⟨(ks.set 0 (u + 1))[j]'(by simpa using hlt), by simp [hlt]⟩
 have h00 : (ks.set 0 (u + 1))[0]? = some (u + 1) := by
  rw [bC, if_pos rfl, if_pos (by omega)]
 have e1 : (kG (fun x y => x + y) (aD 0) (mC (.int 0)) (mC (.int 1))) [some (.cel p), some (.dat (.int k)), none, none, none] S = .next [some (.cel p), some (.dat (.int k)), none, none, none] (S.set p (.lst ((ks.set 0 (u + 1)).map D.int))) := BH rfl rfl rfl hp rfl hu
 have eE : bE [.cel p, .dat (.int k)] S = cC (wV [some (.cel p), some (.dat (.int k)), none, none, none] S) := rfl;rw [eE];unfold wV;generalize hS1 : S.set p (.lst ((ks.set 0 (u + 1)).map D.int)) = S1 at e1 hp1;simp! [e1, qL (k := 0) (n := 0) hp1 rfl h00, Fu hp1, bN, eQ, gW (show (0 : Int) < (ks.length : Int) - 1 by omega), hn, qL hp1 rfl hc, pw18]
 by_cases hbig : (1000000000000000000 : Int) <= c
 ·rw [decide_eq_true hbig]
  simp! [if_true];have e2 : yV (aV rC (aD 3) (aD 1)) (aD 0) (aD 2) [some (.cel p), some (.dat (.int k)), some (.dat (.int (j : Int))), some (.dat (.int c)), none] S1 = .next [some (.cel p), some (.dat (.int k)), some (.dat (.int (j : Int))), some (.dat (.int c)), none] (S1.set p (.lst (((ks.set 0 (u + 1)).set j (c / k)).map D.int))) := by
   unfold yV;simp! [A9 (show CDiv c k from ⟨h0, h1⟩), Dw (u := c / k) hp1 (rfl : (j : Int) = (j : Int)) (by simpa using hlt)]
  simp! [e2, gW h0];refine ⟨c % k, (ks.set 0 (u + 1)).set j (c / k), ?_, fQ c (by omega), fD c h0, by simp⟩
  rw [<- hS1, dG];rfl
 ·rw [decide_eq_false hbig]
  simp! [qL (k := 0) (n := 0) hp1 rfl h00, Ft (dw1 _), Ft (dw2 _), gW dw7, gW dw8, A9 (dw3 _), A9 (dw4 _), A9 (dw5 _), Ft (dw6 _ _), gW h0];exact dw9 h0 hS1
inductive Cmd where
 | go (k : Int) | turn (n : Int) | mirror | scale (k : Int) | aim (a b : Int) | place (a b : Int) | mark | ret | exch
def Cmd.d : Cmd -> D
 | .go k => .tup [.str "go", .int k]
 | .turn k => .tup [.str "turn", .int k]
 | .mirror => .tup [.str "mirror"]
 | .scale k => .tup [.str "scale", .int k]
 | .aim a b => .tup [.str "aim", .int a, .int b]
 | .place a b => .tup [.str "place", .int a, .int b]
 | .mark => .tup [.str "mark"]
 | .ret => .tup [.str "return"]
 | .exch => .tup [.str "exchange"]
def Cmd.Ok : Cmd -> Prop
 | .go k => -9 <= k /\ k <= 9
 | .turn k => 1 <= k /\ k <= 3
 | .scale k => -3 <= k /\ k <= 3
 | .aim a b => (-9 <= a /\ a <= 9) /\ -9 <= b /\ b <= 9
 | .place a b => (-9 <= a /\ a <= 9) /\ -9 <= b /\ b <= 9
 | _ => True
abbrev PL (ks : List Int) : Cell := .lst (ks.map D.int)
theorem PoolAt.next {S : aL} {p : Nat} {ks ks' : List Int} (h : PoolAt S p ks) (l : ks'.length = ks.length) : PoolAt (S.set p (PL ks')) p ks' := ⟨mL h.1, by rw [l]; exact h.2⟩
inductive Stt where
 | cmd (c : Cmd) | fin (w : Int) | keep (b : List Stt) | again (b : List Stt) | either (a b : List Stt) | call (g : Int) (s : Bool) (a b : List Stt) | bad | odd (x : D)
mutual
def Stt.d : Stt -> D
 | .cmd c => c.d
 | .fin w => .tup [.str "end", .int w]
 | .keep b => .tup [.str "keep", .lst (bP b)]
 | .again b => .tup [.str "again", .lst (bP b)]
 | .either a b => .tup [.str "either", .lst (bP a), .lst (bP b)]
 | .call g s a b => .tup [.str "call", .int g, .bl s, .lst [.lst (bP a), .lst (bP b)]]
 | .bad => .tup [.str "bad"]
 | .odd x => x
def bP : List Stt -> List D
 | [] => []
 | s :: r => s.d :: bP r
end
mutual
/-- of a depth of n at most; calls of the first many -/
def Stt.Ok (many : Int) : Stt -> Nat -> Prop
 | .cmd c, _ => c.Ok
 | .fin w, _ => 0 <= w /\ w <= 1
 | .keep b, n => 0 < n /\ OkL many b (n - 1)
 | .again b, n => 0 < n /\ OkL many b (n - 1)
 | .either a b, n => 0 < n /\ OkL many a (n - 1) /\ OkL many b (n - 1)
 | .call g _ a b, n => (0 < n /\ 0 <= g /\ g < many) /\ OkL many a (n - 1) /\ OkL many b (n - 1)
 | .bad, _ => True
 | .odd _, _ => False
def OkL (many : Int) : List Stt -> Nat -> Prop
 | [], _ => True
 | s :: r, n => (s.Ok many n /\ r.length < 10) /\ OkL many r n
end
def WfNo (many : Int) (x : D) : Prop := ∀ (lv : Int) (S : aL), iU [.dat x, .dat (.int lv), .dat (.int many)] S = .ok (.dat (.bl false)) S
mutual
/-- the same; values that are no statements may stand in it -/
def Stt.Okx (many : Int) : Stt -> Nat -> Prop
 | .cmd c, _ => c.Ok
 | .fin w, _ => 0 <= w /\ w <= 1
 | .keep b, n => 0 < n /\ zY many b (n - 1)
 | .again b, n => 0 < n /\ zY many b (n - 1)
 | .either a b, n => 0 < n /\ zY many a (n - 1) /\ zY many b (n - 1)
 | .call g _ a b, n => (0 < n /\ 0 <= g /\ g < many) /\ zY many a (n - 1) /\ zY many b (n - 1)
 | .bad, _ => True
 | .odd x, _ => WfNo many x
def zY (many : Int) : List Stt -> Nat -> Prop
 | [], _ => True
 | s :: r, n => s.Okx many n /\ zY many r n
end
mutual
theorem Stt.Ok.x {many : Int} : ∀ {s : Stt} {n : Nat}, s.Ok many n -> s.Okx many n
 | .cmd c, _, h => h
 | .fin w, _, h => h
 | .keep b, n, h => ⟨h.1, OkL.x h.2⟩
 | .again b, n, h => ⟨h.1, OkL.x h.2⟩
 | .either a b, n, h => ⟨h.1, OkL.x h.2.1, OkL.x h.2.2⟩
 | .call g _ a b, n, h => ⟨h.1, OkL.x h.2.1, OkL.x h.2.2⟩
 | .bad, _, _ => trivial
 | .odd x, _, h => h.elim
theorem OkL.x {many : Int} : ∀ {l : List Stt} {n : Nat}, OkL many l n -> zY many l n
 | [], _, _ => trivial
 | s :: r, n, h => ⟨h.1.1.x, OkL.x h.2⟩
end
def Stt.isOdd : Stt -> Bool
 | .odd _ => true
 | _ => false
theorem Stt.Ok.no {many : Int} {s : Stt} {n : Nat} (h : s.Ok many n) : s.isOdd = false := by
 cases s <;> first | rfl | exact h.elim
theorem cK : ∀ l : List Stt, (bP l).length = l.length
 | [] => rfl
 | s :: r => by simp [bP, cK r]
theorem mI : ∀ l m : List Stt, bP (l ++ m) = bP l ++ bP m
 | [], m => rfl
 | s :: r, m => by simp [bP, mI r m]
theorem OkL.len {many : Int} : ∀ {l : List Stt} {n : Nat}, OkL many l n -> l.length <= 10
 | [], _, _ => by simp
 | s :: r, n, h => by have := h.1.2; simp; omega
def LS (S : aL) : Prop := ∀ c ∈ S, ∀ n, c.below n = true
theorem LS.app {S : aL} {ds : List D} (h : LS S) : LS (S ++ [.lst ds]) := fun c hc n => by
 rcases cF.mp hc with hc | hc
 ·exact h c hc n
 ·rw [dH.mp hc]; rfl
theorem LS.set {S : aL} {ds : List D} {k : Nat} (h : LS S) : LS (S.set k (.lst ds)) := fun c hc n => by
 rcases eC hc with hc | hc
 ·exact h c hc n
 ·rw [hc]; rfl
theorem LS.take {S : aL} {n m : Nat} (h : LS S) : ((S.take n).all fun c => c.below m) = true := bA.mpr fun c hc => h c (Iu hc) m
theorem eB {i : Int} {S : aL} : eN [.dat (.int i)] S = .ok (.dat (.bl true)) S := by
 rw [show eN [.dat (.int i)] S = cC (nD [some (.dat (.int i))] S) from rfl]
 unfold nD;simp! [if_true];rfl
theorem ID {i : Int} {S : aL} : vP [.dat (.int i)] S = .ok (.dat (.bl (decide (0 <= i) && decide (i <= 1)))) S := by
 rw [show vP [.dat (.int i)] S = cC (wN [some (.dat (.int i))] S) from rfl]
 unfold wN;simp! [eB]
 by_cases h : 0 <= i
 ·simp! [decide_eq_true h]; rfl
 ·simp! [decide_eq_false h]; rfl
theorem qK {S : aL} : xZ (.dat (.str "go")) S = .ok (.dat (.tup [.int 1, .int (-9), .int 9])) S := rfl
theorem qM {S : aL} : fM true (.dat (.str "go")) S = .ok (.dat (.bl false)) S := rfl
theorem kH {S : aL} : xZ (.dat (.str "turn")) S = .ok (.dat (.tup [.int 1, .int 1, .int 3])) S := rfl
theorem kJ {S : aL} : fM true (.dat (.str "turn")) S = .ok (.dat (.bl false)) S := rfl
theorem gJ {S : aL} : xZ (.dat (.str "mirror")) S = .ok (.dat (.tup [.int 0, .int 0, .int 0])) S := rfl
theorem gL {S : aL} : fM true (.dat (.str "mirror")) S = .ok (.dat (.bl false)) S := rfl
theorem iG {S : aL} : xZ (.dat (.str "scale")) S = .ok (.dat (.tup [.int 1, .int (-3), .int 3])) S := rfl
theorem iI {S : aL} : fM true (.dat (.str "scale")) S = .ok (.dat (.bl false)) S := rfl
theorem mZ {S : aL} : xZ (.dat (.str "aim")) S = .ok (.dat (.tup [.int 2, .int (-9), .int 9])) S := rfl
theorem nA {S : aL} : fM true (.dat (.str "aim")) S = .ok (.dat (.bl false)) S := rfl
theorem iH {S : aL} : xZ (.dat (.str "place")) S = .ok (.dat (.tup [.int 2, .int (-9), .int 9])) S := rfl
theorem iJ {S : aL} : fM true (.dat (.str "place")) S = .ok (.dat (.bl false)) S := rfl
theorem kI {S : aL} : xZ (.dat (.str "mark")) S = .ok (.dat (.tup [.int 0, .int 0, .int 0])) S := rfl
theorem kK {S : aL} : fM true (.dat (.str "mark")) S = .ok (.dat (.bl false)) S := rfl
theorem gI {S : aL} : xZ (.dat (.str "return")) S = .ok (.dat (.tup [.int 0, .int 0, .int 0])) S := rfl
theorem gK {S : aL} : fM true (.dat (.str "return")) S = .ok (.dat (.bl false)) S := rfl
theorem eO {S : aL} : xZ (.dat (.str "exchange")) S = .ok (.dat (.tup [.int 0, .int 0, .int 0])) S := rfl
theorem eP {S : aL} : fM true (.dat (.str "exchange")) S = .ok (.dat (.bl false)) S := rfl
theorem M6 {S : aL} : fM true (.dat (.str "end")) S = .ok (.dat (.bl true)) S := rfl
theorem EN {S : aL} : fM true (.dat (.str "keep")) S = .ok (.dat (.bl true)) S := rfl
theorem C7 {S : aL} : fM true (.dat (.str "again")) S = .ok (.dat (.bl true)) S := rfl
theorem Aw {S : aL} : fM true (.dat (.str "either")) S = .ok (.dat (.bl true)) S := rfl
theorem EO {S : aL} : fM true (.dat (.str "call")) S = .ok (.dat (.bl true)) S := rfl
theorem M7 {S : aL} : fM true (.dat (.str "bad")) S = .ok (.dat (.bl true)) S := rfl
theorem rK {x : D} {r : List D} : cutD (x :: r) (some 1) none = r := by
 unfold cutD;rw [HT.sIx_none, show ((1 : Int)) = ((1 : Nat) : Int) from rfl, HT.sIx_nat]
 simp
theorem all_nil {S : aL} : wC (.dat (.lst [])) S = .ok (.dat (.bl true)) S := rfl
theorem Ep {a : Bool} {S : aL} : wC (.dat (.lst [.bl a])) S = .ok (.dat (.bl a)) S := by cases a <;> rfl
theorem Eo {a b : Bool} {S : aL} : wC (.dat (.lst [.bl a, .bl b])) S = .ok (.dat (.bl (a && b))) S := by cases a <;> cases b <;> rfl
theorem sz {n : Nat} (h : n <= 1000) : n <= sizeLine := by show n <= 16777216; omega
theorem Ob {c : Cmd} {S : aL} (h : c.Ok) : iD [.dat c.d] S = .ok (.dat (.bl true)) S := by
 rw [show iD [.dat c.d] S = cC (iM [some (.dat c.d), none, none, none, none] S) from rfl]
 unfold iM kN;cases c with
 | go k =>
  obtain ⟨h1, h2⟩ := h;simp! [Cmd.d, cZ, qK, qM, kH, kJ, gJ, gL, iG, iI, mZ, nA, iH, iJ, kI, kK, gI, gK, eO, eP, rK, Bf, lB, mR, eB, all_nil, Ep, Eo, decide_eq_true h1, decide_eq_true h2, sz];rfl
 | turn k =>
  obtain ⟨h1, h2⟩ := h;simp! [Cmd.d, cZ, qK, qM, kH, kJ, gJ, gL, iG, iI, mZ, nA, iH, iJ, kI, kK, gI, gK, eO, eP, rK, Bf, lB, mR, eB, all_nil, Ep, Eo, decide_eq_true h1, decide_eq_true h2, sz];rfl
 | mirror => simp! [Cmd.d, cZ, qK, qM, kH, kJ, gJ, gL, iG, iI, mZ, nA, iH, iJ, kI, kK, gI, gK, eO, eP, rK, Bf, lB, mR, eB, all_nil, sz]; rfl
 | scale k =>
  obtain ⟨h1, h2⟩ := h;simp! [Cmd.d, cZ, qK, qM, kH, kJ, gJ, gL, iG, iI, mZ, nA, iH, iJ, kI, kK, gI, gK, eO, eP, rK, Bf, lB, mR, eB, all_nil, Ep, Eo, decide_eq_true h1, decide_eq_true h2, sz];rfl
 | aim a b =>
  obtain ⟨⟨h1, h2⟩, h3, h4⟩ := h;simp! [Cmd.d, cZ, qK, qM, kH, kJ, gJ, gL, iG, iI, mZ, nA, iH, iJ, kI, kK, gI, gK, eO, eP, rK, Bf, lB, mR, eB, all_nil, Ep, Eo, decide_eq_true h1, decide_eq_true h2, decide_eq_true h3, decide_eq_true h4, sz];rfl
 | place a b =>
  obtain ⟨⟨h1, h2⟩, h3, h4⟩ := h;simp! [Cmd.d, cZ, qK, qM, kH, kJ, gJ, gL, iG, iI, mZ, nA, iH, iJ, kI, kK, gI, gK, eO, eP, rK, Bf, lB, mR, eB, all_nil, Ep, Eo, decide_eq_true h1, decide_eq_true h2, decide_eq_true h3, decide_eq_true h4, sz];rfl
 | mark => simp! [Cmd.d, cZ, qK, qM, kH, kJ, gJ, gL, iG, iI, mZ, nA, iH, iJ, kI, kK, gI, gK, eO, eP, rK, Bf, lB, mR, eB, all_nil, sz]; rfl
 | ret => simp! [Cmd.d, cZ, qK, qM, kH, kJ, gJ, gL, iG, iI, mZ, nA, iH, iJ, kI, kK, gI, gK, eO, eP, rK, Bf, lB, mR, eB, all_nil, sz]; rfl
 | exch => simp! [Cmd.d, cZ, qK, qM, kH, kJ, gJ, gL, iG, iI, mZ, nA, iH, iJ, kI, kK, gI, gK, eO, eP, rK, Bf, lB, mR, eB, all_nil, sz]; rfl
theorem pJ {z : Str} {r : List D} {S : aL} (h : fM true (.dat (.str z)) S = .ok (.dat (.bl true)) S) : iD [.dat (.tup (.str z :: r))] S = .ok (.dat (.bl false)) S := by
 rw [show iD [.dat (.tup (.str z :: r))] S = cC (iM [some (.dat (.tup (.str z :: r))), none, none, none, none] S) from rfl]
 unfold iM kN;simp! [cZ, h];rw [decide_eq_false (by simp; omega)]
 simp! [cZ, h];rfl
def Stt.blocks : Stt -> List (List Stt)
 | .keep b => [b]
 | .again b => [b]
 | .either a b => [a, b]
 | .call _ _ a b => [a, b]
 | _ => []
def bls (bs : List (List Stt)) : List D := bs.map fun b => .lst (bP b)
theorem lP {s : Stt} {S : aL} (ho : s.isOdd = false) : fG [.dat s.d] S = .ok (.dat (.lst (bls s.blocks))) S := by
 rw [show fG [.dat s.d] S = cC (pA [some (.dat s.d), none] S) from rfl]
 unfold pA;cases s with
 | cmd c => cases c <;> (simp! [Stt.d, Cmd.d, cZ]; rfl)
 | fin w => simp! [Stt.d, cZ]; rfl
 | keep b => simp! [Stt.d, cZ, mG]; rfl
 | again b => simp! [Stt.d, cZ, mG]; rfl
 | either a b => simp! [Stt.d, cZ, mG, As]; rfl
 | call g s a b => simp! [Stt.d, cZ, mG, As, Lz]; rfl
 | bad => simp! [Stt.d, cZ]; rfl
 | odd x => cases ho
theorem Dj {s : Stt} {S : aL} (ho : s.isOdd = false) : lS [.dat s.d, .dat (.lst (bls s.blocks))] S = .ok (.dat s.d) S := by
 rw [show lS [.dat s.d, .dat (.lst (bls s.blocks))] S = cC (lV [some (.dat s.d), some (.dat (.lst (bls s.blocks))), none] S) from rfl]
 unfold lV;cases s with
 | cmd c => cases c <;> (simp! [Stt.d, Cmd.d, cZ]; rfl)
 | fin w => simp! [Stt.d, cZ]; rfl
 | keep b => simp! [Stt.d, Stt.blocks, bls, aU, bW, cZ, IC]; rfl
 | again b => simp! [Stt.d, Stt.blocks, bls, aU, bW, cZ, IC]; rfl
 | either a b => simp! [Stt.d, Stt.blocks, bls, aU, bW, cZ, IC, M0]; rfl
 | call g s a b => simp! [Stt.d, Stt.blocks, bls, aU, bW, cZ, mG, As]; rfl
 | bad => simp! [Stt.d, cZ]; rfl
 | odd x => cases ho
def Stt.wf (lv : Int) : Stt -> Bool
 | .cmd _ => true
 | .fin _ => true
 | .bad => false
 | .odd _ => false
 | _ => !decide (lv = 3)
theorem isb {i : Int} (h : 0 <= i /\ i <= 1) : (decide (0 <= i) && decide (i <= 1)) = true := by simp [h.1, h.2]
theorem Dk {s : Stt} {lv many : Int} {n : Nat} {S : aL} (h : s.Okx many n) : iU [.dat s.d, .dat (.int lv), .dat (.int many)] S = .ok (.dat (.bl (s.wf lv))) S := by
 by_cases ho : s.isOdd = true
 ·cases s <;> first | (cases ho; done) | exact h lv S
 rw [show iU [.dat s.d, .dat (.int lv), .dat (.int many)] S = cC (lW [some (.dat s.d), some (.dat (.int lv)), some (.dat (.int many)), none] S) from rfl]
 unfold lW;cases s with
 | cmd c => simp! [Stt.d, Ob h]; rfl
 | fin w => simp! [Stt.d, pJ M6, cZ, mG, ID, isb h]; rfl
 | bad => simp! [Stt.d, pJ M7]; rfl
 | odd x => exact absurd rfl ho
 | keep b =>
  by_cases hl : lv = 3
  ·simp! [Stt.d, pJ EN, cZ, mG, decide_eq_true hl]; simp [Stt.wf, hl]; rfl
  ·simp! [Stt.d, pJ EN, cZ, mG, decide_eq_false hl]; simp [Stt.wf, hl]; rfl
 | again b =>
  by_cases hl : lv = 3
  ·simp! [Stt.d, pJ C7, cZ, mG, decide_eq_true hl]; simp [Stt.wf, hl]; rfl
  ·simp! [Stt.d, pJ C7, cZ, mG, decide_eq_false hl]; simp [Stt.wf, hl]; rfl
 | either a b =>
  by_cases hl : lv = 3
  ·simp! [Stt.d, pJ Aw, cZ, mG, As, decide_eq_true hl]; simp [Stt.wf, hl]; rfl
  ·simp! [Stt.d, pJ Aw, cZ, mG, As, decide_eq_false hl]; simp [Stt.wf, hl]; rfl
 | call g b a c =>
  obtain ⟨⟨_, h1, h2⟩, _⟩ := h
  by_cases hl : lv = 3
  ·simp! [Stt.d, pJ EO, cZ, mG, As, Lz, decide_eq_true hl]; simp [Stt.wf, hl]; rfl
  ·simp! [Stt.d, pJ EO, cZ, mG, As, Lz, decide_eq_false hl, eB, decide_eq_true h1, decide_eq_true h2, IC, M0]; simp [Stt.wf, hl]; rfl
inductive FR where
 | fault (p : List Int) (m : Int) | okk (m : Int)
abbrev tupI (p : List Int) : D := .tup (p.map D.int)
def FR.d : FR -> D
 | .fault p m => .tup [tupI p, .int m]
 | .okk m => .tup [.non, .int m]
def FR.then (r : FR) (k : Int -> FR) : FR := match r with
 | .fault p m => .fault p m
 | .okk m => k m
mutual
/-- what stands in the blocks of s, at the path here -/
def CD (lv : Int) (here : List Int) : Stt -> Int -> FR
 | .keep b, met => uP (lv + 1) (here ++ [0]) 0 b met
 | .again b, met => uP (lv + 1) (here ++ [0]) 0 b met
 | .either a b, met => (uP (lv + 1) (here ++ [0]) 0 a met).then (uP (lv + 1) (here ++ [1]) 0 b)
 | .call _ _ a b, met => (uP (lv + 1) (here ++ [0]) 0 a met).then (uP (lv + 1) (here ++ [1]) 0 b)
 | _, met => .okk met
def uP (lv : Int) (path : List Int) (at_ : Int) : List Stt -> Int -> FR
 | [], met => .okk met
 | s :: r, met => if at_ = 8 \/ met = 12 \/ s.wf lv = false then .fault (path ++ [at_]) met else
  (CD lv (path ++ [at_]) s (met + 1)).then (uP lv path (at_ + 1) r)
end
def DW (n : Nat) : Prop := ∀ {S : aL} {l : List Stt} {lv many met : Int} {path : List Int} {k : Nat}, zY many l k -> 0 <= lv -> lv <= 3 -> path.length <= 2 * lv.toNat -> 4 - lv.toNat <= n ->
 cU n [.dat (.lst (bP l)), .dat (.int lv), .dat (.int many), .dat (tupI path), .dat (.int met)] S = .ok (.dat (uP lv path 0 l met).d) S
theorem BL {cl : Bool} {p : List Int} {i : Int} {S : aL} (h : p.length <= 100) : dJ cl (.dat (tupI p)) (.dat (.tup [.int i])) S = .ok (.dat (tupI (p ++ [i]))) S := by
 rw [KQ (sz (by simp; omega))]
 simp [tupI]
theorem FR.then_okk {m : Int} {k : Int -> FR} : (FR.okk m).then k = k m := rfl
theorem FR.then_fault {p : List Int} {m : Int} {k : Int -> FR} : (FR.fault p m).then k = .fault p m := rfl
theorem ff_in {n : Nat} (ih : DW n) {S : aL} {s : Stt} {lv many met : Int} {path : List Int} {k : Nat} {a b c : Option Vl} (h : s.Okx many k) (h0 : 0 <= lv) (h3 : lv < 3) (hp : path.length <= 2 * lv.toNat + 1) (hn : 4 - (lv + 1).toNat <= n) :
  loop (.tp [8, 9]) (fC (cU n)) (dA 0 (bls s.blocks)) [a, some (.dat (.int lv)), some (.dat (.int many)), b, some (.dat (.int met)), c, some (.dat s.d), some (.dat (tupI path)), none, none, none] S =
   match CD lv path s met with
   | .fault p m => .ret (.dat (.tup [tupI p, .int m])) S
   | .okk m => .next [a, some (.dat (.int lv)), some (.dat (.int many)), b, some (.dat (.int m)), c, some (.dat s.d), some (.dat (tupI path)), none, none, none] S := by
 have turn : ∀ {l : List Stt} {met : Int} {i : Int}, zY many l (k - 1) -> cU n [.dat (.lst (bP l)), .dat (.int (lv + 1)), .dat (.int many), .dat (tupI (path ++ [i])), .dat (.int met)] S = .ok (.dat (uP (lv + 1) (path ++ [i]) 0 l met).d) S := fun hl => ih hl (by omega) (by omega) (by simp; omega) hn
 have one : ∀ {l : List Stt} {r : List D} {met : Int} {i : Int}, zY many l (k - 1) -> loop (.tp [8, 9]) (fC (cU n)) (.tup [.int i, .lst (bP l)] :: r) [a, some (.dat (.int lv)), some (.dat (.int many)), b, some (.dat (.int met)), c, some (.dat s.d), some (.dat (tupI path)), none, none, none] S =
   match uP (lv + 1) (path ++ [i]) 0 l met with
   | .fault p m => .ret (.dat (.tup [tupI p, .int m])) S
   | .okk m => loop (.tp [8, 9]) (fC (cU n)) r [a, some (.dat (.int lv)), some (.dat (.int many)), b, some (.dat (.int m)), c, some (.dat s.d), some (.dat (tupI path)), none, none, none] S := fun {l r met i} hl => by
  have e := turn (met := met) (i := i) hl;rw [loop];simp only [mR, oK, aY, cY, if_true, bM, bJ];rw [fC];simp! [BL (show path.length <= 100 by omega), e]
  cases q : uP (lv + 1) (path ++ [i]) 0 l met with
  | fault p m => simp! [FR.d, EX]
  | okk m => simp! [FR.d, EX]
 cases s with
 | cmd c => simp only [Stt.blocks, bls, bW, dA, loop, CD]
 | fin w => simp only [Stt.blocks, bls, bW, dA, loop, CD]
 | bad => simp only [Stt.blocks, bls, bW, dA, loop, CD]
 | odd w => simp only [Stt.blocks, bls, bW, dA, loop, CD]
 | keep x =>
  simp only [Stt.blocks, bls, bW, aU, dA, CD, jD, gM, vX];rw [one h.2];cases uP (lv + 1) (path ++ [0]) 0 x met <;> rfl
 | again x =>
  simp only [Stt.blocks, bls, bW, aU, dA, CD, jD, gM, vX];rw [one h.2];cases uP (lv + 1) (path ++ [0]) 0 x met <;> rfl
 | either x y =>
  simp only [Stt.blocks, bls, bW, aU, dA, CD, jD, gM, vX];rw [one h.2.1];cases uP (lv + 1) (path ++ [0]) 0 x met with
  | fault p m => rfl
  | okk m =>
   simp only [FR.then_okk];rw [one h.2.2];cases uP (lv + 1) (path ++ [1]) 0 y m <;> rfl
 | call g f x y =>
  simp only [Stt.blocks, bls, bW, aU, dA, CD, jD, gM, vX];rw [one h.2.1];cases uP (lv + 1) (path ++ [0]) 0 x met with
  | fault p m => rfl
  | okk m =>
   simp only [FR.then_okk];rw [one h.2.2];cases uP (lv + 1) (path ++ [1]) 0 y m <;> rfl
theorem KZ {n : Nat} (ih : DW n) {S : aL} {lv many : Int} {path : List Int} {k : Nat} {a : Option Vl} (h0 : 0 <= lv) (h3 : lv <= 3) (hp : path.length <= 2 * lv.toNat) (hn : 4 - (lv + 1).toNat <= n) :
  ∀ (l : List Stt) (at_ : Nat) (met : Int), zY many l k -> loop (.tp [5, 6]) (iY (cU n)) (dA at_ (bP l)) [a, some (.dat (.int lv)), some (.dat (.int many)), some (.dat (tupI path)), some (.dat (.int met)), none, none, none, none, none, none] S =
   match uP lv path (at_ : Nat) l met with
   | .fault p m => .ret (.dat (.tup [tupI p, .int m])) S
   | .okk m => .next [a, some (.dat (.int lv)), some (.dat (.int many)), some (.dat (tupI path)), some (.dat (.int m)), none, none, none, none, none, none] S
 | [], at_, met, _ => rfl
 | s :: r, at_, met, h => by
  have rest := KZ ih (S := S) (many := many) (k := k) (a := a) h0 h3 hp hn r (at_ + 1);simp only [bP, dA];rw [loop];simp only [mR, oK, aY, cY, if_true, bM, bJ];rw [iY];simp! [BL (show path.length <= 100 by omega)]
  by_cases h8 : ((at_ : Nat) : Int) = 8
  ·simp! [decide_eq_true h8]
   unfold uP;rw [if_pos (.inl h8)]
  ·simp! [decide_eq_false h8]
   by_cases hm : met = 12
   ·simp! [decide_eq_true hm]
    unfold uP;rw [if_pos (.inr (.inl hm))]
   ·simp! [decide_eq_false hm, Dk h.1]
    cases hw : s.wf lv with
    | false =>
     simp! [if_true];unfold uP;rw [if_pos (.inr (.inr hw))]
    | true =>
     have hlv : CD lv (path ++ [((at_ : Nat) : Int)]) s (met + 1) = .okk (met + 1) /\ s.blocks = [] \/ lv < 3 := by
      cases s with
      | cmd c => exact .inl ⟨rfl, rfl⟩
      | fin w => exact .inl ⟨rfl, rfl⟩
      | bad => cases hw
      | odd x => cases hw
      | keep b => refine .inr ?_; simp [Stt.wf] at hw; omega
      | again b => refine .inr ?_; simp [Stt.wf] at hw; omega
      | either a b => refine .inr ?_; simp [Stt.wf] at hw; omega
      | call g f a b => refine .inr ?_; simp [Stt.wf] at hw; omega
     have ea : ∀ x y z : Option Vl, Je (fun x y => x + y) 4 (mC (.int 1)) [a, some (.dat (.int lv)), some (.dat (.int many)), some (.dat (tupI path)), some (.dat (.int met)), x, y, z, none, none, none] S = .next [a, some (.dat (.int lv)), some (.dat (.int many)), some (.dat (tupI path)), some (.dat (.int (met + 1))), x, y, z, none, none, none] S := fun _ _ _ => rfl
     have e2 : uP lv path ((at_ : Nat) : Int) (s :: r) met = (CD lv (path ++ [((at_ : Nat) : Int)]) s (met + 1)).then (uP lv path (((at_ + 1 : Nat) : Int)) r) := by
      rw [uP, if_neg (by rintro (h | h | h) <;> first | exact h8 h | exact hm h | (rw [hw] at h; cases h))]
      rfl
     rw [e2];have ho : s.isOdd = false := by cases s <;> first | rfl | (cases hw; done)
     simp! [ea, lP ho];rcases hlv with ⟨q1, q2⟩ | hlv
     ·rw [q1, q2]
      simp! [bls, bW, dA, loop, FR.then_okk];exact rest (met + 1) h.2
     ·rw [ff_in ih h.1 h0 hlv (by simp; omega) hn]
      cases q : CD lv (path ++ [((at_ : Nat) : Int)]) s (met + 1) with
      | fault p m => simp! [FR.then_fault]
      | okk m =>
       simp! [FR.then_okk];exact rest m h.2
theorem Kc (n : Nat) : DW n := by
 induction n with
 | zero =>
  intro S l lv many met path k hl h0 h3 hp hn;omega
 | succ n ih =>
  intro S l lv many met path k hl h0 h3 hp hn;rw [show cU (n + 1) [.dat (.lst (bP l)), .dat (.int lv), .dat (.int many), .dat (tupI path), .dat (.int met)] S = cC (lX (cU n) [some (.dat (.lst (bP l))), some (.dat (.int lv)), some (.dat (.int many)), some (.dat (tupI path)), some (.dat (.int met)), none, none, none, none, none, none] S) from rfl]
  unfold lX;have e := KZ ih (S := S) (a := some (.dat (.lst (bP l)))) h0 h3 hp (by omega) l 0 met hl
  rw [gM] at e;simp! [e];cases q : uP lv path 0 l met with
  | fault p m => simp! [if_true]; rfl
  | okk m => simp! [if_true]; rfl
theorem EH {α : Type} {t : Tg} {e : FE} {ρ : Ev} {S : aL} {f g : α -> D} : ∀ {xs : List α}, (∀ x ∈ xs, ∃ ρ1, mR t (.dat (f x)) ρ = some ρ1 /\ e ρ1 S = .ok (.dat (g x)) S) -> lB t hW e ρ (xs.map f) S = .ok (xs.map g) S
 | [], _ => rfl
 | x :: xs, h => by
  obtain ⟨ρ1, h1, h2⟩ := h x (aW ..);have ih := EH (xs := xs) fun y hy => h y (aQ _ hy)
  rw [aU, lB];simp only [h1, Ng, h2, if_true, ih, aU]
theorem lT {α : Type} {cl : Bool} {t : Tg} {e : FE} {ρ : Ev} {S : aL} {f g : α -> D} {xs : List α} {vs : List Nat} (hl : xs.length <= sizeLine) (h : ∀ x ∈ xs, ∃ ρ1, mR t (.dat (f x)) (wipeE ρ vs) = some ρ1 /\ e ρ1 S = .ok (.dat (g x)) S) : Bf cl t hW e ρ vs (xs.map f) S = newL cl (xs.map g) S := by
 unfold Bf;rw [bN, if_pos hl, EH h]
theorem kO : ∀ l : List Stt, bP l = l.map Stt.d
 | [] => rfl
 | s :: r => by rw [bP, kO r]; rfl
theorem jO {many : Int} {s : Stt} {k : Nat} (h : s.Ok many k) : ∀ b ∈ s.blocks, 0 < k /\ OkL many b (k - 1) := by
 intro b hb;cases s with
 | cmd c => cases hb
 | fin w => cases hb
 | bad => cases hb
 | odd x => cases hb
 | keep x => simp [Stt.blocks] at hb; subst hb; exact h
 | again x => simp [Stt.blocks] at hb; subst hb; exact h
 | either x y => simp [Stt.blocks] at hb; rcases hb with rfl | rfl; exact ⟨h.1, h.2.1⟩; exact ⟨h.1, h.2.2⟩
 | call g f x y => simp [Stt.blocks] at hb; rcases hb with rfl | rfl; exact ⟨h.1.1, h.2.1⟩; exact ⟨h.1.1, h.2.2⟩
theorem OkL.mem {many : Int} : ∀ {l : List Stt} {k : Nat}, OkL many l k -> ∀ s ∈ l, s.Ok many k
 | [], _, _, s, hs => by cases hs
 | x :: r, k, h, s, hs => by
  rcases cJ.mp hs with rfl | hs
  ·exact h.1.1
  ·exact OkL.mem h.2 s hs
theorem nX {s : Stt} : s.blocks.length <= 2 := by cases s <;> simp [Stt.blocks]
def Pw (n : Nat) : Prop := (∀ {S : aL} {many : Int} {s : Stt} {k : Nat}, s.Ok many k -> 2 * k + 1 <= n -> dZ n [.dat s.d] S = .ok (.dat s.d) S) /\ ∀ {S : aL} {many : Int} {l : List Stt} {k : Nat}, OkL many l k -> 2 * k + 2 <= n -> eG n [.dat (.lst (bP l))] S = .ok (.dat (.lst (bP l))) S
theorem HF (n : Nat) : Pw n := by
 induction n with
 | zero => exact ⟨fun _ h => by omega, fun _ h => by omega⟩
 | succ n ih =>
  constructor
  ·intro S many s k h hn
   rw [show dZ (n + 1) [.dat s.d] S = cC (gN (eG n) [some (.dat s.d), none] S) from rfl]
   unfold gN;simp! [lP h.no];rw [show bls s.blocks = s.blocks.map (fun b => .lst (bP b)) from rfl, lT (g := fun b => .lst (bP b)) (sz (by have := nX (s := s); omega)) fun b hb => ⟨_, rfl, ?_⟩]
   ·simp! [show s.blocks.map (fun b => D.lst (bP b)) = bls s.blocks from rfl, Dj h.no]
    rfl
   ·obtain ⟨h1, h2⟩ := jO h b hb
    simp! [ih.2 h2 (by omega)]
  ·intro S many l k h hn
   rw [show eG (n + 1) [.dat (.lst (bP l))] S = cC (kR (dZ n) [some (.dat (.lst (bP l))), none] S) from rfl]
   unfold kR;simp! [kO];rw [lT (g := Stt.d) (sz (by have := h.len; omega)) fun s hs => ⟨_, rfl, ?_⟩]
   ·rfl
   ·simp! [ih.1 (h.mem s hs) (by omega)]
theorem Ey {s : Stt} {S : aL} (ho : s.isOdd = false) : lL [.dat s.d] S = .ok (.dat (.lst (bls s.blocks))) S := by
 rw [show lL [.dat s.d] S = cC (qS [some (.dat s.d), none] S) from rfl]
 unfold qS;cases s with
 | cmd c => cases c <;> (simp! [Stt.d, Cmd.d, cZ, rK, Bf, lB, mR, sz]; rfl)
 | fin w => simp! [Stt.d, cZ, rK, Bf, lB, mR, sz]; rfl
 | keep b => simp! [Stt.d, cZ, rK, Bf, lB, mR, sz]; rfl
 | again b => simp! [Stt.d, cZ, rK, Bf, lB, mR, sz]; rfl
 | either a b => simp! [Stt.d, cZ, rK, Bf, lB, mR, sz]; rfl
 | call g s a b => simp! [Stt.d, cZ, Lz]; rfl
 | bad => simp! [Stt.d, cZ, rK, Bf, lB, mR, sz]; rfl
 | odd x => cases ho
theorem cut_3 {a b c d : D} : cutD [a, b, c, d] none (some 3) = [a, b, c] := rfl
theorem Pt {s : Stt} {S : aL} (ho : s.isOdd = false) : vQ [.dat s.d, .dat (.lst (bls s.blocks))] S = .ok (.dat s.d) S := by
 rw [show vQ [.dat s.d, .dat (.lst (bls s.blocks))] S = cC (wO [some (.dat s.d), some (.dat (.lst (bls s.blocks)))] S) from rfl]
 unfold wO;cases s with
 | cmd c => cases c <;> (simp! [Stt.d, Cmd.d, Stt.blocks, bls, bW, cZ]; rfl)
 | fin w => simp! [Stt.d, Stt.blocks, bls, bW, cZ]; rfl
 | keep b => simp! [Stt.d, Stt.blocks, bls, aU, bW, cZ]; rfl
 | again b => simp! [Stt.d, Stt.blocks, bls, aU, bW, cZ]; rfl
 | either a b => simp! [Stt.d, Stt.blocks, bls, aU, bW, cZ]; rfl
 | call g s a b => simp! [Stt.d, Stt.blocks, bls, aU, bW, cZ, cut_3]; rfl
 | bad => simp! [Stt.d, Stt.blocks, bls, bW, cZ]; rfl
 | odd x => cases ho
theorem Pu {many : Int} (n : Nat) : ∀ {S : aL} {l : List Stt} {k : Nat}, OkL many l k -> k + 1 <= n -> pV n [.dat (.lst (bP l))] S = .ok (.dat (.lst (bP l))) S := by
 induction n with
 | zero => intro S l k h hn; omega
 | succ n ih =>
  intro S l k h hn;rw [show pV (n + 1) [.dat (.lst (bP l))] S = cC (wW (pV n) [some (.dat (.lst (bP l))), none, none] S) from rfl]
  unfold wW;simp! [kO];rw [lT (g := Stt.d) (sz (by have := h.len; omega)) fun s hs => ⟨_, rfl, ?_⟩]
  ·rfl
  ·unfold uQ
   simp! [Ey (h.mem s hs).no];rw [show bls s.blocks = s.blocks.map (fun b => .lst (bP b)) from rfl, lT (g := fun b => .lst (bP b)) (sz (by have := nX (s := s); omega)) fun b hb => ⟨_, rfl, ?_⟩]
   ·simp! [show s.blocks.map (fun b => D.lst (bP b)) = bls s.blocks from rfl, Pt (h.mem s hs).no]
   ·obtain ⟨h1, h2⟩ := jO (h.mem s hs) b hb
    simp! [ih h2 (by omega)]
theorem L8 {many : Int} {bs : List (List Stt)} {S : aL} {k : Nat} (hb : ∀ b ∈ bs, OkL many b k) (hk : k <= 9) (hl : bs.length <= 10) : qI [.dat (.lst (bls bs))] S = .ok (.dat (.lst (bls bs))) S := by
 rw [show qI [.dat (.lst (bls bs))] S = cC (qR [some (.dat (.lst (bls bs))), none] S) from rfl]
 unfold qR;simp! [if_true];rw [show bls bs = bs.map (fun b => .lst (bP b)) from rfl, lT (g := fun b => .lst (bP b)) (sz (by omega)) fun b hb' => ⟨_, rfl, ?_⟩]
 ·rfl
 ·simp! [Pu 10 (hb b hb') (by omega)]
def sS (p : Int) : List (List Stt) -> Option (Int × List Int)
 | [] => none
 | b :: r => match uP 0 [] 0 b 0 with
  | .fault q _ => some (p, q)
  | .okk _ => sS (p + 1) r
def Fb (i : Int) (q : List Int) : Er := ⟨"NoBook", ["path", "procedure"], [tupI q, .int i]⟩
theorem C8 {S : aL} {many : Int} {k : Nat} {a : Option Vl} {bs0 : List D} (hm : many = (bs0.length : Int)) : ∀ (bs : List (List Stt)) (p : Nat), (∀ b ∈ bs, OkL many b k) ->
  match sS (p : Nat) bs with
  | none => loop (.tp [2, 3]) dO (dA p (bls bs)) [a, some (.dat (.lst bs0)), none, none, none, none] S = .next [a, some (.dat (.lst bs0)), none, none, none, none] S
  | some (i, q) => ∃ ρ', loop (.tp [2, 3]) dO (dA p (bls bs)) [a, some (.dat (.lst bs0)), none, none, none, none] S = .err (Fb i q) ρ' S
 | [], p, _ => rfl
 | b :: r, p, h => by
  have ih := C8 (S := S) (k := k) (a := a) hm r (p + 1) fun b hb => h b (aQ _ hb)
  have hb := h b (aW ..);have e1 : cU 10 [.dat (.lst (bP b)), .dat (.int 0), .dat (.int (bs0.length : Int)), .dat (.tup []), .dat (.int 0)] S = .ok (.dat (uP 0 [] 0 b 0).d) S := by
   rw [<- hm];exact Kc 10 (path := []) hb.x (by omega) (by omega) (by simp) (by simp)
  have el : loop (.tp [2, 3]) dO (dA p (bls (b :: r))) [a, some (.dat (.lst bs0)), none, none, none, none] S = (match dO [a, some (.dat (.lst bs0)), some (.dat (.int (p : Nat))), some (.dat (.lst (bP b))), none, none] S with
   | .next ρ2 S2 => loop (.tp [2, 3]) dO (dA (p + 1) (bls r)) ρ2 S2
   | .cnt ρ2 S2 => loop (.tp [2, 3]) dO (dA (p + 1) (bls r)) ρ2 S2
   | .brk ρ2 S2 => .next ρ2 S2
   | .ret d S2 => .ret d S2
   | .err e ρ2 S2 => .err e ρ2 S2
   | .stuck => .stuck) := rfl
  rw [el, dO];simp! [e1];rw [sS];cases q : uP 0 [] 0 b 0 with
  | fault pp mm =>
   simp! [FR.d, EX];exact ⟨_, rfl⟩
  | okk mm =>
   simp! [FR.d, EX];rw [<- dO];exact ih
def dD (bs : List (List Stt)) : D := .ins "Book" ["own"] [.lst (bls bs)]
theorem Jh {d : Vl} : ∀ {ρ : Ev} {i : Nat}, i < ρ.length -> lk (ρ.set i (some d)) i = some d
 | [], i, h => by simp at h
 | x :: r, 0, h => rfl
 | x :: r, i + 1, h => Jh (ρ := r) (by simpa using h)
theorem HY {ρ : Ev} {i : Nat} : (wipeE ρ [i]).length = ρ.length := by simp [wipeE]
theorem uD {cl : Bool} {S : aL} {many : Int} {k i : Nat} {bs : List (List Stt)} {ρ : Ev} (hb : ∀ b ∈ bs, OkL many b k) (hk : k <= 9) (hl : bs.length <= 10) (h : i < ρ.length) : Bf cl (.nm i) hW (aR (eG 20) (aB (aD i) aJ)) ρ [i] (bls bs) S = newL cl (bls bs) S := by
 rw [show bls bs = bs.map (fun b => .lst (bP b)) from rfl, lT (g := fun b => .lst (bP b)) (sz (by omega)) fun b hb' => ?_]
 have e2 := Jh (d := .dat (.lst (bP b))) (ρ := wipeE ρ [i]) (i := i) (by rw [HY]; exact h)
 refine ⟨(wipeE ρ [i]).set i (some (.dat (.lst (bP b)))), rfl, ?_⟩
 simp (config := { implicitDefEqProofs := false }) only [KP, KJ, Nh, e2, CB, Gz, Ni, Gy];exact (HF 20).2 (hb b hb') (by omega)
theorem M8 {S : aL} {many : Int} {k n : Nat} {bs : List (List Stt)} (hb : ∀ b ∈ bs, OkL many b k) (hk : k <= 9) (hm : many = (bs.length : Int)) (h1 : 1 <= bs.length) (h3 : bs.length <= 3) (hn : S[n]? = some (.ins "Book" [])) :
  jL [.cel n, .dat (.lst (bls bs))] S = match sS 0 bs with
   | none => .ok (.dat .non) (S.set n (.ins "Book" [("own", .dat (.lst (bls bs)))]))
   | some (i, q) => .err (Fb i q) S := by
 rw [show jL [.cel n, .dat (.lst (bls bs))] S = cC (pE [some (.cel n), some (.dat (.lst (bls bs))), none, none, none, none] S) from rfl]
 unfold pE;have hl : (bls bs).length = bs.length := by simp [bls]
 have e := C8 (S := S) (a := some (.cel n)) (bs0 := bls bs) (by rw [hl]; exact hm) bs 0 hb
 rw [gM] at e;simp! [hl, decide_eq_true (show (1 : Int) <= (bs.length : Int) by omega), decide_eq_true (show (bs.length : Int) <= 3 by omega)]
 cases q : sS 0 bs with
 | none =>
  rw [q] at e;simp! [e, uD hb hk (show bs.length <= 10 by omega), EU hn (by simp)]
  rfl
 | some x =>
  obtain ⟨i, p⟩ := x;rw [q] at e;obtain ⟨ρ', e⟩ := e;simp! [e];rfl
theorem Fj {S : aL} {bs : List (List Stt)} (hl : bs.length <= 10) : Az "Book" lM (.dat (dD bs)) S = .ok (.dat (.int (bs.length : Int))) S := by
 have e : lM [.dat (dD bs)] S = .ok (.dat (.int (bs.length : Int))) S := by
  rw [show lM [.dat (dD bs)] S = cC (qU [some (.dat (dD bs))] S) from rfl]
  unfold qU dD;simp! [pN, eY];simp [bls];rfl
 rw [Az, if_pos (by simp [rB, dD, J5]), e, OM, if_pos (by omega)]
theorem Ib {S : aL} {many : Int} {k : Nat} {bs : List (List Stt)} (hb : ∀ b ∈ bs, OkL many b k) (hk : k <= 9) (hl : bs.length <= 10) : gV [.dat (dD bs)] S = .ok (.dat (.lst (bls bs))) S := by
 rw [show gV [.dat (dD bs)] S = cC (lY [some (.dat (dD bs)), none] S) from rfl]
 unfold lY dD;simp! [pN, eY, uD hb hk hl];rfl
theorem Lq {S : aL} {many : Int} {k : Nat} {bs : List (List Stt)} (ls : LS S) (hb : ∀ b ∈ bs, OkL many b k) (hk : k <= 9) (hm : many = (bs.length : Int)) (h1 : 1 <= bs.length) (h3 : bs.length <= 3) :
  C4 false "Book" jL [.dat (.lst (bls bs))] S = match sS 0 bs with
   | none => .ok (.dat (dD bs)) S
   | some (i, q) => .err (Fb i q) S := by
 have t : ((S ++ [Cell.ins "Book" []]).take S.length) = S := by simp
 have ls' := ls.take (n := S.length) (m := S.length);rw [List.take_length] at ls';unfold C4;rw [M8 hb hk hm h1 h3 (by simp)]
 cases q : sS 0 bs with
 | none =>
  dsimp only [made];rw [tU _ _ (bH _), HV];simp [BJ, dD, ls']
 | some x =>
  obtain ⟨i, p⟩ := x;dsimp only [made];rw [t, if_pos ls']
end PH
namespace PH
open PySem PySem.Spec PyProof PyProof.Rows L2
mutual
/-- the height -/
def D.ht : D -> Nat
 | .lst xs => D.hts xs + 1
 | .tup xs => D.hts xs + 1
 | _ => 0
def D.hts : List D -> Nat
 | [] => 0
 | x :: r => max (D.ht x) (D.hts r)
end
mutual
/-- no instances, no dicts; texts that may be compared -/
def D.Pl : D -> Prop
 | .lst xs => xs.length <= 1000 /\ D.Pls xs
 | .tup xs => xs.length <= 1000 /\ D.Pls xs
 | .str x => PyData.strOk x = true
 | .ins _ _ _ => False
 | .dct => False
 | .opq _ => False
 | _ => True
def D.Pls : List D -> Prop
 | [] => True
 | x :: r => D.Pl x /\ D.Pls r
end
mutual
theorem NQ : ∀ d : D, d.Pl -> ∃ p, d.py = some p /\ p.canLay0 = true /\ p.depth = d.ht
 | .non, _ => ⟨_, rfl, rfl, rfl⟩
 | .bl b, _ => ⟨_, rfl, rfl, rfl⟩
 | .int i, _ => ⟨_, rfl, rfl, rfl⟩
 | .str x, h => ⟨_, rfl, h, rfl⟩
 | .lst xs, h => by
  obtain ⟨ps, e1, e2, e3⟩ := FN xs h.2;refine ⟨.list ps, ?_, e2, ?_⟩
  ·simp only [D.py, e1]
  ·simp only [PyData.depth, D.ht, e3]
 | .tup xs, h => by
  obtain ⟨ps, e1, e2, e3⟩ := FN xs h.2;refine ⟨.tuple ps, ?_, e2, ?_⟩
  ·simp only [D.py, e1]
  ·simp only [PyData.depth, D.ht, e3]
 | .ins _ _ _, h => h.elim
 | .dct, h => h.elim
 | .opq _, h => h.elim
theorem FN : ∀ ds : List D, D.Pls ds -> ∃ ps, D.pys ds = some ps /\ PyData.canLayAll0 ps = true /\ PyData.depthAll ps = D.hts ds
 | [], _ => ⟨_, rfl, rfl, rfl⟩
 | d :: r, h => by
  obtain ⟨p, e1, e2, e3⟩ := NQ d h.1;obtain ⟨ps, f1, f2, f3⟩ := FN r h.2;refine ⟨p :: ps, ?_, ?_, ?_⟩
  ·simp only [D.pys, e1, f1]
  ·simp only [PyData.canLayAll0, e2, f2, F2]
  ·simp only [PyData.depthAll, D.hts, e3, f3]
end
theorem Bw {d : D} {p : PyData} (h : d.Pl) (hd : d.ht <= 64) (e : d.py = some p) : SeqAt.shaped p = true := by
 obtain ⟨p', e1, e2, e3⟩ := NQ d h;rw [e] at e1;cases e1;unfold SeqAt.shaped;rw [e2, e3, decide_eq_true hd];rfl
mutual
theorem Stt.plain {many : Int} : ∀ (s : Stt) (k : Nat), s.Ok many k -> s.d.Pl /\ s.d.ht <= 3 * k + 1
 | .cmd c, k, h => by cases c <;> exact ⟨⟨by simp, by simp only [D.Pl, D.Pls, and_true]; decide +kernel⟩, by simp [Stt.d, Cmd.d, D.ht, D.hts]⟩
 | .fin w, k, h => ⟨⟨by simp, by simp only [D.Pl, D.Pls, and_true]; decide +kernel⟩, by simp [Stt.d, D.ht, D.hts]⟩
 | .bad, k, h => ⟨⟨by simp, by simp only [D.Pl, D.Pls, and_true]; decide +kernel⟩, by simp [Stt.d, D.ht, D.hts]⟩
 | .odd x, k, h => h.elim
 | .keep b, k, h => by
  obtain ⟨h1, h2⟩ := hZ b (k - 1) h.2;have l1 := h.2.len;have := h.1;exact ⟨⟨by simp, by show PyData.strOk _ = true; decide +kernel, ⟨by rw [cK]; omega, h1⟩, trivial⟩, by simp [Stt.d, D.ht, D.hts]; omega⟩
 | .again b, k, h => by
  obtain ⟨h1, h2⟩ := hZ b (k - 1) h.2;have l1 := h.2.len;have := h.1;exact ⟨⟨by simp, by show PyData.strOk _ = true; decide +kernel, ⟨by rw [cK]; omega, h1⟩, trivial⟩, by simp [Stt.d, D.ht, D.hts]; omega⟩
 | .either a b, k, h => by
  obtain ⟨h1, h2⟩ := hZ a (k - 1) h.2.1;obtain ⟨h3, h4⟩ := hZ b (k - 1) h.2.2;have l1 := h.2.1.len;have l2 := h.2.2.len;have := h.1;exact ⟨⟨by simp, by show PyData.strOk _ = true; decide +kernel, ⟨by rw [cK]; omega, h1⟩, ⟨by rw [cK]; omega, h3⟩, trivial⟩, by simp [Stt.d, D.ht, D.hts]; omega⟩
 | .call g f a b, k, h => by
  obtain ⟨h1, h2⟩ := hZ a (k - 1) h.2.1;obtain ⟨h3, h4⟩ := hZ b (k - 1) h.2.2;have l1 := h.2.1.len;have l2 := h.2.2.len;have := h.1.1;exact ⟨⟨by simp, by show PyData.strOk _ = true; decide +kernel, trivial, trivial, ⟨by simp, ⟨by rw [cK]; omega, h1⟩, ⟨by rw [cK]; omega, h3⟩, trivial⟩, trivial⟩, by simp [Stt.d, D.ht, D.hts]; omega⟩
theorem hZ {many : Int} : ∀ (l : List Stt) (k : Nat), OkL many l k -> D.Pls (bP l) /\ D.hts (bP l) <= 3 * k + 1
 | [], k, _ => ⟨trivial, by simp [bP, D.hts]⟩
 | s :: r, k, h => by
  obtain ⟨h1, h2⟩ := Stt.plain s k h.1.1;obtain ⟨h3, h4⟩ := hZ r k h.2;exact ⟨⟨h1, h3⟩, by simp [bP, D.hts]; omega⟩
end
theorem Fn : ∀ {xs : List D} {x : D}, x ∈ xs -> x.ht <= D.hts xs
 | y :: r, x, h => by
  rcases cJ.mp h with rfl | h
  ·simp [D.hts]; omega
  ·have := Fn h; simp [D.hts]; omega
theorem FP : ∀ {xs : List D} {x : D}, D.Pls xs -> x ∈ xs -> x.Pl
 | y :: r, x, hp, h => by
  rcases cJ.mp h with rfl | h
  ·exact hp.1
  ·exact FP hp.2 h
theorem all_true {α : Type} {S : aL} (xs : List α) : wC (.dat (.lst (xs.map fun _ => D.bl true))) S = .ok (.dat (.bl true)) S := by
 have : ∀ xs : List α, wZ (xs.map fun _ => D.bl true) = some (xs.map fun _ => true) := fun xs => by
  induction xs with
  | nil => rfl
  | cons x r ih => simp only [aU, wZ, ih]
 simp only [wC, lA, this]
 congr 3
 simp
theorem Mv {S : aL} : eZ (.dat .non) (.dat .non) S = .ok (.dat (.bl true)) S := by
 show (if shp .none .none = true then Res.ok (Vl.dat (D.bl (PyData.eqv .none .none))) S else .stuck) = _
 rw [if_pos (by decide +kernel)]
 rfl
theorem GQ {n : Nat} {xs : List D} {S : aL} {f : FD} {i : Nat} {x y : D} (hx : xs[i]? = some x) (ex : cM (.dat y) (.dat (.int (0 + (i : Int)))) S = .ok (.dat x) S) (h : f [.dat x, .dat x] S = .ok (.dat (.bl true)) S) : qN f [some (.dat y), some (.dat y), some (.dat (.int (0 + (i : Int))))] S = .ok (.dat (.bl true)) S := by
 unfold qN;simp! [ex, h]
theorem GP (n : Nat) : ∀ {S : aL} {d : D}, d.Pl -> d.ht < n -> kE n [.dat d, .dat d] S = .ok (.dat (.bl true)) S := by
 induction n with
 | zero => intro S d _ h; omega
 | succ n ih =>
  intro S d hp hd;rw [show kE (n + 1) [.dat d, .dat d] S = cC (wQ (kE n) [some (.dat d), some (.dat d), none] S) from rfl]
  unfold wQ;cases d with
  | non => simp! [Mv]; rfl
  | bl b => simp! [if_true]; rfl
  | int i => simp! [if_true]; rfl
  | str x => simp! [if_true]; rfl
  | ins _ _ _ => exact hp.elim
  | dct => exact hp.elim
  | opq _ => exact hp.elim
  | lst xs =>
   have hl := hp.1;simp! [iK (show -(2 ^ 62) <= (xs.length : Int) by omega) (show (xs.length : Int) < 2 ^ 62 by omega), gH, dX]
   rw [lT (g := fun _ => D.bl true) (sz (by simp; omega)) fun i hi => ⟨_, rfl, ?_⟩]
   ·simp! [if_true]
    rw [all_true];rfl
   ·have hi' : i < xs.length := Da.mp hi
    have hx : xs[i]? = some xs[i] := aZ hi';have hm : xs[i] ∈ xs := dN hi';have := Fn hm;have hd' : D.hts xs + 1 < n + 1 := hd;exact GQ (n := n) hx (kL (by rw [cQ (n := i) (by omega), hx])) (ih (FP hp.2 hm) (by omega))
  | tup xs =>
   have hl := hp.1;simp! [iK (show -(2 ^ 62) <= (xs.length : Int) by omega) (show (xs.length : Int) < 2 ^ 62 by omega), gH, dX]
   rw [lT (g := fun _ => D.bl true) (sz (by simp; omega)) fun i hi => ⟨_, rfl, ?_⟩]
   ·simp! [if_true]
    rw [all_true];rfl
   ·have hi' : i < xs.length := Da.mp hi
    have hx : xs[i]? = some xs[i] := aZ hi';have hm : xs[i] ∈ xs := dN hi';have := Fn hm;have hd' : D.hts xs + 1 < n + 1 := hd;exact GQ (n := n) hx (yY (by rw [cQ (n := i) (by omega), hx])) (ih (FP hp.2 hm) (by omega))
theorem vI {lo : Int} {n : Nat} : gH lo (n + 1) = .int lo :: gH (lo + 1) n := by
 unfold gH;rw [sV, aU, iX]
 congr 1
 ·simp
 ·apply nZ
  intro k _;simp only [Function.comp]
  congr 1
  omega
abbrev rm (S : aL) (q : Nat) (m : Int) : aL := S.set q (.lst [.int m])
theorem qP {bs : List (List Stt)} : (bls bs).length = bs.length := by simp [bls]
theorem Ko {ns : List Int} {lo hi : Option Int} : ∃ ms : List Int, cutD (ns.map D.int) lo hi = ms.map D.int /\ ms.length <= ns.length := by
 refine ⟨(ns.drop (HT.sIx (ns.map D.int).length 0 lo)).take (HT.sIx (ns.map D.int).length (ns.map D.int).length hi - HT.sIx (ns.map D.int).length 0 lo), ?_, ?_⟩
 ·simp only [cutD, List.map_take, List.map_drop]
 ·simp; omega
theorem Lf {ns : List Int} {S : aL} (hn : ns.length <= 63) : ∃ ks : List Int, vR [.scr ns] S = .ok (.cel S.length) (S ++ [PL ks]) /\ 2 <= ks.length := by
 obtain ⟨ms, e, hl⟩ := Ko (ns := ns) (lo := none) (hi := some 63);rw [show vR [.scr ns] S = cC (wR [some (.scr ns), none] S) from rfl]
 unfold wR;simp! [e];rw [lT (g := D.int) (sz (by omega)) fun i hi => ⟨_, rfl, ?_⟩]
 ·cases ms with
  | nil =>
   refine ⟨[0, 0], ?_, by simp⟩
   simp! [bW, List.isEmpty_nil, lO (show [D.int 0].length + [D.int 0].length <= sizeLine from sz (by simp))]
   rfl
  | cons i r =>
   refine ⟨0 :: i :: r, ?_, by simp⟩
   simp! [aU, List.isEmpty_cons, lO (show [D.int 0].length + (D.int i :: r.map D.int).length <= sizeLine from sz (by simp at *; omega))]
   rfl
 ·simp! [if_true]
theorem Ny {T : aL} {d : D} : trunc 0 (.ok (.dat d) T) = .ok (.dat d) [] := by simp [trunc, Vl.below]
theorem CW {many : Int} : ∀ {bs : List (List Stt)} {k : Nat}, (∀ b ∈ bs, OkL many b k) -> D.Pls (bls bs) /\ D.hts (bls bs) <= 3 * k + 2
 | [], k, _ => ⟨trivial, by simp [bls, D.hts]⟩
 | b :: r, k, h => by
  obtain ⟨h1, h2⟩ := CW (bs := r) (k := k) fun b hb => h b (aQ _ hb)
  have hb := h b (aW ..);obtain ⟨h3, h4⟩ := hZ b k hb;have := hb.len;refine ⟨⟨⟨by rw [cK]; omega, h3⟩, h1⟩, ?_⟩
  simp only [bls] at h2;simp only [bls, aU, D.hts, D.ht];omega
def told (bs : List (List Stt)) : D := match sS 0 bs with
 | none => .tup [.str "told", .int (bs.length : Int), .lst (bls bs)]
 | some (i, q) => .tup [.str "NoBook", .int i, tupI q]
structure Dr (p q c N : Nat) (many : Int) (S : aL) (r l : Int) : Prop where
 ls : LS S
 n2 : 2 <= N
 pool : ∃ ks, S[p]? = some (PL ks) /\ ks.length = N
 room : S[q]? = some (PL [r])
 call : S[c]? = some (PL [l, many])
 pq : p ≠ q
 pc : p ≠ c
 qc : q ≠ c
def Sam (Z : List Nat) (S S' : aL) : Prop := S'.length = S.length /\ ∀ i : Nat, i ∉ Z -> S'[i]? = S[i]?
theorem Sam.refl {Z : List Nat} {S : aL} : Sam Z S S := ⟨rfl, fun _ _ => rfl⟩
theorem Sam.trans {Z : List Nat} {S S1 S2 : aL} (a : Sam Z S S1) (b : Sam Z S1 S2) : Sam Z S S2 := ⟨by rw [b.1, a.1], fun i h => by rw [b.2 i h, a.2 i h]⟩
theorem Sam.set {Z : List Nat} {S : aL} {k : Nat} {x : Cell} (h : k ∈ Z) : Sam Z S (S.set k x) := ⟨by simp, fun i hi => by
 rw [bC, if_neg (show ¬ k = i from fun e => hi (by rw [<- e]; exact h))]⟩
section
variable {p q c N : Nat} {many r l : Int} {S : aL}
theorem lG {S : aL} {i j : Nat} {x : Cell} (h : i ≠ j) : (S.set i x)[j]? = S[j]? := by rw [bC, if_neg h]
theorem Dr.setp {ks : List Int} (D : Dr p q c N many S r l) (h : ks.length = N) : Dr p q c N many (S.set p (PL ks)) r l := by
 obtain ⟨k0, h0, _⟩ := D.pool;exact ⟨D.ls.set, D.n2, ⟨ks, mL h0, h⟩, by rw [lG D.pq]; exact D.room, by rw [lG D.pc]; exact D.call, D.pq, D.pc, D.qc⟩
theorem Dr.setq {r' : Int} (D : Dr p q c N many S r l) : Dr p q c N many (S.set q (PL [r'])) r' l := by
 obtain ⟨k0, h0, h1⟩ := D.pool;exact ⟨D.ls.set, D.n2, ⟨k0, by rw [lG (Ne.symm D.pq)]; exact h0, h1⟩, mL D.room, by rw [lG D.qc]; exact D.call, D.pq, D.pc, D.qc⟩
theorem Dr.setc {l' : Int} (D : Dr p q c N many S r l) : Dr p q c N many (S.set c (PL [l', many])) r l' := by
 obtain ⟨k0, h0, h1⟩ := D.pool;exact ⟨D.ls.set, D.n2, ⟨k0, by rw [lG (Ne.symm D.pc)]; exact h0, h1⟩, by rw [lG (Ne.symm D.qc)]; exact D.room, mL D.call, D.pq, D.pc, D.qc⟩
theorem Dr.draw {k : Int} (D : Dr p q c N many S r l) (h0 : 0 < k) (h1 : k < 1073741824) : ∃ (d : Int) (S' : aL), bE [.cel p, .dat (.int k)] S = .ok (.dat (.int d)) S' /\ 0 <= d /\ d < k /\ Dr p q c N many S' r l /\ Sam [p, q, c] S S' := by
 obtain ⟨ks, hk, hl⟩ := D.pool;obtain ⟨d, ks', e, h2, h3, l⟩ := eL (S := S) (p := p) (ks := ks) ⟨hk, by rw [hl]; exact D.n2⟩ h0 h1
 exact ⟨d, _, e, h2, h3, D.setp (by omega), Sam.set (by simp)⟩
theorem Dr.ixq (D : Dr p q c N many S r l) : cM (.cel q) (.dat (.int 0)) S = .ok (.dat (.int r)) S := qL (k := 0) (n := 0) D.room rfl rfl
theorem Dr.ixc0 (D : Dr p q c N many S r l) : cM (.cel c) (.dat (.int 0)) S = .ok (.dat (.int l)) S := qL (k := 0) (n := 0) D.call rfl rfl
theorem Dr.ixc1 (D : Dr p q c N many S r l) : cM (.cel c) (.dat (.int 1)) S = .ok (.dat (.int many)) S := qL (k := 1) (n := 1) D.call rfl rfl
theorem Dr.augq {w : Int} {g : Int -> Int -> Int} {o i e : FE} {ρ : Ev} (D : Dr p q c N many S r l) (ho : o ρ S = .ok (.cel q) S) (hi : i ρ S = .ok (.dat (.int 0)) S) (he : e ρ S = .ok (.dat (.int w)) S) : kG g o i e ρ S = .next ρ (S.set q (PL [g r w])) := BH (k := 0) (n := 0) ho hi he D.room rfl rfl
theorem Dr.augc {w : Int} {g : Int -> Int -> Int} {o i e : FE} {ρ : Ev} (D : Dr p q c N many S r l) (ho : o ρ S = .ok (.cel c) S) (hi : i ρ S = .ok (.dat (.int 0)) S) (he : e ρ S = .ok (.dat (.int w)) S) : kG g o i e ρ S = .next ρ (S.set c (PL [g l w, many])) := BH (k := 0) (n := 0) ho hi he D.call rfl rfl
end
section
variable {S : aL} {cl : Bool} {a b c d e f g h i j : D}
theorem kLst4 : DC cl [.dat a, .dat b, .dat c, .dat d] S = newL cl [a, b, c, d] S := rfl
theorem kLst5 : DC cl [.dat a, .dat b, .dat c, .dat d, .dat e] S = newL cl [a, b, c, d, e] S := rfl
theorem kLst9 : DC cl [.dat a, .dat b, .dat c, .dat d, .dat e, .dat f, .dat g, .dat h, .dat i] S = newL cl [a, b, c, d, e, f, g, h, i] S := rfl
theorem kTup8 : kTup [.dat a, .dat b, .dat c, .dat d, .dat e, .dat f, .dat g, .dat h] S = .ok (.dat (.tup [a, b, c, d, e, f, g, h])) S := rfl
end
def menus : List (List Int) := [[0, 0, 0, 1, 1], [0, 0, 2, 3, 1], [0, 6, 7, 8, 8], [0, 4, 5, 6, 7], [0, 1, 3, 6, 8], [0, 1, 2, 3, 4, 5, 6, 7, 8], [1, 1, 2, 3, 4], [5, 6, 7, 8, 8]]
def Jb : List D := menus.map fun ks => .lst (ks.map D.int)
theorem Lp {mood : Int} {S : aL} (h0 : 0 <= mood) (h1 : mood <= 7) : ∃ ks : List Int, cM (.dat (.lst Jb)) (.dat (.int mood)) S = .ok (.dat (.lst (ks.map D.int))) S /\ 0 < ks.length /\ ks.length <= 9 /\ ∀ k ∈ ks, 0 <= k /\ k <= 8 := by
 rcases (by omega : mood = 0 \/ mood = 1 \/ mood = 2 \/ mood = 3 \/ mood = 4 \/ mood = 5 \/ mood = 6 \/ mood = 7) with rfl | rfl | rfl | rfl | rfl | rfl | rfl | rfl
 ·exact ⟨[0, 0, 0, 1, 1], rfl, by decide, by decide, by decide⟩
 ·exact ⟨[0, 0, 2, 3, 1], rfl, by decide, by decide, by decide⟩
 ·exact ⟨[0, 6, 7, 8, 8], rfl, by decide, by decide, by decide⟩
 ·exact ⟨[0, 4, 5, 6, 7], rfl, by decide, by decide, by decide⟩
 ·exact ⟨[0, 1, 3, 6, 8], rfl, by decide, by decide, by decide⟩
 ·exact ⟨[0, 1, 2, 3, 4, 5, 6, 7, 8], rfl, by decide, by decide, by decide⟩
 ·exact ⟨[1, 1, 2, 3, 4], rfl, by decide, by decide, by decide⟩
 ·exact ⟨[5, 6, 7, 8, 8], rfl, by decide, by decide, by decide⟩
theorem Ly {ks : List Int} {d : Int} {S : aL} (h0 : 0 <= d) (h1 : d < (ks.length : Int)) : ∃ k ∈ ks, cM (.dat (.lst (ks.map D.int))) (.dat (.int d)) S = .ok (.dat (.int k)) S := by
 have hd : d.toNat < ks.length := by omega
 refine ⟨ks[d.toNat], dN hd, kL ?_⟩
 rw [cQ (n := d.toNat) (by omega)]
 simp [hd]
theorem Ju {d : Int} {S : aL} (h0 : 0 <= d) (h1 : d < 8) : ∃ k : Int, cM (.dat (.tup [.int (-1), .int (-1), .int (-1), .int 1, .int 1, .int 0, .int 2, .int (-3)])) (.dat (.int d)) S = .ok (.dat (.int k)) S /\ -3 <= k /\ k <= 3 := by
 rcases (by omega : d = 0 \/ d = 1 \/ d = 2 \/ d = 3 \/ d = 4 \/ d = 5 \/ d = 6 \/ d = 7) with rfl | rfl | rfl | rfl | rfl | rfl | rfl | rfl
 ·exact ⟨-1, rfl, by decide, by decide⟩
 ·exact ⟨-1, rfl, by decide, by decide⟩
 ·exact ⟨-1, rfl, by decide, by decide⟩
 ·exact ⟨1, rfl, by decide, by decide⟩
 ·exact ⟨1, rfl, by decide, by decide⟩
 ·exact ⟨0, rfl, by decide, by decide⟩
 ·exact ⟨2, rfl, by decide, by decide⟩
 ·exact ⟨-3, rfl, by decide, by decide⟩
theorem OY {d a : Int} {S : aL} (h0 : 0 <= d) (h1 : d < 4) (ha : -9 <= a) (hb : a <= 9) : ∃ k : Int, cM (.dat (.lst [.int a, .int 2, .int (a % 3 - 1), .int 1])) (.dat (.int d)) S = .ok (.dat (.int k)) S /\ -9 <= k /\ k <= 9 := by
 have := fQ a (show (3 : Int) ≠ 0 by decide)
 have := fD a (show (0 : Int) < 3 by decide)
 rcases (by omega : d = 0 \/ d = 1 \/ d = 2 \/ d = 3) with rfl | rfl | rfl | rfl
 ·exact ⟨a, rfl, ha, hb⟩
 ·exact ⟨2, rfl, by decide, by decide⟩
 ·exact ⟨a % 3 - 1, rfl, by omega, by omega⟩
 ·exact ⟨1, rfl, by decide, by decide⟩
theorem G7 {S : aL} {p : Nat} {ks : List Int} {mood : Int} (hP : PoolAt S p ks) (h0 : 0 <= mood) (h7 : mood <= 7) : ∃ (c : Cmd) (ks' : List Int), hQ [.cel p, .dat (.int mood)] S = .ok (.dat c.d) (S.set p (PL ks')) /\ c.Ok /\ ks'.length = ks.length := by
 obtain ⟨ms, e0, m1, m2, m3⟩ := Lp (mood := mood) (S := S) h0 h7;obtain ⟨d, k1, e1, d0, d1, l1⟩ := eL hP (k := (ms.length : Int)) (by omega) (by omega)
 have P1 := hP.next l1;obtain ⟨kd, hk, ei⟩ := Ly (ks := ms) (d := d) (S := S.set p (PL k1)) d0 d1;obtain ⟨hk0, hk8⟩ := m3 kd hk;have eE : hQ [.cel p, .dat (.int mood)] S = cC (pC [some (.cel p), some (.dat (.int mood)), none, none, none, none] S) := rfl;rw [eE];unfold pC;have em : ∀ S, dJ false (.dat (.lst [.lst [.int 0, .int 0, .int 0, .int 1, .int 1], .lst [.int 0, .int 0, .int 2, .int 3, .int 1], .lst [.int 0, .int 6, .int 7, .int 8, .int 8], .lst [.int 0, .int 4, .int 5, .int 6, .int 7], .lst [.int 0, .int 1, .int 3, .int 6, .int 8]])) (.dat (.lst [.lst [.int 0, .int 1, .int 2, .int 3, .int 4, .int 5, .int 6, .int 7, .int 8], .lst [.int 1, .int 1, .int 2, .int 3, .int 4], .lst [.int 5, .int 6, .int 7, .int 8, .int 8]])) S = .ok (.dat (.lst Jb)) S := fun S => rfl
 simp! [kLst5, kLst9, em, e0, bN, e1, ei];obtain ⟨d2, k2, e2, h2, h3, l2⟩ := eL P1 (k := 19) (by decide) (by decide)
 obtain ⟨d3, k3, e3, h4, h5, l3⟩ := eL P1 (k := 3) (by decide) (by decide)
 obtain ⟨d4, k4, e4, h6, h7, l4⟩ := eL P1 (k := 8) (by decide) (by decide)
 obtain ⟨d5, k5, e5, h8, h9, l5⟩ := eL (P1.next l2) (k := 19) (by decide) (by decide)
 obtain ⟨d6, k6, e6, h10, h11, l6⟩ := eL (P1.next l2) (k := 4) (by decide) (by decide)
 simp only [dG] at e2 e3 e4 e5 e6;rcases (by omega : kd = 0 \/ kd = 1 \/ kd = 2 \/ kd = 3 \/ kd = 4 \/ kd = 5 \/ kd = 6 \/ kd = 7 \/ kd = 8) with rfl | rfl | rfl | rfl | rfl | rfl | rfl | rfl | rfl
 ·obtain ⟨v, ev, v1, v2⟩ := OY (a := d2 - 9) (S := S.set p (PL k6)) h10 h11 (by omega) (by omega)
  simp! [e2, kLst4, e6, gW (show (0 : Int) < 3 by decide), ev]
  exact ⟨.go v, k6, rfl, ⟨v1, v2⟩, by omega⟩
 ·simp! [e3]
  exact ⟨.turn (1 + d3), k3, rfl, ⟨by omega, by omega⟩, by omega⟩
 ·simp! [if_true]
  exact ⟨.mirror, k1, rfl, trivial, l1⟩
 ·obtain ⟨v, ev, v1, v2⟩ := Ju (S := S.set p (PL k4)) h6 h7
  simp! [kTup8, e4, ev];exact ⟨.scale v, k4, rfl, ⟨v1, v2⟩, by omega⟩
 ·simp! [cZ, e2, e5]
  exact ⟨.aim (d2 - 9) (d5 - 9), k5, rfl, ⟨⟨by omega, by omega⟩, by omega, by omega⟩, by omega⟩
 ·simp! [mG, e2, e5]
  exact ⟨.place (d2 - 9) (d5 - 9), k5, rfl, ⟨⟨by omega, by omega⟩, by omega, by omega⟩, by omega⟩
 ·simp! [cZ]
  exact ⟨.mark, k1, rfl, trivial, l1⟩
 ·simp! [mG]
  exact ⟨.ret, k1, rfl, trivial, l1⟩
 ·simp! [As]
  exact ⟨.exch, k1, rfl, trivial, l1⟩
theorem Lh {S : aL} {p : Nat} {ks : List Int} {mood : Int} (hP : PoolAt S p ks) : ∃ (c c' : Cmd) (ks' : List Int), pU [.cel p, .dat (.int mood)] S = .ok (.dat (.lst [c.d, c'.d])) (S.set p (PL ks')) /\ c.Ok /\ c'.Ok /\ ks'.length = ks.length := by
 obtain ⟨d, k1, e1, d0, d1, l1⟩ := eL hP (k := 3) (by decide) (by decide)
 have P1 := hP.next l1;obtain ⟨d2, k2, e2, h2, h3, l2⟩ := eL P1 (k := 4) (by decide) (by decide)
 simp only [dG] at e2;have eE : pU [.cel p, .dat (.int mood)] S = cC (wU [some (.cel p), some (.dat (.int mood)), none, none, none] S) := rfl;rw [eE];unfold wU;have fin : ∀ (x : Int) (S : aL), 0 <= x -> x < 4 -> ∃ c c' : Cmd, cM (.dat (.lst ([.lst [.tup [.str "go", .int (1 + d)], .tup [.str "go", .int (-(1 + d))]], .lst [.tup [.str "turn", .int (1 + d)], .tup [.str "turn", .int (4 - (1 + d))]], .lst [.tup [.str "mirror"], .tup [.str "mirror"]]] ++ [.lst [.tup [.str "exchange"], .tup [.str "exchange"]]]))) (.dat (.int x)) S = .ok (.dat (.lst [c.d, c'.d])) S /\ c.Ok /\ c'.Ok := fun x S h0 h1 => by
  rcases (by omega : x = 0 \/ x = 1 \/ x = 2 \/ x = 3) with rfl | rfl | rfl | rfl
  ·exact ⟨.go (1 + d), .go (-(1 + d)), rfl, ⟨by omega, by omega⟩, ⟨by omega, by omega⟩⟩
  ·exact ⟨.turn (1 + d), .turn (4 - (1 + d)), rfl, ⟨by omega, by omega⟩, ⟨by omega, by omega⟩⟩
  ·exact ⟨.mirror, .mirror, rfl, trivial, trivial⟩
  ·exact ⟨.exch, .exch, rfl, trivial, trivial⟩
 simp! [e1, e2]
 by_cases hm : mood = 6
 ·subst hm
  have := fQ d2 (show (2 : Int) ≠ 0 by decide)
  have := fD d2 (show (0 : Int) < 2 by decide)
  obtain ⟨c, c', e, o1, o2⟩ := fin (1 + d2 % 2) (S.set p (PL k2)) (by omega) (by omega)
  simp! [gW (show (0 : Int) < 2 by decide), lO, sz, e]
  exact ⟨c, c', k2, rfl, o1, o2, by omega⟩
 ·by_cases h7 : mood = 7
  ·subst h7
   obtain ⟨c, c', e, o1, o2⟩ := fin 3 (S.set p (PL k2)) (by omega) (by omega)
   simp! [lO, sz, e];exact ⟨c, c', k2, rfl, o1, o2, by omega⟩
  ·obtain ⟨c, c', e, o1, o2⟩ := fin d2 (S.set p (PL k2)) (by omega) (by omega)
   simp! [decide_eq_false hm, decide_eq_false h7, lO, sz, e];exact ⟨c, c', k2, rfl, o1, o2, by omega⟩
mutual
def Stt.Gd (many : Int) : Stt -> Nat -> Prop
 | .cmd c, _ => c.Ok
 | .fin w, _ => 0 <= w /\ w <= 1
 | .keep b, n => 0 < n /\ GdL many b (n - 1)
 | .again b, n => 0 < n /\ GdL many b (n - 1)
 | .either a b, n => 0 < n /\ GdL many a (n - 1) /\ GdL many b (n - 1)
 | .call g _ a b, n => (0 < n /\ 0 <= g /\ g < many) /\ GdL many a (n - 1) /\ GdL many b (n - 1)
 | .bad, _ => False
 | .odd _, _ => False
def GdL (many : Int) : List Stt -> Nat -> Prop
 | [], _ => True
 | s :: r, n => s.Gd many n /\ GdL many r n
end
mutual
def Stt.size : Stt -> Nat
 | .keep b => bQ b + 1
 | .again b => bQ b + 1
 | .either a b => bQ a + bQ b + 1
 | .call _ _ a b => bQ a + bQ b + 1
 | _ => 1
def bQ : List Stt -> Nat
 | [] => 0
 | s :: r => s.size + bQ r
end
theorem size_pos (s : Stt) : 1 <= s.size := by cases s <;> simp [Stt.size]
theorem iA : ∀ l : List Stt, l.length <= bQ l
 | [] => bH _
 | s :: r => by have := iA r; have := size_pos s; simp [bQ]; omega
theorem gR : ∀ l m : List Stt, bQ (l ++ m) = bQ l + bQ m
 | [], m => by simp [bQ]
 | s :: r, m => by simp [bQ, gR r m]; omega
theorem GdL.app {many : Int} : ∀ {l m : List Stt} {n : Nat}, GdL many l n -> GdL many m n -> GdL many (l ++ m) n
 | [], m, n, _, h => h
 | s :: r, m, n, h, h' => ⟨h.1, GdL.app h.2 h'⟩
mutual
theorem Stt.Gd.ok {many : Int} : ∀ {s : Stt} {n : Nat}, s.Gd many n -> s.size <= 11 -> s.Ok many n
 | .cmd c, n, h, _ => h
 | .fin w, n, h, _ => h
 | .keep b, n, h, hs => ⟨h.1, GdL.ok h.2 (by simp [Stt.size] at hs; omega)⟩
 | .again b, n, h, hs => ⟨h.1, GdL.ok h.2 (by simp [Stt.size] at hs; omega)⟩
 | .either a b, n, h, hs => ⟨h.1, GdL.ok h.2.1 (by simp [Stt.size] at hs; omega), GdL.ok h.2.2 (by simp [Stt.size] at hs; omega)⟩
 | .call g _ a b, n, h, hs => ⟨h.1, GdL.ok h.2.1 (by simp [Stt.size] at hs; omega), GdL.ok h.2.2 (by simp [Stt.size] at hs; omega)⟩
 | .bad, n, h, _ => h.elim
 | .odd _, n, h, _ => h.elim
theorem GdL.ok {many : Int} : ∀ {l : List Stt} {n : Nat}, GdL many l n -> bQ l <= 10 -> OkL many l n
 | [], n, _, _ => trivial
 | s :: r, n, h, hs => by
  have := iA r;have := size_pos s;simp only [bQ] at hs;exact ⟨⟨Stt.Gd.ok h.1 (by omega), by omega⟩, GdL.ok h.2 (by omega)⟩
end
mutual
theorem Ka {many : Int} : ∀ {s : Stt} {n : Nat} {lv met : Int} {here : List Int}, s.Gd many n -> 0 <= lv -> lv + n <= 3 -> s.size <= 9 -> met + s.size <= 13 -> 0 <= met -> CD lv here s met = .okk (met + s.size - 1)
 | .cmd c, n, lv, met, here, h, h0, h3, h9, h12, hm => by simp [CD, Stt.size]
 | .fin c, n, lv, met, here, h, h0, h3, h9, h12, hm => by simp [CD, Stt.size]
 | .bad, n, lv, met, here, h, h0, h3, h9, h12, hm => h.elim
 | .odd _, n, lv, met, here, h, h0, h3, h9, h12, hm => h.elim
 | .keep b, n, lv, met, here, h, h0, h3, h9, h12, hm => by
  have := h.1;simp only [Stt.size] at h9 h12;rw [CD, mH (n := n - 1) h.2 (by omega) (by omega) (by omega) (by omega) hm (by omega), Stt.size]
  congr 1
  omega
 | .again b, n, lv, met, here, h, h0, h3, h9, h12, hm => by
  have := h.1;simp only [Stt.size] at h9 h12;rw [CD, mH (n := n - 1) h.2 (by omega) (by omega) (by omega) (by omega) hm (by omega), Stt.size]
  congr 1
  omega
 | .either a b, n, lv, met, here, h, h0, h3, h9, h12, hm => by
  have := h.1;simp only [Stt.size] at h9 h12;rw [CD, mH (n := n - 1) h.2.1 (by omega) (by omega) (by omega) (by omega) hm (by omega), FR.then_okk, mH (n := n - 1) h.2.2 (by omega) (by omega) (by omega) (by omega) (by omega) (by omega), Stt.size]
  congr 1
  omega
 | .call g f a b, n, lv, met, here, h, h0, h3, h9, h12, hm => by
  have := h.1.1;simp only [Stt.size] at h9 h12;rw [CD, mH (n := n - 1) h.2.1 (by omega) (by omega) (by omega) (by omega) hm (by omega), FR.then_okk, mH (n := n - 1) h.2.2 (by omega) (by omega) (by omega) (by omega) (by omega) (by omega), Stt.size]
  congr 1
  omega
theorem mH {many : Int} : ∀ {l : List Stt} {n : Nat} {lv at_ met : Int} {path : List Int}, GdL many l n -> 0 <= lv -> lv + n <= 3 -> at_ + bQ l <= 8 -> met + bQ l <= 12 -> 0 <= met -> 0 <= at_ -> uP lv path at_ l met = .okk (met + bQ l)
 | [], n, lv, at_, met, path, h, h0, h3, h8, h12, hm, ha => by simp [uP, bQ]
 | s :: r, n, lv, at_, met, path, h, h0, h3, h8, h12, hm, ha => by
  have hp := size_pos s;simp only [bQ] at h8 h12;have hw : s.wf lv = true := by
   cases s with
   | cmd c => rfl
   | fin c => rfl
   | bad => exact h.1.elim
   | odd x => exact h.1.elim
   | keep b => have := h.1.1; simp [Stt.wf]; omega
   | again b => have := h.1.1; simp [Stt.wf]; omega
   | either a b => have := h.1.1; simp [Stt.wf]; omega
   | call g f a b => have := h.1.1.1; simp [Stt.wf]; omega
  rw [uP, if_neg (by rintro (e | e | e) <;> first | omega | (rw [hw] at e; cases e)), Ka (n := n) h.1 h0 h3 (by omega) (by omega) (by omega), FR.then_okk, mH (n := n) h.2 h0 h3 (by omega) (by omega) (by omega) (by omega), bQ]
  congr 1
  omega
end
section
variable {p q c N : Nat} {many : Int}
theorem Dr.command {S : aL} {r l mood : Int} (D : Dr p q c N many S r l) (h0 : 0 <= mood) (h7 : mood <= 7) : ∃ (cm : Cmd) (S' : aL), hQ [.cel p, .dat (.int mood)] S = .ok (.dat cm.d) S' /\ cm.Ok /\ Dr p q c N many S' r l /\ Sam [p, q, c] S S' := by
 obtain ⟨ks, hk, hl⟩ := D.pool;obtain ⟨cm, ks', e, ho, l⟩ := G7 (S := S) (p := p) (ks := ks) ⟨hk, by rw [hl]; exact D.n2⟩ h0 h7
 exact ⟨cm, _, e, ho, D.setp (by omega), Sam.set (by simp)⟩
theorem Dr.pair {S : aL} {r l mood : Int} (D : Dr p q c N many S r l) : ∃ (cm cm' : Cmd) (S' : aL), pU [.cel p, .dat (.int mood)] S = .ok (.dat (.lst [cm.d, cm'.d])) S' /\ cm.Ok /\ cm'.Ok /\ Dr p q c N many S' r l /\ Sam [p, q, c] S S' := by
 obtain ⟨ks, hk, hl⟩ := D.pool;obtain ⟨cm, cm', ks', e, ho, ho', l⟩ := Lh (S := S) (p := p) (ks := ks) (mood := mood) ⟨hk, by rw [hl]; exact D.n2⟩
 exact ⟨cm, cm', _, e, ho, ho', D.setp (by omega), Sam.set (by simp)⟩
structure Left (p q c N : Nat) (many : Int) (S : aL) (r : Int) (n : Nat) (ls : List Stt) (S' : aL) (r' l' : Int) : Prop where
 dr : Dr p q c N many S' r' l'
 sam : Sam [p, q, c] S S'
 r0 : 0 <= r'
 sz : (bQ ls : Int) + r' <= r
 gd : GdL many ls n
end
def DY (n : Nat) : Prop := ∀ {p q c N : Nat} {many : Int} {S : aL} {r l mood lv low : Int}, Dr p q c N many S r l -> 0 <= mood -> mood <= 7 -> 0 <= lv -> lv <= 3 -> 0 <= low -> 0 <= r -> r <= 8 -> many <= 3 -> 2 * (3 - lv.toNat) + r.toNat + 2 <= n ->
 ∃ (ls : List Stt) (S' : aL) (r' l' : Int), tF n [.cel p, .dat (.int mood), .dat (.int lv), .cel q, .cel c, .dat (.int low)] S = .ok (.dat (.lst (bP ls))) S' /\ Left p q c N many S r (3 - lv.toNat) ls S' r' l'
def xA (n : Nat) : Prop := ∀ {p q c N : Nat} {many : Int} {S : aL} {r l mood lv low : Int}, Dr p q c N many S r l -> 0 <= mood -> mood <= 7 -> 0 <= lv -> lv <= 3 -> 0 <= low -> 0 < r -> r <= 8 -> many <= 3 -> 2 * (3 - lv.toNat) + r.toNat + 1 <= n ->
 ∃ (ls : List Stt) (S' : aL) (r' l' : Int), jK n [.cel p, .dat (.int mood), .dat (.int lv), .cel q, .cel c, .dat (.int low)] S = .ok (.dat (.lst (bP ls))) S' /\ Left p q c N many S r (3 - lv.toNat) ls S' r' l'
theorem uS {n : Nat} (ih : xA n) {p q c N : Nat} {many mood lv low : Int} (h0 : 0 <= mood) (h7 : mood <= 7) (l0 : 0 <= lv) (l3 : lv <= 3) (lo : 0 <= low) (hm : many <= 3) :
  ∀ (is : List D) (ls : List Stt) (S : aL) (r l : Int), Dr p q c N many S r l -> 0 <= r -> (bQ ls : Int) + r <= 8 -> 2 * (3 - lv.toNat) + r.toNat + 1 <= n -> GdL many ls (3 - lv.toNat) -> ∃ (ls' : List Stt) (S' : aL) (r' l' : Int),
   loop (.nm 7) (jI (jK n)) is [some (.cel p), some (.dat (.int mood)), some (.dat (.int lv)), some (.cel q), some (.cel c), some (.dat (.int low)), some (.dat (.lst (bP ls))), none] S =
    .next [some (.cel p), some (.dat (.int mood)), some (.dat (.int lv)), some (.cel q), some (.cel c), some (.dat (.int low)), some (.dat (.lst (bP ls'))), none] S' /\ Left p q c N many S (bQ ls + r) (3 - lv.toNat) ls' S' r' l'
 | [], ls, S, r, l, D, r0, r8, hn, g => ⟨ls, S, r, l, rfl, D, Sam.refl, r0, Iz _, g⟩
 | i :: is, ls, S, r, l, D, r0, r8, hn, g => by
  rw [loop];simp only [mR, bM, bJ];rw [jI];simp! [D.ixq]
  by_cases hr : 0 < r
  ·obtain ⟨l1, S1, r1, c1, e1, L1⟩ := ih D h0 h7 l0 l3 lo hr (by omega) hm hn
   have hl := iA ls;have hl1 := iA l1;have hsz := L1.sz;have hr1 := L1.r0;simp! [decide_eq_true hr, e1, lO (show (bP ls).length + (bP l1).length <= sizeLine by rw [cK, cK]; exact PH.sz (by omega))]
   rw [<- jI, <- mI];obtain ⟨l2, S2, r2, c2, e2, L2⟩ := uS ih (p := p) (q := q) (c := c) (N := N) h0 h7 l0 l3 lo hm is (ls ++ l1) S1 r1 c1 L1.dr hr1 (by rw [gR]; omega) (by omega) (g.app L1.gd)
   have := L2.sz;rw [gR] at this;exact ⟨l2, S2, r2, c2, e2, L2.dr, L1.sam.trans L2.sam, L2.r0, by omega, L2.gd⟩
  ·simp! [decide_eq_false hr]
   rw [<- jI];exact uS ih h0 h7 l0 l3 lo hm is ls S r l D r0 r8 hn g
theorem Ku {n : Nat} (ih : xA n) : DY (n + 1) := by
 intro p q c N many S r l mood lv low D h0 h7 l0 l3 lo r0 r8 hm hn;rw [show tF (n + 1) [.cel p, .dat (.int mood), .dat (.int lv), .cel q, .cel c, .dat (.int low)] S = cC (tK (jK n) [some (.cel p), some (.dat (.int mood)), some (.dat (.int lv)), some (.cel q), some (.cel c), some (.dat (.int low)), none, none] S) from rfl]
 unfold tK;obtain ⟨d, S1, e1, d0, d1, D1, s1⟩ := D.draw (k := 3) (by decide) (by decide)
 obtain ⟨l2, S2, r2, c2, e2, L2⟩ := uS ih h0 h7 l0 l3 lo hm (gH 0 d.toNat) [] S1 r l D1 r0 (by simp [bQ]; omega) (by omega) trivial
 simp! [e1, iK (show -(2 ^ 62) <= d by omega) (show d < 2 ^ 62 by omega)]
 rw [show ([] : List PH.D) = bP [] from rfl, e2]
 simp! [if_true];have := L2.sz;simp only [bQ] at this;exact ⟨l2, S2, r2, c2, rfl, L2.dr, s1.trans L2.sam, L2.r0, by omega, L2.gd⟩
theorem Nn {a b : PH.D} : cutD [a, b] none (some 1) = [a] := rfl
theorem JU {n : Nat} (ihB : DY n) (ihP : xA n) : xA (n + 1) := by
 intro p q c N many S r l mood lv low D h0 h7 l0 l3 lo r0 r8 hm hn;rw [show jK (n + 1) [.cel p, .dat (.int mood), .dat (.int lv), .cel q, .cel c, .dat (.int low)] S = cC (tH (tF n) (jK n) [some (.cel p), some (.dat (.int mood)), some (.dat (.int lv)), some (.cel q), some (.cel c), some (.dat (.int low)), none, none, none, none, none, none] S) from rfl]
 unfold tH;obtain ⟨d, S1, e1, d0, d1, D1, s1⟩ := D.draw (k := 17) (by decide) (by decide)
 have ea : ∀ z : Option Vl, kG (fun x y => x - y) (aD 3) (mC (.int 0)) (mC (.int 1)) [some (.cel p), some (.dat (.int mood)), some (.dat (.int lv)), some (.cel q), some (.cel c), some (.dat (.int low)), z, none, none, none, none, none] S1 = .next [some (.cel p), some (.dat (.int mood)), some (.dat (.int lv)), some (.cel q), some (.cel c), some (.dat (.int low)), z, none, none, none, none, none] (S1.set q (PL [r - 1])) := fun z => D1.augq rfl rfl rfl
 have D2 := D1.setq (r' := r - 1);have s2 : Sam [p, q, c] S (S1.set q (PL [r - 1])) := s1.trans (Sam.set (by simp))
 generalize S1.set q (PL [r - 1]) = S2 at ea D2 s2;obtain ⟨cm, S3, e2, c2, D3, s3⟩ := D2.command h0 h7;have LC : Left p q c N many S r (3 - lv.toNat) [.cmd cm] S3 (r - 1) l := ⟨D3, s2.trans s3, by omega, by simp [bQ, Stt.size]; omega, c2, trivial⟩
 have oc : ∃ (ls : List Stt) (S' : aL) (r' l' : Int), cC (Out.ret (.dat (.lst [cm.d])) S3) = .ok (.dat (.lst (bP ls))) S' /\ Left p q c N many S r (3 - lv.toNat) ls S' r' l' := ⟨_, _, _, _, rfl, LC⟩;rcases (by omega : d < 6 \/ d = 6 \/ (7 <= d /\ d < 15 /\ 2 < lv) \/ (7 <= d /\ d < 9 /\ lv <= 2) \/ (d = 9 /\ lv <= 2) \/ (d = 10 /\ lv <= 2) \/ (11 <= d /\ d < 15 /\ lv <= 2) \/ (15 <= d)) with hd | hd | ⟨ha, hb, hl⟩ | ⟨ha, hb, hl⟩ | ⟨hd, hl⟩ | ⟨hd, hl⟩ | ⟨ha, hb, hl⟩ | hd
 ·simp! [e1, decide_eq_false (show ¬ (6 : Int) < d by omega), decide_eq_false (show ¬ d = 6 by omega), decide_eq_false (show ¬ (10 : Int) < d by omega), ea, decide_eq_true hd, e2]
  exact oc
 ·subst hd
  by_cases hr : r < 2
  ·simp! [e1, D1.ixq, decide_eq_true hr, ea, e2]
   exact oc
  ·have eb : ∀ z : Option Vl, kG (fun x y => x - y) (aD 3) (mC (.int 0)) (mC (.int 1)) [some (.cel p), some (.dat (.int mood)), some (.dat (.int lv)), some (.cel q), some (.cel c), some (.dat (.int low)), z, none, none, none, none, none] S2 = .next [some (.cel p), some (.dat (.int mood)), some (.dat (.int lv)), some (.cel q), some (.cel c), some (.dat (.int low)), z, none, none, none, none, none] (S2.set q (PL [r - 1 - 1])) := fun z => D2.augq rfl rfl rfl
   have D4 := D2.setq (r' := r - 1 - 1);have s4 : Sam [p, q, c] S (S2.set q (PL [r - 1 - 1])) := s2.trans (Sam.set (by simp))
   generalize S2.set q (PL [r - 1 - 1]) = S4 at eb D4 s4;obtain ⟨ca, cb, S5, e5, oa, ob, D5, s5⟩ := D4.pair (mood := mood)
   by_cases hr2 : 0 < r - 1 - 1
   ·obtain ⟨l6, S6, r6, c6, e6, L6⟩ := ihP D5 h0 h7 l0 l3 lo hr2 (by omega) hm (by omega)
    have hs := L6.sz;have := L6.r0;have hl6 := iA l6;simp! [e1, D1.ixq, decide_eq_false hr, ea, eb, e5, D5.ixq, decide_eq_true hr2, e6, Nn, rK, lO (show [ca.d].length + (bP l6).length <= sizeLine from sz (by rw [cK]; simp; omega)), lO (show ([ca.d] ++ bP l6).length + [cb.d].length <= sizeLine from sz (by simp [cK]; omega))]
    refine ⟨[.cmd ca] ++ l6 ++ [.cmd cb], S6, r6, c6, ?_, L6.dr, s4.trans (s5.trans L6.sam), L6.r0, ?_, ?_⟩
    ·rw [mI, mI]; rfl
    ·rw [gR, gR]; simp only [bQ, Stt.size]; omega
    ·exact GdL.app (GdL.app (l := [.cmd ca]) ⟨oa, trivial⟩ L6.gd) ⟨ob, trivial⟩
   ·simp! [e1, D1.ixq, decide_eq_false hr, ea, eb, e5, D5.ixq, decide_eq_false hr2, Nn, rK, lO, sz, hG, List.cons_append, tM]
    refine ⟨[.cmd ca, .cmd cb], S5, r - 1 - 1, l, rfl, D5, s4.trans s5, by omega, ?_, oa, ob, trivial⟩
    simp only [bQ, Stt.size]; omega
 ·have h1 := fQ d (show (6 : Int) ≠ 0 by decide)
  have h2 := fD d (show (0 : Int) < 6 by decide)
  simp! [e1, decide_eq_true (show (6 : Int) < d by omega), decide_eq_true hb, decide_eq_true hl, gW (show (0 : Int) < 6 by decide), decide_eq_false (show ¬ d % 6 = 6 by omega), decide_eq_false (show ¬ (10 : Int) < d % 6 by omega), ea, decide_eq_true (show d % 6 < 6 by omega), e2]
  exact oc
 ·have e54 : 3 - (lv + 1).toNat = 3 - lv.toNat - 1 := by omega
  obtain ⟨la, Sa, ra, ca, ea1, La⟩ := ihB (lv := lv + 1) (low := 0) D2 h0 h7 (by omega) (by omega) (by omega) (by omega) (by omega) hm (by omega)
  obtain ⟨lb, Sb, rb, cb, eb1, Lb⟩ := ihB (lv := lv + 1) (low := low) La.dr h0 h7 (by omega) (by omega) lo La.r0 (by have := La.sz; omega) hm (by have := La.sz; have := La.r0; omega)
  have := La.sz;have := Lb.sz;have ga := La.gd;have gb := Lb.gd;rw [e54] at ga gb;simp! [e1, decide_eq_true (show (6 : Int) < d by omega), decide_eq_true (show d < 15 by omega), decide_eq_false (show ¬ (2 : Int) < lv by omega), decide_eq_false (show ¬ d = 6 by omega), decide_eq_false (show ¬ (10 : Int) < d by omega), ea, decide_eq_false (show ¬ d < 6 by omega), decide_eq_true hb, ea1, eb1]
  refine ⟨[.either la lb], Sb, rb, cb, rfl, Lb.dr, s2.trans (La.sam.trans Lb.sam), Lb.r0, ?_, ⟨by omega, ga, gb⟩, trivial⟩
  simp only [bQ, Stt.size]; omega
 ·subst hd
  have e54 : 3 - (lv + 1).toNat = 3 - lv.toNat - 1 := by omega
  obtain ⟨la, Sa, ra, ca, ea1, La⟩ := ihB (lv := lv + 1) (low := 0) D2 h0 h7 (by omega) (by omega) (by omega) (by omega) (by omega) hm (by omega)
  have := La.sz;have ga := La.gd;rw [e54] at ga;simp! [e1, decide_eq_false (show ¬ (2 : Int) < lv by omega), ea, ea1]
  refine ⟨[.again la], Sa, ra, ca, rfl, La.dr, s2.trans La.sam, La.r0, ?_, ⟨by omega, ga⟩, trivial⟩
  simp only [bQ, Stt.size]; omega
 ·subst hd
  have e54 : 3 - (lv + 1).toNat = 3 - lv.toNat - 1 := by omega
  obtain ⟨la, Sa, ra, ca, ea1, La⟩ := ihB (lv := lv + 1) (low := low) D2 h0 h7 (by omega) (by omega) (by omega) (by omega) (by omega) hm (by omega)
  have := La.sz;have ga := La.gd;rw [e54] at ga;simp! [e1, decide_eq_false (show ¬ (2 : Int) < lv by omega), ea, ea1]
  refine ⟨[.keep la], Sa, ra, ca, rfl, La.dr, s2.trans La.sam, La.r0, ?_, ⟨by omega, ga⟩, trivial⟩
  simp only [bQ, Stt.size]; omega
 ·by_cases hc : l < 1
  ·simp! [e1, decide_eq_true (show (6 : Int) < d by omega), decide_eq_true hb, decide_eq_false (show ¬ (2 : Int) < lv by omega), decide_eq_false (show ¬ d = 6 by omega), decide_eq_true (show (10 : Int) < d by omega), D1.ixc0, decide_eq_true hc, ea, e2]
   exact oc
  ·by_cases hlo : many <= low
   ·simp! [e1, decide_eq_true (show (6 : Int) < d by omega), decide_eq_true hb, decide_eq_false (show ¬ (2 : Int) < lv by omega), decide_eq_false (show ¬ d = 6 by omega), decide_eq_true (show (10 : Int) < d by omega), D1.ixc0, decide_eq_false hc, D1.ixc1, decide_eq_true hlo, ea, e2]
    exact oc
   ·have e54 : 3 - (lv + 1).toNat = 3 - lv.toNat - 1 := by omega
    have ec : ∀ z : Option Vl, kG (fun x y => x - y) (aD 4) (mC (.int 0)) (mC (.int 1)) [some (.cel p), some (.dat (.int mood)), some (.dat (.int lv)), some (.cel q), some (.cel c), some (.dat (.int low)), z, none, none, none, none, none] S2 = .next [some (.cel p), some (.dat (.int mood)), some (.dat (.int lv)), some (.cel q), some (.cel c), some (.dat (.int low)), z, none, none, none, none, none] (S2.set c (PL [l - 1, many])) := fun z => D2.augc rfl rfl rfl
    have D4 := D2.setc (l' := l - 1);have s4 : Sam [p, q, c] S (S2.set c (PL [l - 1, many])) := s2.trans (Sam.set (by simp))
    generalize S2.set c (PL [l - 1, many]) = S4 at ec D4 s4;obtain ⟨g, S5, e5, g0, g1, D5, s5⟩ := D4.draw (k := many - low) (by omega) (by omega)
    obtain ⟨f, S6, e6, f0, f1, D6, s6⟩ := D5.draw (k := 3) (by decide) (by decide)
    obtain ⟨la, Sa, ra, ca, ea1, La⟩ := ihB (lv := lv + 1) (low := low) D6 h0 h7 (by omega) (by omega) lo (by omega) (by omega) hm (by omega)
    obtain ⟨lb, Sb, rb, cb, eb1, Lb⟩ := ihB (lv := lv + 1) (low := low) La.dr h0 h7 (by omega) (by omega) lo La.r0 (by have := La.sz; omega) hm (by have := La.sz; have := La.r0; omega)
    have := La.sz;have := Lb.sz;have ga := La.gd;have gb := Lb.gd;rw [e54] at ga gb;simp! [e1, decide_eq_true (show (6 : Int) < d by omega), decide_eq_true hb, decide_eq_false (show ¬ (2 : Int) < lv by omega), decide_eq_false (show ¬ d = 6 by omega), decide_eq_true (show (10 : Int) < d by omega), D1.ixc0, decide_eq_false hc, D1.ixc1, decide_eq_false hlo, ea, decide_eq_false (show ¬ d < 6 by omega), decide_eq_false (show ¬ d < 9 by omega), decide_eq_false (show ¬ d = 9 by omega), decide_eq_false (show ¬ d = 10 by omega), decide_eq_false (show ¬ (14 : Int) < d by omega), ec, D4.ixc1, e5, e6, ea1, eb1]
    refine ⟨[.call (low + g) (decide (f = 0)) la lb], Sb, rb, cb, rfl, Lb.dr, s4.trans (s5.trans (s6.trans (La.sam.trans Lb.sam))), Lb.r0, ?_, ⟨⟨by omega, by omega, by omega⟩, ga, gb⟩, trivial⟩
    simp only [bQ, Stt.size]; omega
 ·obtain ⟨w, S4, e4, w0, w1, D4, s4⟩ := D2.draw (k := 2) (by decide) (by decide)
  simp! [e1, decide_eq_true (show (6 : Int) < d by omega), decide_eq_false (show ¬ d < 15 by omega), decide_eq_false (show ¬ d = 6 by omega), decide_eq_true (show (10 : Int) < d by omega), ea, decide_eq_false (show ¬ d < 6 by omega), decide_eq_false (show ¬ d < 9 by omega), decide_eq_false (show ¬ d = 9 by omega), decide_eq_false (show ¬ d = 10 by omega), decide_eq_true (show (14 : Int) < d by omega), e4]
  refine ⟨[.fin w], S4, r - 1, l, rfl, D4, s2.trans s4, by omega, ?_, ⟨w0, by omega⟩, trivial⟩
  simp only [bQ, Stt.size]; omega
theorem wF : ∀ n, DY n /\ xA n
 | 0 => ⟨fun _ _ _ _ _ _ _ _ _ h => by omega, fun _ _ _ _ _ _ _ _ _ h => by omega⟩
 | n + 1 => ⟨Ku (wF n).2, JU (wF n).1 (wF n).2⟩
theorem Ie {p q c N : Nat} {many : Int} {S : aL} {r l mood : Int} (D : Dr p q c N many S r l) (h0 : 0 <= mood) (h7 : mood <= 7) (hr : 3 < r) (m1 : 1 <= many) (m3 : many <= 3) :
  ∃ (ls : List Stt) (S' : aL) (r' l' : Int), qJ [.cel p, .dat (.int mood), .cel q, .cel c] S = .ok (.dat (.lst (bP ls))) S' /\ Left p q c N many S r 3 ls S' r' l' := by
 rw [show qJ [.cel p, .dat (.int mood), .cel q, .cel c] S = cC (qT [some (.cel p), some (.dat (.int mood)), some (.cel q), some (.cel c), none, none, none, none, none] S) from rfl]
 unfold qT;have ea : kG (fun x y => x - y) (aD 2) (mC (.int 0)) (mC (.int 4)) [some (.cel p), some (.dat (.int mood)), some (.cel q), some (.cel c), none, none, none, none, none] S = .next [some (.cel p), some (.dat (.int mood)), some (.cel q), some (.cel c), none, none, none, none, none] (S.set q (PL [r - 4])) := D.augq rfl rfl rfl
 have D1 := D.setq (r' := r - 4);have s1 : Sam [p, q, c] S (S.set q (PL [r - 4])) := Sam.set (by simp)
 generalize S.set q (PL [r - 4]) = S1 at ea D1 s1;have eb : kG (fun x y => x - y) (aD 3) (mC (.int 0)) (mC (.int 1)) [some (.cel p), some (.dat (.int mood)), some (.cel q), some (.cel c), none, none, none, none, none] S1 = .next [some (.cel p), some (.dat (.int mood)), some (.cel q), some (.cel c), none, none, none, none, none] (S1.set c (PL [l - 1, many])) := D1.augc rfl rfl rfl
 have D2 := D1.setc (l' := l - 1);have s2 : Sam [p, q, c] S1 (S1.set c (PL [l - 1, many])) := Sam.set (by simp)
 generalize S1.set c (PL [l - 1, many]) = S2 at eb D2 s2;obtain ⟨g, S3, e3, g0, g1, D3, s3⟩ := D2.draw (k := many) (by omega) (by omega)
 obtain ⟨f, S4, e4, f0, f1, D4, s4⟩ := D3.draw (k := 3) (by decide) (by decide)
 obtain ⟨a, S5, e5, a0, a1, D5, s5⟩ := D4.draw (k := 2) (by decide) (by decide)
 obtain ⟨ca, S6, e6, oa, D6, s6⟩ := D5.command h0 h7;obtain ⟨cb, S7, e7, ob, D7, s7⟩ := D6.command h0 h7;obtain ⟨b, S8, e8, b0, b1, D8, s8⟩ := D7.draw (k := 2) (by decide) (by decide)
 have s18 : Sam [p, q, c] S S8 := s1.trans (s2.trans (s3.trans (s4.trans (s5.trans (s6.trans (s7.trans s8))))));have fin : ∀ (x y : Cmd) (T : aL), x.Ok -> y.Ok -> Dr p q c N many T (r - 4) (l - 1) -> Sam [p, q, c] S T -> ∃ (ls : List Stt) (S' : aL) (r' l' : Int), cC (((cM (.dat (.lst [.lst [], .lst [x.d, .tup [.str "call", .int g, .bl (decide (f = 0)), .lst [.lst [], .lst []]], y.d]])) (.dat (.int a)) T).bind fun u T1 => ((cM (.dat (.lst [.lst [], .lst [x.d, .tup [.str "call", .int g, .bl (decide (f = 0)), .lst [.lst [], .lst []]], y.d]])) (.dat (.int (1 - a))) T1).bind fun v T2 => kTup [.dat (.str "either"), u, v] T2)).toS [] fun w T3 => (DC false [w] T3).toS [] OQ) = .ok (.dat (.lst (bP ls))) S' /\ Left p q c N many S r 3 ls S' r' l' := fun x y T ox oy DT sT => by
  have sz : ∀ (u v : List Stt), bQ u + bQ v = 3 -> (bQ [.either u v] : Int) + (r - 4) <= r := fun u v h => by simp only [bQ, Stt.size]; omega
  have hc : GdL many [.cmd x, .call g (decide (f = 0)) [] [], .cmd y] 2 := ⟨ox, ⟨⟨by omega, g0, g1⟩, trivial, trivial⟩, oy, trivial⟩
  rcases (by omega : a = 0 \/ a = 1) with rfl | rfl
  ·exact ⟨[.either [] [.cmd x, .call g (decide (f = 0)) [] [], .cmd y]], T, r - 4, l - 1, rfl, DT, sT, by omega, sz _ _ rfl, ⟨by omega, trivial, hc⟩, trivial⟩
  ·exact ⟨[.either [.cmd x, .call g (decide (f = 0)) [] [], .cmd y] []], T, r - 4, l - 1, rfl, DT, sT, by omega, sz _ _ rfl, ⟨by omega, hc, trivial⟩, trivial⟩
 simp! [ea, eb, D2.ixc1, e3, e4, e5, e6, e7, e8]
 by_cases hb : b = 0
 ·obtain ⟨cx, cy, S9, e9, ox, oy, D9, s9⟩ := D8.pair (mood := mood)
  simp! [decide_eq_true hb, e9, IC, M0];obtain ⟨ls, S', r', l', e, L⟩ := fin cx cy S9 ox oy D9 (s18.trans s9);refine ⟨ls, S', r', l', ?_, L⟩
  rw [<- e];rcases (by omega : a = 0 \/ a = 1) with rfl | rfl <;> rfl
 ·simp! [decide_eq_false hb, IC, M0]
  obtain ⟨ls, S', r', l', e, L⟩ := fin ca cb S8 oa ob D8 s18;refine ⟨ls, S', r', l', ?_, L⟩
  rw [<- e];rcases (by omega : a = 0 \/ a = 1) with rfl | rfl <;> rfl
theorem yD {p q c N : Nat} {many mood low : Int} {z8 : Option Vl} {z5 : Option Vl} (h0 : 0 <= mood) (h7 : mood <= 7) (lo : 0 <= low) (hm : many <= 3) :
  ∀ (is : List D) (ls : List Stt) (S : aL) (r l : Int), Dr p q c N many S r l -> 0 <= r -> (bQ ls : Int) + r <= 8 -> GdL many ls 3 -> ∃ (ls' : List Stt) (S' : aL) (r' l' : Int),
   loop (.nm 7) jE is [some (.cel p), some (.dat (.int mood)), some (.cel q), some (.cel c), some (.dat (.int low)), z5, some (.dat (.lst (bP ls))), none, z8] S =
    .next [some (.cel p), some (.dat (.int mood)), some (.cel q), some (.cel c), some (.dat (.int low)), z5, some (.dat (.lst (bP ls'))), none, z8] S' /\ Left p q c N many S (bQ ls + r) 3 ls' S' r' l'
 | [], ls, S, r, l, D, r0, r8, g => ⟨ls, S, r, l, rfl, D, Sam.refl, r0, Iz _, g⟩
 | i :: is, ls, S, r, l, D, r0, r8, g => by
  rw [loop];simp only [mR, bM, bJ];rw [jE];simp! [D.ixq]
  by_cases hr : 0 < r
  ·obtain ⟨l1, S1, r1, c1, e1, L1⟩ := (wF 30).2 (lv := 0) D h0 h7 (by omega) (by omega) lo hr (by omega) hm (by simp; omega)
   have hl := iA ls;have hl1 := iA l1;have hsz := L1.sz;have hr1 := L1.r0;simp! [decide_eq_true hr, e1, lO (show (bP ls).length + (bP l1).length <= sizeLine by rw [cK, cK]; exact PH.sz (by omega))]
   rw [<- jE, <- mI];obtain ⟨l2, S2, r2, c2, e2, L2⟩ := yD (p := p) (q := q) (c := c) (N := N) (z8 := z8) (z5 := z5) h0 h7 lo hm is (ls ++ l1) S1 r1 c1 L1.dr hr1 (by rw [gR]; omega) (g.app L1.gd)
   have := L2.sz;rw [gR] at this;exact ⟨l2, S2, r2, c2, e2, L2.dr, L1.sam.trans L2.sam, L2.r0, by omega, L2.gd⟩
  ·simp! [decide_eq_false hr]
   rw [<- jE];exact yD h0 h7 lo hm is ls S r l D r0 r8 g
def Ei : Stt := .either [.fin 1] []
theorem N8 {p q c N : Nat} {many : Int} {S : aL} {r l mood low : Int} (D : Dr p q c N many S r l) (h0 : 0 <= mood) (h7 : mood <= 7) (lo : 0 <= low) (r0 : 0 <= r) (r8 : r <= 8) (m1 : 1 <= many) (m3 : many <= 3) :
  ∃ (ls : List Stt) (S' : aL) (r' l' : Int), sI [.cel p, .dat (.int mood), .cel q, .cel c, .dat (.int low)] S = .ok (.dat (.lst (bP ls))) S' /\ Left p q c N many S (r + 2) 3 ls S' r' l' := by
 rw [show sI [.cel p, .dat (.int mood), .cel q, .cel c, .dat (.int low)] S = cC (wY [some (.cel p), some (.dat (.int mood)), some (.cel q), some (.cel c), some (.dat (.int low)), none, none, none, none] S) from rfl]
 unfold wY;obtain ⟨d, S1, e1, d0, d1, D1, s1⟩ := D.draw (k := 6) (by decide) (by decide)
 obtain ⟨a, S2, e2, a0, a1, D2, s2⟩ := D1.draw (k := 2) (by decide) (by decide)
 -- behind the loop
 have fin : ∀ (ls : List Stt) (T : aL) (r1 l1 : Int), Dr p q c N many T r1 l1 -> Sam [p, q, c] S T -> 0 <= r1 -> (bQ ls : Int) + r1 <= r -> GdL many ls 3 -> ∃ (ls' : List Stt) (S' : aL) (r' l' : Int), cC (aP (lN (oO (aV (dJ false) (mC (.int 1)) (aR bE (aB (aD 0) (aB (mC (.int 4)) aJ))))) (.nm 7) jE)
 (aP (bK (cN false (aB (cN false (aB (cH (aB (mC (.str "either")) (aB (cN false (aB (cH (aB (mC (.str "end")) (aB (mC (.int 1)) aJ))) aJ)) (aB (cN false aJ) aJ)))) aJ)) (aB (cN false (aB (cH (aB (mC (.str "end")) (aB (mC (.int 1)) aJ))) aJ)) aJ))) (.nm 8))
 (aP (bS (rN (mB (aV eZ (aD 5) (mC (.int 1)))) (mB (aV eZ (aD 5) (mC (.int 3))))) (bG (aV (dJ false) (aD 6) (aV cM (aD 8) (aV rC (aD 5) (mC (.int 2)))))) bB)
 (aP (bS (mB (aV eZ (aD 5) (mC (.int 2)))) (bG (aV (dJ false) (aV cM (aD 8) (mC (.int 0))) (aD 6))) bB)
 (bG (aD 6))))) [some (.cel p), some (.dat (.int mood)), some (.cel q), some (.cel c), some (.dat (.int low)), some (.dat (.int d)), some (.dat (.lst (bP ls))), none, none] T) = .ok (.dat (.lst (bP ls'))) S' /\ Left p q c N many S (r + 2) 3 ls' S' r' l' := fun ls T r1 l1 DT sT r10 hsz g => by
  obtain ⟨x, T1, e3, x0, x1, D3, s3⟩ := DT.draw (k := 4) (by decide) (by decide)
  obtain ⟨l4, T4, r4, c4, e4, L4⟩ := yD (z8 := none) (z5 := some (.dat (.int d))) h0 h7 lo m3 (gH 0 (1 + x).toNat) ls T1 r1 l1 D3 r10 (by omega) g
  have hs4 := L4.sz;have hr4 := L4.r0;have hl4 := iA l4;have s4 := sT.trans (s3.trans L4.sam);simp! [e3, iK (show -(2 ^ 62) <= 1 + x by omega) (show 1 + x < 2 ^ 62 by omega), e4]
  have hA : GdL many [Ei] 3 := ⟨⟨by omega, ⟨⟨by omega, by omega⟩, trivial⟩, trivial⟩, trivial⟩
  have hB : GdL many [.fin 1] 3 := ⟨⟨by omega, by omega⟩, trivial⟩
  have a1 : (bP l4).length + (bP [Ei]).length <= sizeLine := sz (by rw [cK, cK]; simp; omega)
  have a2 : (bP l4).length + (bP [.fin 1]).length <= sizeLine := sz (by rw [cK, cK]; simp; omega)
  have a3 : (bP [Ei]).length + (bP l4).length <= sizeLine := sz (by rw [cK, cK]; simp; omega)
  have q1 : ∀ T, cM (.dat (.lst [.lst [.tup [.str "either", .lst [.tup [.str "end", .int 1]], .lst []]], .lst [.tup [.str "end", .int 1]]])) (.dat (.int 0)) T = .ok (.dat (.lst (bP [Ei]))) T := fun T => rfl
  have q2 : ∀ T, cM (.dat (.lst [.lst [.tup [.str "either", .lst [.tup [.str "end", .int 1]], .lst []]], .lst [.tup [.str "end", .int 1]]])) (.dat (.int 1)) T = .ok (.dat (.lst (bP [.fin 1]))) T := fun T => rfl
  rcases (by omega : d = 0 \/ d = 1 \/ d = 2 \/ d = 3 \/ d = 4 \/ d = 5) with rfl | rfl | rfl | rfl | rfl | rfl
  ·simp! [if_true]
   exact ⟨l4, T4, r4, c4, rfl, L4.dr, s4, hr4, by omega, L4.gd⟩
  ·have f1 : ∀ T, rC (.dat (.int 1)) (.dat (.int 2)) T = .ok (.dat (.int 0)) T := fun T => rfl
   simp! [f1, q1, lO a1];refine ⟨l4 ++ [Ei], T4, r4, c4, by rw [mI]; rfl, L4.dr, s4, hr4, ?_, L4.gd.app hA⟩
   rw [gR]; simp only [bQ, Ei, Stt.size]; omega
  ·simp! [q1, lO a3]
   refine ⟨[Ei] ++ l4, T4, r4, c4, by rw [mI]; rfl, L4.dr, s4, hr4, ?_, hA.app L4.gd⟩
   rw [gR]; simp only [bQ, Ei, Stt.size]; omega
  ·have f1 : ∀ T, rC (.dat (.int 3)) (.dat (.int 2)) T = .ok (.dat (.int 1)) T := fun T => rfl
   simp! [f1, q2, lO a2];refine ⟨l4 ++ [.fin 1], T4, r4, c4, by rw [mI]; rfl, L4.dr, s4, hr4, ?_, L4.gd.app hB⟩
   rw [gR]; simp only [bQ, Stt.size]; omega
  ·simp! [if_true]
   exact ⟨l4, T4, r4, c4, rfl, L4.dr, s4, hr4, by omega, L4.gd⟩
  ·simp! [if_true]
   exact ⟨l4, T4, r4, c4, rfl, L4.dr, s4, hr4, by omega, L4.gd⟩
 have fin0 := fin [] S2 r l D2 (s1.trans s2) r0 (by simp [bQ]) trivial
 rw [CA] at fin0
 by_cases ha : a = 0
 ·by_cases hr : 3 < r
  ·by_cases hl : 0 < l
   ·obtain ⟨la, Sa, ra, ca, ea, La⟩ := Ie D2 h0 h7 hr m1 m3
    have := La.sz;have f := fin la Sa ra ca La.dr (s1.trans (s2.trans La.sam)) La.r0 (by omega) La.gd
    rw [CA] at f;simp! [e1, e2, decide_eq_true ha, D2.ixq, decide_eq_true hr, D2.ixc0, decide_eq_true hl, ea] at f ⊢;exact f
   ·simp! [e1, e2, decide_eq_true ha, D2.ixq, decide_eq_true hr, D2.ixc0, decide_eq_false hl] at fin0 ⊢
    exact fin0
  ·simp! [e1, e2, decide_eq_true ha, D2.ixq, decide_eq_false hr] at fin0 ⊢
   exact fin0
 ·simp! [e1, e2, decide_eq_false ha] at fin0 ⊢
  exact fin0
structure Bk (p n N : Nat) (S0 : aL) (many l : Int) (bs : List (List Stt)) (T : aL) : Prop where
 ls : LS T
 n2 : 2 <= N
 hp : p < n
 len : n + 2 <= T.length
 pool : ∃ ks, T[p]? = some (PL ks) /\ ks.length = N
 call : T[n]? = some (PL [l, many])
 bod : T[n + 1]? = some (.lst (bls bs))
 old : ∀ i, i < n -> i ≠ p -> T[i]? = S0[i]?
theorem pL {T : aL} {c : Cell} {i : Nat} (h : i < T.length) : (T ++ [c])[i]? = T[i]? := aK h
theorem CV {p n N : Nat} {S0 T : aL} {many l mood low rm : Int} {bs : List (List Stt)} (B : Bk p n N S0 many l bs T) (h0 : 0 <= mood) (h7 : mood <= 7) (lo : 0 <= low) (r0 : 0 <= rm) (r8 : rm <= 8) (m1 : 1 <= many) (m3 : many <= 3) (hb : bs.length <= 3) :
  ∃ (b : List Stt) (T2 : aL) (l' : Int), sI [.cel p, .dat (.int mood), .cel T.length, .cel n, .dat (.int low)] (T ++ [PL [rm]]) = .ok (.dat (.lst (bP b))) T2 /\ T2[n + 1]? = some (.lst (bls bs)) /\ GdL many b 3 /\ (bQ b : Int) <= rm + 2 /\ Bk p n N S0 many l' (bs ++ [b]) (T2.set (n + 1) (.lst (bls bs ++ [.lst (bP b)]))) := by
 obtain ⟨ks, hk, hkl⟩ := B.pool;have hlen := B.len;have hp := B.hp;have D : Dr p T.length n N many (T ++ [PL [rm]]) rm l := ⟨B.ls.app, B.n2, ⟨ks, by rw [pL (by omega)]; exact hk, hkl⟩, by simp, by rw [pL (by omega)]; exact B.call, by omega, by omega, by omega⟩
 obtain ⟨b, T2, r', l', e, L⟩ := N8 D h0 h7 lo r0 r8 m1 m3;have hsz := L.sz;have hr := L.r0;have h1 : T2[n + 1]? = some (.lst (bls bs)) := by
  rw [L.sam.2 (n + 1) (by simp; omega), pL (by omega)]
  exact B.bod
 have hl2 : T2.length = T.length + 1 := by rw [L.sam.1]; simp
 refine ⟨b, T2, l', e, h1, L.gd, by omega, L.dr.ls.set, B.n2, B.hp, by simp; omega, ?_, by rw [lG (by omega)]; exact L.dr.call, ?_, fun i hi hip => ?_⟩
 ·obtain ⟨ks', hk', hkl'⟩ := L.dr.pool
  exact ⟨ks', by rw [lG (by omega)]; exact hk', hkl'⟩
 ·rw [mL h1]
  simp [bls]
 ·rw [lG (by omega), L.sam.2 i (by simp; omega), pL (by omega)]
  exact B.old i hi hip
theorem yC {p n N : Nat} {S0 : aL} {many mood most size : Int} {wild : Bool} (h0 : 0 <= mood) (h7 : mood <= 7) (m1 : 1 <= many) (m3 : many <= 3) (z3 : 3 <= size) (z8 : size <= 8) :
  ∀ (j : Nat) (i : Int) (bs : List (List Stt)) (T : aL) (l : Int), Bk p n N S0 many l bs T -> 0 <= i -> bs.length + j <= 3 -> (∀ b ∈ bs, GdL many b 3 /\ (bQ b : Int) <= size) -> ∃ (bs' : List (List Stt)) (T' : aL) (l' : Int),
   loop (.nm 8) lF (gH i j) [some (.cel p), some (.dat (.int most)), some (.dat (.int size)), some (.dat (.int mood)), some (.dat (.bl wild)), some (.dat (.int many)), some (.cel n), some (.cel (n + 1)), none, none, none] T =
    .next [some (.cel p), some (.dat (.int most)), some (.dat (.int size)), some (.dat (.int mood)), some (.dat (.bl wild)), some (.dat (.int many)), some (.cel n), some (.cel (n + 1)), none, none, none] T' /\ Bk p n N S0 many l' bs' T' /\ (∀ b ∈ bs', GdL many b 3 /\ (bQ b : Int) <= size) /\ bs'.length = bs.length + j
 | 0, i, bs, T, l, B, _, _, g => ⟨bs, T, l, rfl, B, g, rfl⟩
 | j + 1, i, bs, T, l, B, hi, hj, g => by
  have hlen := B.len;have hrm : 0 <= size - 2 - (if decide ((2 : Int) < many) = true then 1 else 0) /\ size - 2 - (if decide ((2 : Int) < many) = true then 1 else 0) <= size - 2 := by split <;> omega
  generalize hR : (size - 2 - (if decide ((2 : Int) < many) = true then (1 : Int) else 0)) = R at hrm
  obtain ⟨b1, T1, l1, e1, a1, g1, s1, B1⟩ := CV (rm := R) (mood := mood) (low := 0) B h0 h7 (by omega) (by omega) (by omega) m1 m3 (by omega)
  obtain ⟨b2, T2, l2, e2, a2, g2, s2, B2⟩ := CV (rm := R) (mood := mood) (low := i + 1) B h0 h7 (by omega) (by omega) (by omega) m1 m3 (by omega)
  have hat : (T ++ [PL [R]])[n + 1]? = some (.lst (bls bs)) := by rw [pL (by omega)]; exact B.bod
  have hsl : (bls bs).length < sizeLine := by rw [qP]; exact zM (show bs.length <= 3 by omega) (by decide)
  rw [show PL [R] = .lst [.int R] from rfl] at e1 e2 hat
  rw [vI, loop];simp only [mR, bM, bJ];rw [lF];cases wild with
  | true =>
   simp! [hR, DK hat, e1, DL a1 hsl];rw [<- lF];obtain ⟨bs', T', l', e, B', g', n'⟩ := yC (most := most) h0 h7 m1 m3 z3 z8 j (i + 1) (bs ++ [b1]) _ l1 B1 (by omega) (by simp; omega) (fun b hb => by
    rcases cF.mp hb with hb | hb
    ·exact g b hb
    ·rw [dH.mp hb]; exact ⟨g1, by omega⟩)
   exact ⟨bs', T', l', e, B', g', by rw [n']; simp; omega⟩
  | false =>
   simp! [hR, DK hat, e2, DL a2 hsl];rw [<- lF];obtain ⟨bs', T', l', e, B', g', n'⟩ := yC (most := most) h0 h7 m1 m3 z3 z8 j (i + 1) (bs ++ [b2]) _ l2 B2 (by omega) (by simp; omega) (fun b hb => by
    rcases cF.mp hb with hb | hb
    ·exact g b hb
    ·rw [dH.mp hb]; exact ⟨g2, by omega⟩)
   exact ⟨bs', T', l', e, B', g', by rw [n']; simp; omega⟩
structure Good (bs : List (List Stt)) : Prop where
 l1 : 1 <= bs.length
 l3 : bs.length <= 3
 gd : ∀ b ∈ bs, GdL (bs.length : Int) b 3 /\ bQ b <= 8
theorem N7 {S : aL} {p : Nat} {ks : List Int} {most size : Int} (hP : PoolAt S p ks) (ls : LS S) (m1 : 1 <= most) (m3 : most <= 3) (z3 : 3 <= size) (z8 : size <= 8) :
  ∃ (bs : List (List Stt)) (ks' : List Int), vS [.cel p, .dat (.int most), .dat (.int size)] S = .ok (.dat (.lst (bls bs))) (S.set p (PL ks')) /\ Good bs /\ (∀ b ∈ bs, (bQ b : Int) <= size) /\ (bs.length : Int) <= most /\ ks'.length = ks.length := by
 obtain ⟨d1, k1, e1, h10, h11, l1⟩ := eL hP (k := 6) (by decide) (by decide)
 obtain ⟨d2, k2, e2, h20, h21, l2⟩ := eL (hP.next l1) (k := 8) (by decide) (by decide)
 obtain ⟨d3, k3, e3, h30, h31, l3⟩ := eL ((hP.next l1).next l2) (k := most) (by omega) (by omega)
 simp only [dG] at e2 e3;have hp : p < S.length := (aI.mp hP.1).1;have P3 : PoolAt (S.set p (PL k3)) p k3 := ⟨mL hP.1, by have := hP.2; omega⟩
 have ls3 : LS (S.set p (PL k3)) := ls.set;have hS3 : (S.set p (PL k3)).length = S.length := by simp
 rw [show vS [.cel p, .dat (.int most), .dat (.int size)] S = trunc S.length (cC (wX [some (.cel p), some (.dat (.int most)), some (.dat (.int size)), none, none, none, none, none, none, none, none] S)) from rfl]
 unfold wX;simp! [e1, e2, e3, iK (show -(2 ^ 62) <= 1 + d3 by omega) (show 1 + d3 < 2 ^ 62 by omega), eQ, pO]
 have B : Bk p S.length k3.length S (1 + d3) 4 [] (S.set p (PL k3) ++ [PL [4, 1 + d3]] ++ [.lst []]) := by
  refine ⟨ls3.app.app, by have := hP.2; omega, hp, by simp, ⟨k3, ?_, rfl⟩, ?_, ?_, fun i hi hip => ?_⟩
  ·rw [pL (by simp; omega), pL (by simp; omega)]; exact P3.1
  ·rw [pL (by simp), <- hS3]; simp
  ·rw [show S.length + 1 = (S.set p (PL k3) ++ [PL [4, 1 + d3]]).length by simp]; simp [bls]
  ·rw [pL (by simp; omega), pL (by simp; omega), lG (Ne.symm hip)]
 obtain ⟨bs, T, l, e, B', g, nb⟩ := yC (p := p) (most := most) (wild := decide (d2 = 0)) (mood := d1) h10 (by omega) (by omega) (by omega) z3 z8 (1 + d3).toNat 0 [] _ 4 B (by omega) (by simp; omega) (fun b hb => nomatch hb)
 have nb' : bs.length = (1 + d3).toNat := by rw [nb]; simp
 have hm : (bs.length : Int) = 1 + d3 := by omega
 rw [show ([PL [4, 1 + d3]] : aL) = [.lst [.int 4, .int (1 + d3)]] from rfl, show PL k3 = .lst (k3.map D.int) from rfl] at e
 simp! [e, DJ B'.bod];obtain ⟨ks', hk, hkl⟩ := B'.pool;have hlen := B'.len;have et : (T.set (S.length + 1) Cell.dead).take S.length = S.set p (PL ks') := by
  apply fP
  intro i;rw [eI]
  by_cases hi : i < S.length
  ·rw [if_pos hi, lG (by omega)]
   by_cases hip : i = p
   ·rw [hip, hk, mL hP.1]
   ·rw [lG (Ne.symm hip)]; exact B'.old i hi hip
  ·rw [if_neg hi, List.getElem?_eq_none (by simp; omega)]
 refine ⟨bs, ks', ?_, ⟨by omega, by omega, fun b hb => ?_⟩, fun b hb => (g b hb).2, by omega, by omega⟩
 ·show trunc S.length (.ok (.dat (.lst (bls bs))) (T.set (S.length + 1) Cell.dead)) = _
  dsimp only [trunc];rw [et];have : ((S.set p (PL ks')).all fun c => c.below S.length) = true := bA.mpr fun c hc => (LS.set ls : LS (S.set p (PL ks'))) c hc _
  simp only [Vl.below, this, F2, if_true]
 ·have := (g b hb).2
  rw [hm];exact ⟨(g b hb).1, by omega⟩
theorem Good.ok {bs : List (List Stt)} (h : Good bs) : ∀ b ∈ bs, OkL (bs.length : Int) b 3 := fun b hb => (h.gd b hb).1.ok (by have := (h.gd b hb).2; omega)
theorem good_none : ∀ {bs : List (List Stt)} {p : Int} {many : Int}, (∀ b ∈ bs, GdL many b 3 /\ bQ b <= 8) -> sS p bs = none
 | [], p, many, _ => rfl
 | b :: r, p, many, h => by
  obtain ⟨h1, h2⟩ := h b (aW ..);rw [sS, mH (n := 3) h1 (by omega) (by omega) (by omega) (by omega) (by omega) (by omega)]
  exact good_none fun b hb => h b (aQ _ hb)
theorem Good.none {bs : List (List Stt)} (h : Good bs) : sS 0 bs = none := good_none h.gd
theorem Hz {S : aL} {bs : List (List Stt)} (ls : LS S) (h : Good bs) : C4 false "Book" jL [.dat (.lst (bls bs))] S = .ok (.dat (dD bs)) S := by
 rw [Lq ls h.ok (by omega) rfl h.l1 h.l3, h.none]
def pre (i : Int) (p : List Int × Stt) : List Int × Stt := (i :: p.1, p.2)
mutual
def relS : Stt -> List (List Int × Stt)
 | .keep b => (hE 0 b).map (pre 0)
 | .again b => (hE 0 b).map (pre 0)
 | .either a b => (hE 0 a).map (pre 0) ++ (hE 0 b).map (pre 1)
 | .call _ _ a b => (hE 0 a).map (pre 0) ++ (hE 0 b).map (pre 1)
 | _ => []
def hE (at_ : Int) : List Stt -> List (List Int × Stt)
 | [] => []
 | s :: r => ([at_], s) :: ((relS s).map (pre at_) ++ hE (at_ + 1) r)
end
def mU (i : Int) : List (List Stt) -> List (List Int × Stt)
 | [] => []
 | b :: r => (hE 0 b).map (pre i) ++ mU (i + 1) r
theorem GV {s : Stt} : relS s = mU 0 s.blocks := by
 cases s <;> simp [relS, mU, Stt.blocks]
def A2 (path : List Int) (ps : List (List Int × Stt)) : List D := ps.map fun p => .tup [tupI (path ++ p.1), p.2.d]
theorem Gb {path : List Int} {ps qs : List (List Int × Stt)} : A2 path (ps ++ qs) = A2 path ps ++ A2 path qs := by simp [A2]
theorem Ga {path : List Int} {i : Int} {ps : List (List Int × Stt)} : A2 path (ps.map (pre i)) = A2 (path ++ [i]) ps := by
 simp [A2, pre]
mutual
theorem EA : ∀ s : Stt, (relS s).length + 1 = s.size
 | .cmd c => rfl
 | .fin c => rfl
 | .bad => rfl
 | .odd x => rfl
 | .keep b => by simp [relS, Stt.size, gA 0 b]
 | .again b => by simp [relS, Stt.size, gA 0 b]
 | .either a b => by simp [relS, Stt.size, gA 0 a, gA 0 b]
 | .call _ _ a b => by simp [relS, Stt.size, gA 0 a, gA 0 b]
theorem gA : ∀ (i : Int) (l : List Stt), (hE i l).length = bQ l
 | i, [] => rfl
 | i, s :: r => by
  have := EA s;have := gA (i + 1) r;simp [hE, bQ];omega
end
theorem Cu {path : List Int} {ps : List (List Int × Stt)} : (A2 path ps).length = ps.length := by simp [A2]
structure On (S T : aL) : Prop where
 ls : LS T
 len : S.length <= T.length
 tak : T.take S.length = S
theorem On.refl {S : aL} (h : LS S) : On S S := ⟨h, bH _, by simp⟩
theorem On.app {S T : aL} {ds : List D} (h : On S T) : On S (T ++ [.lst ds]) := ⟨h.ls.app, by have := h.len; simp; omega, by rw [List.take_append_of_le_length h.len]; exact h.tak⟩
theorem take_set {T : aL} {n c : Nat} {x : Cell} (h : n <= c) : (T.set c x).take n = T.take n := by
 apply fP
 intro i;rw [eI, eI]
 by_cases hi : i < n
 ·rw [if_pos hi, if_pos hi, lG (by omega)]
 ·rw [if_neg hi, if_neg hi]
theorem On.set {S T : aL} {c : Nat} {ds : List D} (h : On S T) (hc : S.length <= c) : On S (T.set c (.lst ds)) := ⟨h.ls.set, by have := h.len; simp; omega, by rw [take_set hc]; exact h.tak⟩
theorem On.kill {S T : aL} {c : Nat} (h : On S T) (hc : S.length <= c) : On S (T.set c .dead) := ⟨fun x hx n => by
 rcases eC hx with hx | hx
 ·exact h.ls x hx n
 ·rw [hx]; rfl, by have := h.len; simp; omega, by rw [take_set hc]; exact h.tak⟩
theorem On.trunc {S T : aL} {d : D} (h : On S T) (ls : LS S) : PH.trunc S.length (.ok (.dat d) T) = .ok (.dat d) S := by
 dsimp only [PH.trunc];rw [h.tak];have : (S.all fun c => c.below S.length) = true := bA.mpr fun c hc => ls c hc _
 simp only [Vl.below, this, F2, if_true]
theorem EZ {S : aL} {n : Nat} {cl : Bool} {xs ys : List D} (h : S[n]? = some (.lst xs)) (hl : xs.length + ys.length <= sizeLine) : dJ cl (.cel n) (.dat (.lst ys)) S = newL cl (xs ++ ys) S := by simp only [dJ, lA, h, hl, if_true]
theorem Ii {cl : Bool} {p : List Int} {i j : Int} {S : aL} (h : p.length <= 100) : dJ cl (.dat (tupI p)) (.dat (.tup [.int i, .int j])) S = .ok (.dat (tupI (p ++ [i, j]))) S := by
 rw [KQ (sz (by simp; omega))]
 simp [tupI]
def yE (n : Nat) : Prop := ∀ {S : aL} {many : Int} {l : List Stt} {k : Nat} {path : List Int}, LS S -> OkL many l k -> bQ l <= 100 -> path.length + 2 * k <= 90 -> k + 1 <= n -> cS n [.dat (.lst (bP l)), .dat (tupI path)] S = .ok (.dat (.lst (A2 path (hE 0 l)))) S
theorem Ao {n : Nat} (ih : yE n) {S : aL} {many : Int} {k : Nat} {path : List Int} {at_ : Int} {a0 : Option Vl} {bs0 : List (List Stt)} (hp : path.length + 2 + 2 * k <= 90) (hk : k + 1 <= n) :
  ∀ (bs : List (List Stt)) (i : Nat) (T : aL) (c : Nat) (acc : List D), (∀ j, bs0[i + j]? = bs[j]?) -> (∀ b ∈ bs, OkL many b k) -> On S T -> S.length <= c -> T[c]? = some (.lst acc) -> acc.length + (mU (i : Int) bs).length <= 200 -> (mU (i : Int) bs).length <= 100 ->
   ∃ (T' : aL) (c' : Nat), loop (.nm 5) (eD (cS n)) (gH (i : Int) bs.length) [a0, some (.dat (tupI path)), some (.cel c), some (.dat (.int at_)), some (.dat (.lst (bls bs0))), none] T = .next [a0, some (.dat (tupI path)), some (.cel c'), some (.dat (.int at_)), some (.dat (.lst (bls bs0))), none] T' /\ On S T' /\ S.length <= c' /\ T'[c']? = some (.lst (acc ++ A2 (path ++ [at_]) (mU (i : Int) bs)))
 | [], i, T, c, acc, _, _, on, hc, hat, _, _ => ⟨T, c, rfl, on, hc, by simpa [mU, A2] using hat⟩
 | b :: r, i, T, c, acc, hj, ho, on, hc, hat, hl, hl2 => by
  have hb := ho b (aW ..);have hlen : (mU (i : Int) (b :: r)).length = bQ b + (mU ((i + 1 : Nat) : Int) r).length := by
   simp [mU, gA]
  rw [hlen] at hl hl2;have hix : atI (bls bs0) (i : Int) = some (.lst (bP b)) := by
   have := hj 0;rw [HW] at this;rw [cQ (n := i) rfl];simp [bls, this]
  have e1 := ih (path := path ++ [at_, (i : Int)]) on.ls hb (by omega) (by simp; omega) hk
  have el : loop (.nm 5) (eD (cS n)) (gH (i : Int) (b :: r).length) [a0, some (.dat (tupI path)), some (.cel c), some (.dat (.int at_)), some (.dat (.lst (bls bs0))), none] T = (match eD (cS n) [a0, some (.dat (tupI path)), some (.cel c), some (.dat (.int at_)), some (.dat (.lst (bls bs0))), some (.dat (.int (i : Int)))] T with
   | .next ρ2 S2 => loop (.nm 5) (eD (cS n)) (gH ((i + 1 : Nat) : Int) r.length) ρ2 S2
   | .cnt ρ2 S2 => loop (.nm 5) (eD (cS n)) (gH ((i + 1 : Nat) : Int) r.length) ρ2 S2
   | .brk ρ2 S2 => .next ρ2 S2
   | .ret d S2 => .ret d S2
   | .err e ρ2 S2 => .err e ρ2 S2
   | .stuck => .stuck) := by
   rw [aY, vI, loop]; rfl
  rw [el, eD];simp! [Ii (show path.length <= 100 by omega), kL hix, e1, EZ hat (show acc.length + (A2 (path ++ [at_, (i : Int)]) (hE 0 b)).length <= sizeLine from sz (by rw [Cu, gA]; omega))]
  rw [<- eD];have hj' : ∀ j, bs0[i + 1 + j]? = r[j]? := fun j => by
   have := hj (j + 1);rw [show i + 1 + j = i + (j + 1) by omega, this]
   rfl
  obtain ⟨T', c', e, on', hc', hat'⟩ := Ao ih (S := S) (many := many) (at_ := at_) (a0 := a0) (bs0 := bs0) hp hk r (i + 1) (T ++ [.lst (acc ++ A2 (path ++ [at_, (i : Int)]) (hE 0 b))]) T.length (acc ++ A2 (path ++ [at_, (i : Int)]) (hE 0 b)) hj' (fun b hb => ho b (aQ _ hb)) on.app on.len (by simp) (by rw [pO, Cu, gA]; omega) (by omega)
  refine ⟨T', c', e, on', hc', ?_⟩
  rw [hat', show mU (i : Int) (b :: r) = (hE 0 b).map (pre i) ++ mU ((i + 1 : Nat) : Int) r from rfl, Gb, Ga]
  simp
theorem yW {n : Nat} (ih : yE n) {S : aL} {many : Int} {k : Nat} {path : List Int} {l0 : List Stt} (hp : path.length + 2 * k <= 90) (hk : k <= n) :
  ∀ (l : List Stt) (i : Nat) (T : aL) (c : Nat) (acc : List D), (∀ j, l0[i + j]? = l[j]?) -> OkL many l k -> On S T -> S.length <= c -> T[c]? = some (.lst acc) -> acc.length + bQ l <= 100 ->
   ∃ (T' : aL) (c' : Nat), loop (.nm 3) (eM (cS n)) (gH (i : Int) l.length) [some (.dat (.lst (bP l0))), some (.dat (tupI path)), some (.cel c), none, none, none] T = .next [some (.dat (.lst (bP l0))), some (.dat (tupI path)), some (.cel c'), none, none, none] T' /\ On S T' /\ S.length <= c' /\ T'[c']? = some (.lst (acc ++ A2 path (hE (i : Int) l)))
 | [], i, T, c, acc, _, _, on, hc, hat, _ => ⟨T, c, rfl, on, hc, by simpa [hE, A2] using hat⟩
 | s :: r, i, T, c, acc, hj, ho, on, hc, hat, hl => by
  have hs := EA s;simp only [bQ] at hl;have hix : atI (bP l0) (i : Int) = some s.d := by
   have := hj 0;rw [HW] at this;rw [cQ (n := i) rfl, kO, bZ, this];rfl
  have el : loop (.nm 3) (eM (cS n)) (gH (i : Int) (s :: r).length) [some (.dat (.lst (bP l0))), some (.dat (tupI path)), some (.cel c), none, none, none] T = (match eM (cS n) [some (.dat (.lst (bP l0))), some (.dat (tupI path)), some (.cel c), some (.dat (.int (i : Int))), none, none] T with
   | .next ρ2 S2 => loop (.nm 3) (eM (cS n)) (gH ((i + 1 : Nat) : Int) r.length) ρ2 S2
   | .cnt ρ2 S2 => loop (.nm 3) (eM (cS n)) (gH ((i + 1 : Nat) : Int) r.length) ρ2 S2
   | .brk ρ2 S2 => .next ρ2 S2
   | .ret d S2 => .ret d S2
   | .err e ρ2 S2 => .err e ρ2 S2
   | .stuck => .stuck) := by
   rw [aY, vI, loop]; rfl
  rw [el, eM];have bn := GV (s := s);have hf := nX (s := s);obtain ⟨T', c', e, on', hc', hat'⟩ : ∃ (T' : aL) (c' : Nat), loop (.nm 5) (eD (cS n)) (gH 0 s.blocks.length) [some (.dat (.lst (bP l0))), some (.dat (tupI path)), some (.cel c), some (.dat (.int (i : Int))), some (.dat (.lst (bls s.blocks))), none] (T.set c (.lst (acc ++ [.tup [tupI (path ++ [(i : Int)]), s.d]]))) = .next [some (.dat (.lst (bP l0))), some (.dat (tupI path)), some (.cel c'), some (.dat (.int (i : Int))), some (.dat (.lst (bls s.blocks))), none] T' /\ On S T' /\ S.length <= c' /\ T'[c']? = some (.lst (acc ++ [.tup [tupI (path ++ [(i : Int)]), s.d]] ++ A2 (path ++ [(i : Int)]) (relS s))) := by
   by_cases hb0 : s.blocks = []
   ·rw [hb0]
    refine ⟨_, c, rfl, on.set hc, hc, ?_⟩
    rw [bn, hb0, mL hat];simp [mU, A2]
   ·have hk0 : 0 < k := by
     cases q : s.blocks with
     | nil => exact absurd q hb0
     | cons b bs => exact (jO ho.1.1 b (by rw [q]; exact aW ..)).1
    have := Ao ih (S := S) (many := many) (k := k - 1) (path := path) (at_ := (i : Int)) (a0 := some (.dat (.lst (bP l0)))) (bs0 := s.blocks) (by omega) (by omega) s.blocks 0 _ c (acc ++ [.tup [tupI (path ++ [(i : Int)]), s.d]]) (by simp) (fun b hb => (jO ho.1.1 b hb).2) (on.set hc) hc (mL hat) (by rw [gM, <- bn]; simp; omega) (by rw [gM, <- bn]; omega)
    rw [gM, <- bn] at this;exact this
  simp! [BL (show path.length <= 100 by omega), kL hix, DK hat, DL hat (show acc.length < sizeLine from zM (show acc.length <= 100 by omega) (by decide)), Ey ho.1.1.no, qP, iK (show -(2 ^ 62) <= (s.blocks.length : Int) by omega) (show (s.blocks.length : Int) < 2 ^ 62 by omega), dX, e]
  rw [<- eM];have hj' : ∀ j, l0[i + 1 + j]? = r[j]? := fun j => by
   have := hj (j + 1);rw [show i + 1 + j = i + (j + 1) by omega, this]
   rfl
  obtain ⟨T2, c2, e2, on2, hc2, hat2⟩ := yW ih (S := S) (many := many) (k := k) (path := path) (l0 := l0) hp hk r (i + 1) T' c' _ hj' ho.2 on' hc' hat' (by simp [Cu]; omega)
  refine ⟨T2, c2, e2, on2, hc2, ?_⟩
  rw [hat2, show hE (i : Int) (s :: r) = ([(i : Int)], s) :: ((relS s).map (pre i) ++ hE ((i + 1 : Nat) : Int) r) from rfl]
  rw [show A2 path (([(i : Int)], s) :: ((relS s).map (pre i) ++ hE ((i + 1 : Nat) : Int) r)) = .tup [tupI (path ++ [(i : Int)]), s.d] :: A2 path ((relS s).map (pre i) ++ hE ((i + 1 : Nat) : Int) r) from rfl, Gb, Ga]
  simp
theorem L7 (n : Nat) : yE n := by
 induction n with
 | zero => intro S many l k path _ _ _ _ h; omega
 | succ n ih =>
  intro S many l k path ls ho hl hp hk;rw [GF];unfold qQ;have hlen := ho.len;obtain ⟨T, c, e, on, hc, hat⟩ := yW ih (S := S) (many := many) (k := k) (path := path) (l0 := l) hp (by omega) l 0 (S ++ [.lst []]) S.length [] (by simp) ho ((On.refl ls).app) (bH _) (by simp) (by simpa using hl)
  rw [tM, gM] at hat;rw [gM] at e;simp! [cK, iK (show -(2 ^ 62) <= (l.length : Int) by omega) (show (l.length : Int) < 2 ^ 62 by omega), dX, e, DJ hat]
  exact (on.kill hc).trunc ls
def gQ (p : Int) : List (List Stt) -> List (Int × List Int × Stt)
 | [] => []
 | b :: r => (hE 0 b).map (fun x => (p, x.1, x.2)) ++ gQ (p + 1) r
def rH (ps : List (Int × List Int × Stt)) : List D := ps.map fun x => .tup [.int x.1, tupI x.2.1, x.2.2.d]
theorem HP {S : aL} {p : Int} {a0 : Option Vl} : ∀ (ps : List (List Int × Stt)) (T : aL) (c : Nat) (acc : List D), On S T -> S.length <= c -> T[c]? = some (.lst acc) -> acc.length + ps.length <= 1000 -> ∃ T', loop (.nm 3) fW (A2 [] ps) [a0, some (.cel c), some (.dat (.int p)), none] T = .next [a0, some (.cel c), some (.dat (.int p)), none] T' /\ On S T' /\ T'[c]? = some (.lst (acc ++ rH (ps.map fun x => (p, x.1, x.2))))
 | [], T, c, acc, on, hc, hat, hl => ⟨T, rfl, on, by simpa [rH] using hat⟩
 | x :: r, T, c, acc, on, hc, hat, hl => by
  rw [show A2 [] (x :: r) = .tup [tupI x.1, x.2.d] :: A2 [] r from rfl, loop]
  simp only [mR, bM, bJ];rw [fW];simp only [aY] at hl;simp! [DK hat, cZ, mG, DL hat (show acc.length < sizeLine from zM (show acc.length <= 1000 by omega) (by decide))]
  rw [<- fW];obtain ⟨T', e, on', hat'⟩ := HP (S := S) (p := p) (a0 := a0) r _ c (acc ++ [.tup [.int p, tupI x.1, x.2.d]]) (on.set hc) hc (mL hat) (by rw [pO]; simp only [aY, cY]; omega)
  exact ⟨T', e, on', by rw [hat']; simp [rH]⟩
theorem Es {S : aL} {many : Int} {bs0 : List (List Stt)} {k : Nat} (hk : k <= 9) : ∀ (bs : List (List Stt)) (i : Nat) (T : aL) (c : Nat) (acc : List D), (∀ j, bs0[i + j]? = bs[j]?) -> (∀ b ∈ bs, OkL many b k /\ bQ b <= 12) -> bs.length <= 3 -> On S T -> S.length <= c -> T[c]? = some (.lst acc) -> acc.length + 12 * bs.length <= 100 -> ∃ T', loop (.nm 2) fV (gH (i : Int) bs.length) [some (.dat (.lst (bls bs0))), some (.cel c), none, none] T = .next [some (.dat (.lst (bls bs0))), some (.cel c), none, none] T' /\ On S T' /\ T'[c]? = some (.lst (acc ++ rH (gQ (i : Int) bs)))
 | [], i, T, c, acc, _, _, _, on, hc, hat, hl => ⟨T, rfl, on, by simpa [rH, gQ] using hat⟩
 | b :: r, i, T, c, acc, hj, ho, h3, on, hc, hat, hl => by
  obtain ⟨hb, hs⟩ := ho b (aW ..);have hix : atI (bls bs0) (i : Int) = some (.lst (bP b)) := by
   have := hj 0;rw [HW] at this;rw [cQ (n := i) rfl];simp [bls, this]
  simp only [aY] at hl h3;have e1 := L7 10 (path := []) on.ls hb (by omega) (by simp; omega) (by omega)
  rw [show tupI [] = D.tup [] from rfl] at e1
  obtain ⟨T1, e2, on1, hat1⟩ := HP (p := (i : Int)) (a0 := some (.dat (.lst (bls bs0)))) (hE 0 b) T c acc on hc hat (by rw [gA]; omega)
  rw [aY, vI, loop];simp only [mR, bM, bJ];rw [fV];simp! [kL hix, e1, e2];rw [<- fV];have hj' : ∀ j, bs0[i + 1 + j]? = r[j]? := fun j => by
   have := hj (j + 1);rw [show i + 1 + j = i + (j + 1) by omega, this]
   rfl
  obtain ⟨T', e, on', hat'⟩ := Es (S := S) (many := many) (bs0 := bs0) hk r (i + 1) T1 c _ hj' (fun b hb => ho b (aQ _ hb)) (by omega) on1 hc hat1 (by simp [rH, gA]; omega)
  refine ⟨T', e, on', ?_⟩
  rw [hat', show gQ (i : Int) (b :: r) = (hE 0 b).map (fun x => ((i : Int), x.1, x.2)) ++ gQ ((i + 1 : Nat) : Int) r from rfl]
  simp [rH]
theorem DV {S : aL} {many : Int} {bs : List (List Stt)} {k : Nat} (ls : LS S) (hk : k <= 9) (ho : ∀ b ∈ bs, OkL many b k /\ bQ b <= 12) (h3 : bs.length <= 3) : kF [.dat (.lst (bls bs))] S = .ok (.dat (.lst (rH (gQ 0 bs)))) S := by
 rw [BR];unfold kT;obtain ⟨T, e, on, hat⟩ := Es (S := S) (many := many) (bs0 := bs) hk bs 0 (S ++ [.lst []]) S.length [] (by simp) ho h3 ((On.refl ls).app) (bH _) (by simp) (by simp; omega)
 rw [tM, gM] at hat;rw [gM] at e;simp! [qP, iK (show -(2 ^ 62) <= (bs.length : Int) by omega) (show (bs.length : Int) < 2 ^ 62 by omega), dX, e, DJ hat]
 exact (on.kill (bH _)).trunc ls
theorem GdL.okTop {many : Int} : ∀ {l : List Stt} {n : Nat}, GdL many l n -> (∀ s ∈ l, s.size <= 9) -> l.length <= 10 -> OkL many l n
 | [], n, _, _, _ => trivial
 | s :: r, n, h, h9, hl => by
  simp only [aY] at hl;exact ⟨⟨Stt.Gd.ok h.1 (by have := h9 s (aW ..); omega), by omega⟩, GdL.okTop h.2 (fun s hs => h9 s (aQ _ hs)) (by omega)⟩
structure Good2 (bs : List (List Stt)) : Prop where
 l1 : 1 <= bs.length
 l3 : bs.length <= 3
 gd : ∀ b ∈ bs, GdL (bs.length : Int) b 3 /\ b.length <= 8 /\ bQ b <= 12 /\ ∀ s ∈ b, s.size <= 9
theorem Dt : ∀ {l : List Stt} {s : Stt}, s ∈ l -> s.size <= bQ l
 | x :: r, s, h => by
  rcases cJ.mp h with rfl | h
  ·simp [bQ]
  ·have := Dt h; simp [bQ]; omega
theorem Good.two {bs : List (List Stt)} (h : Good bs) : Good2 bs := ⟨h.l1, h.l3, fun b hb => by
 obtain ⟨h1, h2⟩ := h.gd b hb;have := iA b;exact ⟨h1, by omega, by omega, fun s hs => by have := Dt hs; omega⟩⟩
theorem Good2.ok {bs : List (List Stt)} (h : Good2 bs) : ∀ b ∈ bs, OkL (bs.length : Int) b 3 := fun b hb => by
 obtain ⟨h1, h2, h3, h4⟩ := h.gd b hb;exact h1.okTop h4 (by omega)
def Stt.isCall : Stt -> Bool
 | .call _ _ _ _ => true
 | _ => false
def Cmd.word : Cmd -> Str
 | .go _ => "go"
 | .turn _ => "turn"
 | .mirror => "mirror"
 | .scale _ => "scale"
 | .aim _ _ => "aim"
 | .place _ _ => "place"
 | .mark => "mark"
 | .ret => "return"
 | .exch => "exchange"
def Stt.word : Stt -> Str
 | .cmd c => c.word
 | .fin _ => "end"
 | .keep _ => "keep"
 | .again _ => "again"
 | .either _ _ => "either"
 | .call _ _ _ _ => "call"
 | _ => "bad"
theorem DE {s : Stt} {S : aL} (h : s.isOdd = false) : cM (.dat s.d) (.dat (.int 0)) S = .ok (.dat (.str s.word)) S := by
 cases s with
 | cmd c => cases c <;> rfl
 | odd x => cases h
 | _ => rfl
theorem HX {s : Stt} {S : aL} : eZ (.dat (.str s.word)) (.dat (.str "call")) S = .ok (.dat (.bl s.isCall)) S := by
 cases s with
 | cmd c => cases c <;> rfl
 | _ => rfl
theorem BI : ∀ {bs : List (List Stt)} {p : Int} {n : Nat}, (∀ b ∈ bs, bQ b <= n) -> (gQ p bs).length <= n * bs.length
 | [], p, n, _ => by simp [gQ]
 | b :: r, p, n, h => by
  have := BI (p := p + 1) fun b hb => h b (aQ _ hb)
  have := h b (aW ..);simp only [gQ, pO, bN, gA, aY, Nat.mul_add];omega
mutual
theorem Le {many : Int} : ∀ (s : Stt) (k : Nat), s.Ok many k -> ∀ x ∈ relS s, ∃ j, j <= k /\ x.2.Ok many j
 | .cmd c, k, h, x, hx => by cases hx
 | .fin c, k, h, x, hx => by cases hx
 | .bad, k, h, x, hx => by cases hx
 | .odd _, k, h, x, hx => by cases hx
 | .keep b, k, h, x, hx => by
  obtain ⟨y, hy, rfl⟩ := bD.mp hx;obtain ⟨j, h1, h2⟩ := oJ 0 b (k - 1) h.2 y hy;exact ⟨j, by omega, h2⟩
 | .again b, k, h, x, hx => by
  obtain ⟨y, hy, rfl⟩ := bD.mp hx;obtain ⟨j, h1, h2⟩ := oJ 0 b (k - 1) h.2 y hy;exact ⟨j, by omega, h2⟩
 | .either a b, k, h, x, hx => by
  rcases cF.mp hx with hx | hx
  ·obtain ⟨y, hy, rfl⟩ := bD.mp hx
   obtain ⟨j, h1, h2⟩ := oJ 0 a (k - 1) h.2.1 y hy;exact ⟨j, by omega, h2⟩
  ·obtain ⟨y, hy, rfl⟩ := bD.mp hx
   obtain ⟨j, h1, h2⟩ := oJ 0 b (k - 1) h.2.2 y hy;exact ⟨j, by omega, h2⟩
 | .call g f a b, k, h, x, hx => by
  rcases cF.mp hx with hx | hx
  ·obtain ⟨y, hy, rfl⟩ := bD.mp hx
   obtain ⟨j, h1, h2⟩ := oJ 0 a (k - 1) h.2.1 y hy;exact ⟨j, by omega, h2⟩
  ·obtain ⟨y, hy, rfl⟩ := bD.mp hx
   obtain ⟨j, h1, h2⟩ := oJ 0 b (k - 1) h.2.2 y hy;exact ⟨j, by omega, h2⟩
theorem oJ {many : Int} : ∀ (i : Int) (l : List Stt) (k : Nat), OkL many l k -> ∀ x ∈ hE i l, ∃ j, j <= k /\ x.2.Ok many j
 | i, [], k, h, x, hx => by cases hx
 | i, s :: r, k, h, x, hx => by
  rcases cJ.mp hx with rfl | hx
  ·exact ⟨k, bH _, h.1.1⟩
  ·rcases cF.mp hx with hx | hx
   ·obtain ⟨y, hy, rfl⟩ := bD.mp hx
    exact Le s k h.1.1 y hy
   ·exact oJ (i + 1) r k h.2 x hx
end
def yL : List Int -> List Stt -> Option Stt
 | [], _ => none
 | [i], l => if 0 <= i then l[i.toNat]? else none
 | i :: j :: r, l => if 0 <= i /\ 0 <= j then (match l[i.toNat]? with
  | some s => (match s.blocks[j.toNat]? with
   | some b => yL r b
   | none => none)
  | none => none) else none
theorem J6 {a : Nat} {s : Stt} {r : List Stt} : ∀ {π : List Int}, yL (((a + 1 : Nat) : Int) :: π) (s :: r) = yL ((a : Int) :: π) r
 | [] => by
  have h1 : (0 : Int) <= ((a + 1 : Nat) : Int) := by omega
  have h2 : (0 : Int) <= (a : Int) := by omega
  simp only [yL, h1, h2, if_true, dX, kZ]
 | j :: π => by
  have h1 : (0 : Int) <= ((a + 1 : Nat) : Int) := by omega
  have h2 : (0 : Int) <= (a : Int) := by omega
  simp only [yL, h1, h2, true_and, dX, kZ]
mutual
theorem Ld : ∀ (s : Stt), ∀ x ∈ relS s, ∃ (j : Nat) (b : List Stt) (rest : List Int), x.1 = (j : Int) :: rest /\ s.blocks[j]? = some b /\ yL rest b = some x.2
 | .cmd c, x, hx => by cases hx
 | .fin c, x, hx => by cases hx
 | .bad, x, hx => by cases hx
 | .odd _, x, hx => by cases hx
 | .keep b, x, hx => by
  obtain ⟨y, hy, rfl⟩ := bD.mp hx;obtain ⟨a, p, h1, h2⟩ := oI 0 b y hy;rw [fU] at h1;exact ⟨0, b, y.1, rfl, rfl, by rw [h1]; exact h2⟩
 | .again b, x, hx => by
  obtain ⟨y, hy, rfl⟩ := bD.mp hx;obtain ⟨a, p, h1, h2⟩ := oI 0 b y hy;rw [fU] at h1;exact ⟨0, b, y.1, rfl, rfl, by rw [h1]; exact h2⟩
 | .either c b, x, hx => by
  rcases cF.mp hx with hx | hx
  ·obtain ⟨y, hy, rfl⟩ := bD.mp hx
   obtain ⟨a, p, h1, h2⟩ := oI 0 c y hy;rw [fU] at h1;exact ⟨0, c, y.1, rfl, rfl, by rw [h1]; exact h2⟩
  ·obtain ⟨y, hy, rfl⟩ := bD.mp hx
   obtain ⟨a, p, h1, h2⟩ := oI 0 b y hy;rw [fU] at h1;exact ⟨1, b, y.1, rfl, rfl, by rw [h1]; exact h2⟩
 | .call g f c b, x, hx => by
  rcases cF.mp hx with hx | hx
  ·obtain ⟨y, hy, rfl⟩ := bD.mp hx
   obtain ⟨a, p, h1, h2⟩ := oI 0 c y hy;rw [fU] at h1;exact ⟨0, c, y.1, rfl, rfl, by rw [h1]; exact h2⟩
  ·obtain ⟨y, hy, rfl⟩ := bD.mp hx
   obtain ⟨a, p, h1, h2⟩ := oI 0 b y hy;rw [fU] at h1;exact ⟨1, b, y.1, rfl, rfl, by rw [h1]; exact h2⟩
theorem oI : ∀ (i : Int) (l : List Stt), ∀ x ∈ hE i l, ∃ (a : Nat) (p : List Int), x.1 = (i + (a : Int)) :: p /\ yL ((a : Int) :: p) l = some x.2
 | i, [], x, hx => by cases hx
 | i, s :: r, x, hx => by
  rcases cJ.mp hx with rfl | hx
  ·exact ⟨0, [], by simp, rfl⟩
  ·rcases cF.mp hx with hx | hx
   ·obtain ⟨y, hy, rfl⟩ := bD.mp hx
    obtain ⟨j, b, rest, h1, h2, h3⟩ := Ld s y hy;refine ⟨0, y.1, by simp [pre], ?_⟩
    rw [h1];have e1 : (0 : Int) <= (j : Int) := by omega
    simp only [yL, gM, Iz, e1, and_self, if_true, Int.toNat_zero, List.getElem?_cons_zero, dX, h2]
    exact h3
   ·obtain ⟨a, p, h1, h2⟩ := oI (i + 1) r x hx
    refine ⟨a + 1, p, ?_, ?_⟩
    ·rw [h1]; congr 1; omega
    ·rw [J6]; exact h2
end
theorem GW {l : List Stt} {x : List Int × Stt} (h : x ∈ hE 0 l) : yL x.1 l = some x.2 := by
 obtain ⟨a, p, h1, h2⟩ := oI 0 l x h;rw [h1, fU];exact h2
theorem HM {S : aL} {a0 a1 : Option Vl} {many : Int} : ∀ (m : Nat) (π : List Int) (l : List Stt) (k n : Nat) (x : Vl) (s : Stt), π.length <= m -> OkL many l k -> n % 2 = 0 -> yL π l = some s ->
  ∃ (b : Vl), loop (.tp [4, 5]) eS (dA n (π.map D.int)) [a0, a1, some x, some (.dat (.lst (bP l))), none, none] S = .next [a0, a1, some (.dat s.d), some b, none, none] S /\ ∃ j, j <= k /\ s.Ok many j
 | m, [], l, k, n, x, s, _, _, _, h => by cases h
 | m, [i], l, k, n, x, s, hm, ho, hn, h => by
  simp only [yL] at h;split at h
  ·rename_i hi
   have hlt : i.toNat < l.length := (aI.mp h).1;have hs := ho.mem s (bU h);have hix : atI (bP l) i = some s.d := by
    rw [cQ (n := i.toNat) (by omega), kO, bZ, h]
    rfl
   rw [aU, dA, loop];simp only [mR, oK, aY, cY, if_true, bM, bJ];rw [eS];simp! [eB, decide_eq_true hi, cK, decide_eq_true (show i < (l.length : Int) by omega), gW (show (0 : Int) < 2 by decide), decide_eq_true (show ((n : Nat) : Int) % 2 = 0 by omega), kL hix, lP hs.no, bW, dA, loop]
   exact ⟨_, rfl, k, bH _, hs⟩
  ·cases h
 | 0, i :: j :: r, l, k, n, x, s, hm, _, _, _ => by simp at hm
 | m + 1, i :: j :: r, l, k, n, x, s, hm, ho, hn, h => by
  simp only [yL] at h;split at h
  ·rename_i hij
   cases q : l[i.toNat]? with
   | none => rw [q] at h; cases h
   | some t =>
    rw [q] at h;dsimp only at h;cases q2 : t.blocks[j.toNat]? with
    | none => rw [q2] at h; cases h
    | some b =>
     rw [q2] at h;dsimp only at h;have hlt : i.toNat < l.length := (aI.mp q).1;have hlt2 : j.toNat < t.blocks.length := (aI.mp q2).1;have ht := ho.mem t (bU q);obtain ⟨hk, hb⟩ := jO ht b (bU q2);have hix : atI (bP l) i = some t.d := by
      rw [cQ (n := i.toNat) (by omega), kO, bZ, q]
      rfl
     have hix2 : atI (bls t.blocks) j = some (.lst (bP b)) := by
      rw [cQ (n := j.toNat) (by omega)]
      simp [bls, q2]
     simp only [aY] at hm;obtain ⟨c, e, j', h1, h2⟩ := HM (S := S) (a0 := a0) (a1 := a1) m r b (k - 1) (n + 1 + 1) (.dat t.d) s (by omega) hb (by omega) h
     refine ⟨c, ?_, j', by omega, h2⟩
     rw [aU, aU, dA, loop];simp only [mR, oK, aY, cY, if_true, bM, bJ];rw [eS];simp! [eB, decide_eq_true hij.1, cK, decide_eq_true (show i < (l.length : Int) by omega), gW (show (0 : Int) < 2 by decide), decide_eq_true (show ((n : Nat) : Int) % 2 = 0 by omega), kL hix, lP ht.no]
     rw [dA, loop];simp only [mR, oK, aY, cY, if_true, bM, bJ];simp! [eB, decide_eq_true hij.2, qP, decide_eq_true (show j < (t.blocks.length : Int) by omega), gW (show (0 : Int) < 2 by decide), decide_eq_false (show ¬ ((n + 1 : Nat) : Int) % 2 = 0 by omega), kL hix2]
     rw [<- eS];exact e
  ·cases h
theorem Cg : ∀ {π : List Int} {l : List Stt} {s : Stt}, yL π l = some s -> π.length % 2 = 1
 | [], l, s, h => by cases h
 | [i], l, s, h => rfl
 | i :: j :: r, l, s, h => by
  simp only [yL] at h;split at h
  ·cases q : l[i.toNat]? with
   | none => rw [q] at h; cases h
   | some t =>
    rw [q] at h;dsimp only at h;cases q2 : t.blocks[j.toNat]? with
    | none => rw [q2] at h; cases h
    | some b =>
     rw [q2] at h;have := Cg (π := r) h;simp;omega
  ·cases h
theorem Ce {S : aL} {many : Int} {π : List Int} {l : List Stt} {k : Nat} {s : Stt} (ho : OkL many l k) (h : yL π l = some s) : kD [.dat (.lst (bP l)), .dat (tupI π)] S = .ok (.dat s.d) S /\ ∃ j, j <= k /\ s.Ok many j := by
 obtain ⟨b, e, h2⟩ := HM (S := S) (a0 := some (.dat (.lst (bP l)))) (a1 := some (.dat (tupI π))) π.length π l k 0 (.dat .non) s (bH _) ho rfl h;refine ⟨?_, h2⟩
 have hodd := Cg h;rw [BP];unfold kP;simp! [bN, gW (show (0 : Int) < 2 by decide), decide_eq_false (show ¬ ((π.length : Nat) : Int) % 2 = 0 by omega), e]
 rfl
theorem Jy {S : aL} {bs : List (List Stt)} {p : Int} (hl : bs.length <= 10) : jA [.dat (dD bs), .dat (.int p)] S = .ok (.dat (.bl (decide (0 <= p) && decide (p < (bs.length : Int))))) S := by
 rw [A0];unfold jC;simp! [eB, Fj hl]
 by_cases h : 0 <= p
 ·simp! [decide_eq_true h, Fj hl]; rfl
 ·simp! [decide_eq_false h]; rfl
theorem Stt.d_tup {s : Stt} (h : s.isOdd = false) : ∃ xs, s.d = .tup xs := by
 cases s with
 | cmd c => cases c <;> exact ⟨_, rfl⟩
 | odd x => cases h
 | _ => exact ⟨_, rfl⟩
mutual
theorem Hr {many : Int} : ∀ (s : Stt) (k : Nat), s.Ok many k -> ∀ x ∈ relS s, x.1.length <= 2 * k
 | .cmd c, k, h, x, hx => by cases hx
 | .fin c, k, h, x, hx => by cases hx
 | .bad, k, h, x, hx => by cases hx
 | .odd _, k, h, x, hx => by cases hx
 | .keep b, k, h, x, hx => by
  obtain ⟨y, hy, rfl⟩ := bD.mp hx;have := gT 0 b (k - 1) h.2 y hy;have := h.1;simp [pre];omega
 | .again b, k, h, x, hx => by
  obtain ⟨y, hy, rfl⟩ := bD.mp hx;have := gT 0 b (k - 1) h.2 y hy;have := h.1;simp [pre];omega
 | .either a b, k, h, x, hx => by
  have := h.1;rcases cF.mp hx with hx | hx
  ·obtain ⟨y, hy, rfl⟩ := bD.mp hx
   have := gT 0 a (k - 1) h.2.1 y hy;simp [pre];omega
  ·obtain ⟨y, hy, rfl⟩ := bD.mp hx
   have := gT 0 b (k - 1) h.2.2 y hy;simp [pre];omega
 | .call g f a b, k, h, x, hx => by
  have := h.1.1;rcases cF.mp hx with hx | hx
  ·obtain ⟨y, hy, rfl⟩ := bD.mp hx
   have := gT 0 a (k - 1) h.2.1 y hy;simp [pre];omega
  ·obtain ⟨y, hy, rfl⟩ := bD.mp hx
   have := gT 0 b (k - 1) h.2.2 y hy;simp [pre];omega
theorem gT {many : Int} : ∀ (i : Int) (l : List Stt) (k : Nat), OkL many l k -> ∀ x ∈ hE i l, x.1.length <= 2 * k + 1
 | i, [], k, h, x, hx => by cases hx
 | i, s :: r, k, h, x, hx => by
  rcases cJ.mp hx with rfl | hx
  ·simp
  ·rcases cF.mp hx with hx | hx
   ·obtain ⟨y, hy, rfl⟩ := bD.mp hx
    have := Hr s k h.1.1 y hy;simp [pre];omega
   ·exact gT (i + 1) r k h.2 x hx
end
theorem sU : ∀ {bs : List (List Stt)} {p : Nat} {x : Int × List Int × Stt}, x ∈ gQ (p : Int) bs -> ∃ (j : Nat) (b : List Stt), x.1 = ((p + j : Nat) : Int) /\ bs[j]? = some b /\ (x.2.1, x.2.2) ∈ hE 0 b
 | [], p, x, h => by cases h
 | b :: r, p, x, h => by
  rcases cF.mp h with h | h
  ·obtain ⟨y, hy, rfl⟩ := bD.mp h
   exact ⟨0, b, by simp, rfl, hy⟩
  ·obtain ⟨j, b', h1, h2, h3⟩ := sU (p := p + 1) (bs := r) h
   exact ⟨j + 1, b', by rw [h1]; congr 1; omega, h2, h3⟩
end PH
namespace PH
open PySem PySem.Spec PyProof.Rows L2
def AB (S : aL) : Prop := ∀ c ∈ S, c.below S.length = true
theorem uV {m n : Nat} (h : m <= n) : ∀ {v : Vl}, v.below m = true -> v.below n = true
 | .dat _, _ => rfl
 | .cel k, q => by
  simp only [Vl.below, decide_eq_true_eq] at q ⊢;omega
 | .cels ks, q => by
  simp only [Vl.below, bA, decide_eq_true_eq] at q ⊢;intro k hk;have := q k hk;omega
 | .scr _, _ => rfl
 | .tc xs, q => by
  simp only [Vl.below, bA] at q ⊢;exact fun x hx => EL h x (q x hx)
theorem CQ {m n : Nat} (h : m <= n) {c : Cell} (q : c.below m = true) : c.below n = true := by
 cases c with
 | dead => rfl
 | lst ds => rfl
 | ins C fs => simp only [Cell.below, bA] at q ⊢; exact fun x hx => uV h (q x hx)
 | dct fs => simp only [Cell.below, bA] at q ⊢; exact fun x hx => uV h (q x hx)
 | lv xs => simp only [Cell.below, bA] at q ⊢; exact fun x hx => uV h (q x hx)
 | dki ks xs => simp only [Cell.below, bA] at q ⊢; exact fun x hx => uV h (q x hx)
 | dkt ks xs => simp only [Cell.below, bA] at q ⊢; exact fun x hx => uV h (q x hx)
theorem AB.app {S : aL} {c : Cell} (h : AB S) (hc : c.below S.length = true) : AB (S ++ [c]) := fun d hd => by
 rcases cF.mp hd with hd | hd
 ·exact CQ (by simp) (h d hd)
 ·rw [dH.mp hd]
  exact CQ (by simp) hc
theorem AB.all {S : aL} (h : AB S) : (S.all fun c => c.below S.length) = true := bA.mpr h
def Grow (S T : aL) : Prop := AB T /\ ∃ J, T = S ++ J
theorem Grow.refl {S : aL} (h : AB S) : Grow S S := ⟨h, [], by simp⟩
theorem Grow.trans {S T U : aL} (h : Grow S T) (k : Grow T U) : Grow S U := by
 obtain ⟨_, J, rfl⟩ := h;obtain ⟨a, J2, rfl⟩ := k;exact ⟨a, J ++ J2, by simp⟩
theorem Grow.app {S T : aL} {c : Cell} (h : Grow S T) (hc : c.below T.length = true) : Grow S (T ++ [c]) := by
 obtain ⟨a, J, rfl⟩ := h;exact ⟨a.app hc, J ++ [c], by simp⟩
theorem Grow.get {S T : aL} (h : Grow S T) {n : Nat} {c : Cell} (hn : S[n]? = some c) : T[n]? = some c := by
 obtain ⟨_, J, rfl⟩ := h;rw [aK (aI.mp hn).1, hn]
def All2 {α β : Type} (R : α -> β -> Prop) (xs : List α) (ys : List β) : Prop := ∃ ps : List (α × β), xs = ps.map Prod.fst /\ ys = ps.map Prod.snd /\ ∀ p ∈ ps, R p.1 p.2
theorem All2.imp {α β : Type} {R R' : α -> β -> Prop} {xs : List α} {ys : List β} (h : All2 R xs ys) (f : ∀ a b, R a b -> R' a b) : All2 R' xs ys := by
 obtain ⟨ps, h1, h2, h3⟩ := h;exact ⟨ps, h1, h2, fun p hp => f _ _ (h3 p hp)⟩
theorem All2.len {α β : Type} {R : α -> β -> Prop} {xs : List α} {ys : List β} (h : All2 R xs ys) : xs.length = ys.length := by
 obtain ⟨ps, rfl, rfl, h3⟩ := h;simp
theorem All2.nil {α β : Type} {R : α -> β -> Prop} : All2 R [] [] := ⟨[], rfl, rfl, fun _ h => by cases h⟩
theorem All2.cons {α β : Type} {R : α -> β -> Prop} {x : α} {y : β} {xs : List α} {ys : List β} (h : R x y) (k : All2 R xs ys) : All2 R (x :: xs) (y :: ys) := by
 obtain ⟨ps, rfl, rfl, h3⟩ := k;exact ⟨(x, y) :: ps, rfl, rfl, fun p hp => by
  rcases cJ.mp hp with rfl | hp
  ·exact h
  ·exact h3 p hp⟩
theorem All2.mem {α β : Type} {R : α -> β -> Prop} {xs : List α} {ys : List β} (h : All2 R xs ys) {x : α} (hx : x ∈ xs) : ∃ y ∈ ys, R x y := by
 obtain ⟨ps, rfl, rfl, h3⟩ := h;obtain ⟨p, hp, rfl⟩ := bD.mp hx;exact ⟨p.2, bD.mpr ⟨p, hp, rfl⟩, h3 p hp⟩
def Dm : Stt -> Nat -> List Nat -> Vl
 | .keep _, _, [n] => .tc [.inl (.str "keep"), .inr n]
 | .again _, _, [n] => .tc [.inl (.str "again"), .inr n]
 | .either _ _, _, [n, m] => .tc [.inl (.str "either"), .inr n, .inr m]
 | .call g s _ _, k, _ => .tc [.inl (.str "call"), .inl (.int g), .inl (.bl s), .inr k]
 | s, _, _ => .dat s.d
def TrD (S : aL) : Nat -> Nat -> List Stt -> Prop
 | 0, _, _ => False
 | d + 1, n, l => ∃ xs, S[n]? = some (.lv xs) /\ All2 (fun v s => s.isOdd = false /\ ∃ k ns, v = Dm s k ns /\ (s.isCall = true -> S[k]? = some (.lv (ns.map .cel))) /\ All2 (TrD S d) ns s.blocks) xs l
theorem TrD.grow {S T : aL} (g : Grow S T) : ∀ {d n : Nat} {l : List Stt}, TrD S d n l -> TrD T d n l
 | 0, _, _, h => h.elim
 | d + 1, n, l, ⟨xs, h1, h2⟩ => ⟨xs, g.get h1, h2.imp fun v s ⟨ho, k, ns, e, h3, h4⟩ => ⟨ho, k, ns, e, fun h => g.get (h3 h), h4.imp fun _ _ h => TrD.grow g h⟩⟩
def TrV (S : aL) (d : Nat) (v : Vl) (s : Stt) : Prop := s.isOdd = false /\ ∃ k ns, v = Dm s k ns /\ (s.isCall = true -> S[k]? = some (.lv (ns.map .cel))) /\ All2 (TrD S d) ns s.blocks
theorem TrV.grow {S T : aL} (g : Grow S T) {d : Nat} {v : Vl} {s : Stt} (h : TrV S d v s) : TrV T d v s := by
 obtain ⟨ho, k, ns, e, h3, h4⟩ := h;exact ⟨ho, k, ns, e, fun h => g.get (h3 h), h4.imp fun _ _ h => TrD.grow g h⟩
theorem TrD.lt {S : aL} {d n : Nat} {l : List Stt} (h : TrD S d n l) : n < S.length := by
 cases d with
 | zero => exact h.elim
 | succ d => obtain ⟨xs, h1, _⟩ := h; exact (aI.mp h1).1
theorem HZ {α β : Type} {R : α -> β -> Prop} {xs : List α} {a b : β} (h : All2 R xs [a, b]) : ∃ x y, xs = [x, y] /\ R x a /\ R y b := by
 obtain ⟨ps, rfl, e, h3⟩ := h
 match ps, e with
 | [p, q], e => cases e; exact ⟨p.1, q.1, rfl, h3 p (by simp), h3 q (by simp)⟩
 | [], e => cases e
 | [_], e => cases e
 | _ :: _ :: _ :: _, e => simp at e
theorem Bx {α β : Type} {R : α -> β -> Prop} {xs : List α} {a : β} (h : All2 R xs [a]) : ∃ x, xs = [x] /\ R x a := by
 obtain ⟨ps, rfl, e, h3⟩ := h
 match ps, e with
 | [p], e => cases e; exact ⟨p.1, rfl, h3 p (by simp)⟩
 | [], e => cases e
 | _ :: _ :: _, e => simp at e
theorem TrV.bel {S : aL} {d : Nat} {v : Vl} {s : Stt} (h : TrV S d v s) : v.below S.length = true := by
 obtain ⟨ho, k, ns, rfl, h3, h4⟩ := h;cases s with
 | keep b => obtain ⟨n, rfl, h5⟩ := Bx h4; have := h5.lt; simp [Dm, Vl.below, F3, this]
 | again b => obtain ⟨n, rfl, h5⟩ := Bx h4; have := h5.lt; simp [Dm, Vl.below, F3, this]
 | either a b => obtain ⟨n, m, rfl, h5, h6⟩ := HZ h4; have := h5.lt; have := h6.lt; simp [Dm, Vl.below, F3, *]
 | call g s a b => have := (aI.mp (h3 rfl)).1; simp [Dm, Vl.below, F3, this]
 | cmd c => rfl
 | fin w => rfl
 | bad => rfl
 | odd x => cases ho
theorem Ar {α : Type} {P : aL -> Vl -> α -> Prop} (mono : ∀ S T v x, Grow S T -> P S v x -> P T v x) {f : α -> PH.D} {t : Tg} {me : FE} {ρ : Ev} : ∀ {xs : List α} {S : aL}, (∀ x ∈ xs, ∀ S, AB S -> ∃ ρ1 v T, mR t (.dat (f x)) ρ = some ρ1 /\ me ρ1 S = .ok v T /\ Grow S T /\ P T v x) -> AB S -> ∃ vs T, vV t hW me ρ (xs.map f) S = .ok vs T /\ Grow S T /\ All2 (P T) vs xs
 | [], S, _, a => ⟨[], S, rfl, Grow.refl a, All2.nil⟩
 | x :: xs, S, h, a => by
  obtain ⟨ρ1, v, T, h1, h2, g1, p1⟩ := h x (aW ..) S a;obtain ⟨vs, U, h3, g2, p2⟩ := Ar mono (xs := xs) (S := T) (fun y hy => h y (aQ _ hy)) g1.1
  refine ⟨v :: vs, U, ?_, g1.trans g2, All2.cons (mono _ _ _ _ g2 p1) p2⟩
  rw [aU, vV, h1];dsimp only [hW];rw [if_pos rfl, h2];dsimp only;rw [h3]
theorem C5 {α : Type} {P : aL -> Vl -> α -> Prop} (mono : ∀ S T v x, Grow S T -> P S v x -> P T v x) (bel : ∀ S v x, P S v x -> v.below S.length = true) {f : α -> PH.D} {t : Tg} {me : FE} {ρ : Ev} {vs : List Nat} {xs : List α} {S : aL} (hl : xs.length <= 1000) (h : ∀ x ∈ xs, ∀ S, AB S -> ∃ ρ1 v T, mR t (.dat (f x)) (wipeE ρ vs) = some ρ1 /\ me ρ1 S = .ok v T /\ Grow S T /\ P T v x) (a : AB S) : ∃ n ys T, I9 t hW me vs ρ (xs.map f) S = .ok (.cel n) T /\ Grow S T /\ T[n]? = some (.lv ys) /\ All2 (P T) ys xs := by
 obtain ⟨ys, T, h1, g, p⟩ := Ar mono h a;have b : (Cell.lv ys).below T.length = true := by
  simp only [Cell.below, bA];intro y hy;obtain ⟨x, hx, q⟩ := p.mem hy;exact bel _ _ _ q
 refine ⟨T.length, ys, T ++ [.lv ys], ?_, g.app b, by simp, p.imp fun v x q => mono _ _ _ _ ((Grow.refl g.1).app b) q⟩
 unfold I9;rw [bN, if_pos (sz hl), h1];rfl
theorem Nw {s : Stt} {S : aL} {k : Nat} {ns : List Nat} (ho : s.isOdd = false) (hk : S[k]? = some (.lv (ns.map .cel))) (hl : ns.length = s.blocks.length) : iZ [.dat s.d, .cel k] S = .ok (Dm s k ns) S := by
 rw [zZ];unfold jB;have tc : ∀ {xs : List Vl} {js : List TIt} {T : aL}, GD toJ xs = some js -> js.length <= 10 -> kTC xs T = .ok (.tc js) T := fun {xs js T} h hl => by
  unfold kTC;rw [h];dsimp only;rw [if_pos (sz (by omega))]
 cases s with
 | cmd c => cases c <;> (simp! [Stt.d, Cmd.d, cZ]; rfl)
 | fin w => simp! [Stt.d, cZ]; rfl
 | keep b =>
  match ns, hl with
  | [n], _ =>
   have i0 := Gx (k := 0) hk (d := .cel n) rfl;simp! [Stt.d, cZ, DH, i0, tc (xs := [.dat (.str "keep"), .cel n]) rfl (by simp)]
   rfl
 | again b =>
  match ns, hl with
  | [n], _ =>
   have i0 := Gx (k := 0) hk (d := .cel n) rfl;simp! [Stt.d, cZ, DH, i0, tc (xs := [.dat (.str "again"), .cel n]) rfl (by simp)]
   rfl
 | either a b =>
  match ns, hl with
  | [n, m], _ =>
   have i0 := Gx (k := 0) hk (d := .cel n) rfl;have i1 := Gx (k := 1) hk (d := .cel m) rfl;simp! [Stt.d, cZ, DH, i0, i1, tc (xs := [.dat (.str "either"), .cel n, .cel m]) rfl (by simp)]
   rfl
 | call g s a b =>
  simp! [Stt.d, cZ, mG, As, DH, tc (xs := [.dat (.str "call"), .dat (.int g), .dat (.bl s), .cel k]) rfl (by simp)]
  rfl
 | bad => simp! [Stt.d, cZ]; rfl
 | odd x => cases ho
theorem Ih {S : aL} {d : Nat} {vs : List Vl} {bs : List (List Stt)} (h : All2 (fun v b => ∃ n, v = .cel n /\ TrD S d n b) vs bs) : ∃ ns, vs = ns.map Vl.cel /\ All2 (TrD S d) ns bs := by
 obtain ⟨ps, rfl, rfl, h3⟩ := h
 induction ps with
 | nil => exact ⟨[], rfl, All2.nil⟩
 | cons p ps ih =>
  obtain ⟨ns, e, h⟩ := ih fun q hq => h3 q (aQ _ hq)
  obtain ⟨n, e2, h2⟩ := h3 p (aW ..);exact ⟨n :: ns, by rw [aU, aU, e, e2], All2.cons h2 h⟩
abbrev CelP (d : Nat) : aL -> Vl -> List Stt -> Prop := fun S v b => ∃ n, v = .cel n /\ TrD S d n b
theorem CelP.mono {d : Nat} : ∀ S T v b, Grow S T -> CelP d S v b -> CelP d T v b := fun S T v b g ⟨n, e, h⟩ => ⟨n, e, h.grow g⟩
theorem CelP.bel {d : Nat} : ∀ S v b, CelP d S v b -> v.below S.length = true := fun S v b ⟨n, e, h⟩ => by
 have := h.lt;simp [e, Vl.below, this]
theorem tr_of {S T : aL} {d k : Nat} {s : Stt} {ys : List Vl} (ho : s.isOdd = false) (h : T[k]? = some (.lv ys)) (p : All2 (CelP d T) ys s.blocks) : ∃ ns, T[k]? = some (.lv (ns.map .cel)) /\ ns.length = s.blocks.length /\ TrV T d (Dm s k ns) s := by
 obtain ⟨ns, rfl, q⟩ := Ih p;exact ⟨ns, h, q.len, ho, k, ns, rfl, fun _ => h, q⟩
def CopyW (n : Nat) : Prop := (∀ {S : aL} {many : Int} {s : Stt} {k : Nat}, s.Ok many k -> 2 * k + 1 <= n -> AB S -> ∃ v T, cR n [.dat s.d] S = .ok v T /\ Grow S T /\ TrV T k v s) /\ ∀ {S : aL} {many : Int} {l : List Stt} {k : Nat}, OkL many l k -> 2 * k + 2 <= n -> AB S -> ∃ c T, gC n [.dat (.lst (bP l))] S = .ok (.cel c) T /\ Grow S T /\ TrD T (k + 1) c l
theorem Pn (n : Nat) : CopyW n := by
 induction n with
 | zero => exact ⟨fun _ h => by omega, fun _ h => by omega⟩
 | succ n ih =>
  refine ⟨fun {S many s k} h hn a => ?_, fun {S many l k} h hn a => ?_⟩
  ·rw [show cR (n + 1) [.dat s.d] S = cC (fH (gC n) [some (.dat s.d), none] S) from rfl]
   unfold fH;simp! [Nj, lP h.no];obtain ⟨c, ys, T, e, g, ht, p⟩ := C5 (P := CelP k) (t := .nm 1) (me := aR (gC n) (aB (aD 1) aJ)) (ρ := [some (.dat s.d), none]) (vs := [1]) (S := S) (f := fun b => .lst (bP b)) CelP.mono CelP.bel (xs := s.blocks) (by have := nX (s := s); omega) (fun b hb S a => by
    obtain ⟨h1, h2⟩ := jO h b hb;obtain ⟨c, T, e, g, q⟩ := ih.2 (S := S) h2 (by omega) a
    refine ⟨[some (.dat s.d), some (.dat (.lst (bP b)))], .cel c, T, rfl, ?_, g, c, rfl, ?_⟩
    ·simp! [e]
    ·rw [show k = k - 1 + 1 by omega]; exact q) a
   rw [show bls s.blocks = s.blocks.map (fun b => .lst (bP b)) from rfl, e]
   obtain ⟨ns, h1, h2, h3⟩ := tr_of (S := S) h.no ht p;simp! [Nw h.no h1 h2];exact ⟨_, T, rfl, g, h3⟩
  ·rw [show gC (n + 1) [.dat (.lst (bP l))] S = cC (iN (cR n) [some (.dat (.lst (bP l))), none] S) from rfl]
   unfold iN;simp! [Nj, kO];obtain ⟨c, ys, T, e, g, ht, p⟩ := C5 (P := fun S v s => TrV S k v s) (t := .nm 1) (me := aR (cR n) (aB (aD 1) aJ)) (ρ := [some (.dat (.lst (l.map Stt.d))), none]) (vs := [1]) (S := S) (f := Stt.d) (fun _ _ _ _ g h => TrV.grow g h) (fun _ _ _ h => h.bel) (xs := l) (by have := h.len; omega) (fun s hs S a => by
    obtain ⟨v, T, e, g, q⟩ := ih.1 (S := S) (h.mem s hs) (by omega) a
    refine ⟨[some (.dat (.lst (l.map Stt.d))), some (.dat s.d)], v, T, rfl, ?_, g, q⟩
    simp! [e]) a
   rw [e];exact ⟨c, T, rfl, g, ys, ht, p⟩
theorem Au {xs : List TIt} {k : Int} {j : TIt} {S : aL} (h : atI xs k = some j) : Bh (.tc xs) (.dat (.int k)) S = .ok (OB j) S := by
 unfold Bh Mu;dsimp only;rw [h]
theorem Jv {s : Stt} {k : Nat} {ns : List Nat} {S : aL} (ho : s.isOdd = false) (hl : ns.length = s.blocks.length) : Bh (Dm s k ns) (.dat (.int 0)) S = .ok (.dat (.str s.word)) S := by
 cases s with
 | keep b => match ns, hl with | [n], _ => exact Au (j := .inl (.str "keep")) Ic
 | again b => match ns, hl with | [n], _ => exact Au (j := .inl (.str "again")) Ic
 | either a b => match ns, hl with | [n, m], _ => exact Au (j := .inl (.str "either")) Ic
 | call g s a b => exact Au (j := .inl (.str "call")) Ic
 | cmd c => exact DE (s := .cmd c) rfl
 | fin w => exact DE (s := .fin w) rfl
 | bad => exact DE (s := .bad) rfl
 | odd x => cases ho
theorem Gu {S : aL} {ρ : Ev} {a : Option Vl} : ∀ {ns : List Nat}, (∀ n ∈ ns, ∃ xs, S[n]? = some (.lv xs)) -> rA (.nm 1) (dE (m1 (fIsi "list") (aD 1))) (aD 1) [a, none] (ns.map .inr) S = .ok (ns.map .cel) S
 | [], _ => rfl
 | n :: r, h => by
  obtain ⟨xs, hx⟩ := h n (aW ..);have ih := Gu (ρ := ρ) (a := a) (ns := r) fun m hm => h m (aQ _ hm)
  rw [aU, rA];have e : dE (m1 (fIsi "list") (aD 1)) [a, some (.cel n)] S = .ok true S := by simp! [hx]
  simp only [mR, OB, bM, bJ, e, if_true, aD, lk];rw [ih];rfl
theorem Gr {S : aL} {a : Option Vl} : ∀ {ks : List Int}, rA (.nm 1) (dE (m1 (fIsi "list") (aD 1))) (aD 1) [a, none] ((ks.map PH.D.int).map .inl) S = .ok [] S
 | [] => rfl
 | k :: r => by
  have ih := Gr (S := S) (a := a) (ks := r);rw [aU, aU, rA];have e : dE (m1 (fIsi "list") (aD 1)) [a, some (.dat (.int k))] S = .ok false S := by simp! [if_true]
  simp only [mR, OB, bM, bJ, e];exact ih
theorem Lg {s : Stt} (ho : s.isOdd = false) (hb : s.blocks = []) : ∃ (w : Str) (ks : List Int), s.d = .tup (.str w :: ks.map .int) := by
 cases s with
 | cmd c => cases c <;> first | exact ⟨_, [], rfl⟩ | exact ⟨_, [_], rfl⟩ | exact ⟨_, [_, _], rfl⟩
 | fin w => exact ⟨_, [w], rfl⟩
 | bad => exact ⟨_, [], rfl⟩
 | odd x => cases ho
 | keep b => cases hb
 | again b => cases hb
 | either a b => cases hb
 | call g s a b => cases hb
theorem cutJ1 {x : TIt} {r : List TIt} (h : r.length <= 10) : G4 (x :: r) (some 1) none = r := by
 unfold G4;have e1 : HT.sIx (x :: r).length 0 (some 1) = 1 := by
  simp only [HT.sIx, aY]
  split <;> first | omega | (split <;> omega)
 have e2 : HT.sIx (x :: r).length (x :: r).length none = (x :: r).length := rfl;rw [e1, e2];simp
theorem GE {s : Stt} {k : Nat} {ns : List Nat} {S : aL} {d : Nat} (h : TrV S d (Dm s k ns) s) (hk : s.isCall = true -> S[k]? = some (.lv (ns.map .cel))) (hn : All2 (TrD S d) ns s.blocks) (ho : s.isOdd = false) : mY [Dm s k ns] S = .ok (.cel S.length) (S ++ [.lv (ns.map .cel)]) := by
 have hl := hn.len;have iw := Jv (S := S) (k := k) ho hl;have hc : ∀ n ∈ ns, ∃ xs, S[n]? = some (.lv xs) := fun n hm => by
  obtain ⟨b, _, q⟩ := hn.mem hm;cases d with
  | zero => exact q.elim
  | succ d => obtain ⟨xs, h1, _⟩ := q; exact ⟨xs, h1⟩
 rw [DX];unfold nF;have sp : ∀ {x : TIt} {r : List TIt}, r.length <= 10 -> zV (.tc (x :: r)) (some 1) none S = .ok (.tc r) S := fun {x r} h => by
  unfold zV;dsimp only;rw [cutJ1 h]
 have kj : ∀ {ms : List Nat} {a : Option Vl}, ms.length <= 10 -> (∀ n ∈ ms, ∃ xs, S[n]? = some (.lv xs)) -> EJ true (.nm 1) (dE (m1 (fIsi "list") (aD 1))) (aD 1) [1] [a, none] (.tc (ms.map .inr)) S = .ok (.cel S.length) (S ++ [.lv (ms.map .cel)]) := fun {ms a} h h2 => by
  unfold EJ;dsimp only [F7];rw [if_pos (by rw [bN]; omega), show wipeE [a, none] [1] = [a, none] from rfl, Gu (ρ := []) h2]
  rfl
 have wd : ∀ {w : Str}, s.word = w -> Bh (Dm s k ns) (.dat (.int 0)) S = .ok (.dat (.str w)) S := fun e => e ▸ iw
 by_cases hb : s.blocks = []
 ·have h0 : ns = [] := by rw [hb] at hl; exact List.length_eq_zero_iff.mp hl
  subst h0;obtain ⟨w, ks, e⟩ := Lg ho hb;have et : Dm s k [] = .dat s.d := by cases s <;> first | rfl | (cases hb) | (cases ho)
  have hcl : s.isCall = false := by cases s <;> first | rfl | (cases hb)
  have ec : eZ (.dat (.str s.word)) (.dat (.str "call")) S = .ok (.dat (.bl false)) S := by rw [HX, hcl]
  have sl : zV (.dat s.d) (some 1) none S = .ok (.dat (.tup (ks.map .int))) S := by
   rw [e];unfold zV;dsimp only;rw [rK]
  have kl : EJ true (.nm 1) (dE (m1 (fIsi "list") (aD 1))) (aD 1) [1] [some (.dat s.d), none] (.dat (.tup (ks.map .int))) S = .ok (.cel S.length) (S ++ [.lv []]) := by
   unfold EJ;dsimp only [F7];have hks : ks.length <= 1000 := by
    cases s with
    | cmd c => cases c <;> (simp only [Stt.d, Cmd.d, PH.D.tup.injEq, List.cons.injEq] at e; have := congrArg nG e.2; simp at this; omega)
    | fin w => simp only [Stt.d, PH.D.tup.injEq, List.cons.injEq] at e; have := congrArg nG e.2; simp at this; omega
    | bad => simp only [Stt.d, PH.D.tup.injEq, List.cons.injEq] at e; have := congrArg nG e.2; simp at this; omega
    | odd x => cases ho
    | keep b => cases hb
    | again b => cases hb
    | either a b => cases hb
    | call g s a b => cases hb
   rw [if_pos (by rw [bN, bN]; exact hks), show wipeE [some (Vl.dat s.d), none] [1] = [some (.dat s.d), none] from rfl, Gr]
   rfl
  rw [et] at iw ⊢;simp! [iw, ec, Gv, DI, A7, A6, A8, sl, kl];rfl
 ·cases s with
  | keep b =>
   match ns, hl with
   | [n], _ =>
    have sl : zV (Dm (.keep b) k [n]) (some 1) none S = .ok (.tc ([n].map .inr)) S := sp (by simp)
    simp! [iw, Stt.word, Gv, DI, A7, A6, A8, sl, kj (by simp) hc]
    rfl
  | again b =>
   match ns, hl with
   | [n], _ =>
    have sl : zV (Dm (.again b) k [n]) (some 1) none S = .ok (.tc ([n].map .inr)) S := sp (by simp)
    simp! [iw, Stt.word, Gv, DI, A7, A6, A8, sl, kj (by simp) hc]
    rfl
  | either a b =>
   match ns, hl with
   | [n, m], _ =>
    have sl : zV (Dm (.either a b) k [n, m]) (some 1) none S = .ok (.tc ([n, m].map .inr)) S := sp (by simp)
    simp! [iw, Stt.word, Gv, DI, A7, A6, A8, sl, kj (by simp) hc]
    rfl
  | call g s a b =>
   have i3 : Bh (Dm (.call g s a b) k ns) (.dat (.int 3)) S = .ok (.cel k) S := Au (j := .inr k) atI3;have lv : xY (.cel k) S = .ok (.cel S.length) (S ++ [.lv (ns.map .cel)]) := by
    unfold xY;dsimp only;rw [hk rfl];rfl
   simp! [iw, Stt.word, i3, lv];rfl
  | cmd c => exact absurd rfl hb
  | fin w => exact absurd rfl hb
  | bad => exact absurd rfl hb
  | odd x => cases ho
def cnt : Nat -> Nat
 | 0 => 0
 | d + 1 => 1 + 20 * cnt d
end PH
namespace PH
open PySem PySem.Spec PyProof PyProof.Rows L2
def Itm : PH.D -> Prop
 | .opq _ => False
 | .ins C _ _ => C = Str.ofString "Space"
 | _ => True
def nR : PH.D -> Option Int
 | .int i => some i
 | _ => none
theorem vW {d : PH.D} {S : aL} (h : Itm d) : hM [.dat d] S = .ok (.dat (.bl (nR d).isSome)) S := by
 rw [BQ];unfold kQ;cases d with
 | opq _ => exact h.elim
 | ins C ns ds =>
  subst h;have o : ∀ T, cV "Space" T (.dat (.ins "Space" ns ds)) S = .ok (.dat (.bl false)) S := fun T => by
   unfold cV;dsimp only;rw [if_pos rfl]
  simp! [o];rfl
 | _ => simp! [cV]; rfl
theorem Jj {d : PH.D} {S : aL} (h : Itm d) : iE [.dat d] S = .ok (.dat (.bl (nR d).isSome)) S := by
 rw [yG];unfold iO;cases d with
 | opq _ => exact h.elim
 | ins C ns ds =>
  subst h;have o : ∀ T, cV "Space" T (.dat (.ins "Space" ns ds)) S = .ok (.dat (.bl false)) S := fun T => by
   unfold cV;dsimp only;rw [if_pos rfl]
  simp! [o];rfl
 | _ => simp! [cV]; rfl
theorem iV {d : PH.D} {i : Int} (h : nR d = some i) : d = .int i := by
 cases d <;> simp only [nR] at h <;> cases h;rfl
def fX : List PH.D -> List Stt -> Option Stt
 | [], _ => none
 | [d], l => match nR d with
  | some i => if 0 <= i then l[i.toNat]? else none
  | none => none
 | d :: e :: r, l => match nR d, nR e with
  | some i, some j => if 0 <= i /\ 0 <= j then (match l[i.toNat]? with
   | some s => (match s.blocks[j.toNat]? with
    | some b => fX r b
    | none => none)
   | none => none) else none
  | _, _ => none
theorem AI : ∀ {π : List Int} {l : List Stt}, fX (π.map .int) l = yL π l
 | [], l => rfl
 | [i], l => by simp [fX, yL, nR]
 | i :: j :: r, l => by
  simp only [aU, fX, yL, nR];split
  ·cases l[i.toNat]? with
   | none => rfl
   | some s =>
    dsimp only;cases s.blocks[j.toNat]? with
    | none => rfl
    | some b => exact AI
  ·rfl
theorem uG : ∀ {ds : List PH.D} {l : List Stt} {s : Stt}, fX ds l = some s -> ∃ π : List Int, ds = π.map .int /\ yL π l = some s
 | [], l, s, h => by cases h
 | [d], l, s, h => by
  simp only [fX] at h;split at h
  ·rename_i i q
   rw [iV q];exact ⟨[i], rfl, by simp only [yL]; exact h⟩
  ·cases h
 | d :: e :: r, l, s, h => by
  simp only [fX] at h;split at h
  ·rename_i i j q1 q2
   rw [iV q1, iV q2];split at h
   ·rename_i hij
    cases q3 : l[i.toNat]? with
    | none => rw [q3] at h; cases h
    | some t =>
     rw [q3] at h;dsimp only at h;cases q4 : t.blocks[j.toNat]? with
     | none => rw [q4] at h; cases h
     | some b =>
      rw [q4] at h;dsimp only at h;obtain ⟨π, e1, e2⟩ := uG h;refine ⟨i :: j :: π, by rw [e1]; rfl, ?_⟩
      simp only [yL, if_pos hij, q3, q4];exact e2
   ·cases h
  ·cases h
theorem Ca {S : aL} {a0 a1 : Option Vl} {many : Int} : ∀ (m : Nat) (ds : List PH.D) (l : List Stt) (k n : Nat) (x : Vl), ds.length <= m -> ds.length % 2 = 1 -> (∀ d ∈ ds, Itm d) -> OkL many l k -> n % 2 = 0 ->
  (∀ s, fX ds l = some s -> ∃ b : Vl, loop (.tp [4, 5]) bL (dA n ds) [a0, a1, some x, some (.dat (.lst (bP l))), none, none] S = .next [a0, a1, some (.dat s.d), some b, none, none] S) /\
  (fX ds l = none -> loop (.tp [4, 5]) bL (dA n ds) [a0, a1, some x, some (.dat (.lst (bP l))), none, none] S = .ret (.dat .non) S)
 | m, [], l, k, n, x, _, h1, _, _, _ => by simp at h1
 | m, [d], l, k, n, x, hm, _, hi, ho, hn => by
  have hd := hi d (aW ..);have e0 : dA n [d] = [.tup [.int (n : Int), d]] := rfl;rw [e0, loop];simp only [mR, oK, aY, cY, if_true, bM, bJ];cases q : nR d with
  | none =>
   refine ⟨fun s h => (by simp only [fX, q] at h; cases h), fun _ => ?_⟩
   rw [bL];have e1 := vW (S := S) hd;rw [q] at e1;simp! [e1, bV]
  | some i =>
   have e1 := vW (S := S) hd;rw [q] at e1;have ei := iV q;subst ei
   by_cases hr : 0 <= i /\ i.toNat < l.length
   ·obtain ⟨h0, hlt⟩ := hr
    have hg : l[i.toNat]? = some l[i.toNat] := aZ hlt;have hs := ho.mem _ (dN hlt);have hix : atI (bP l) i = some (l[i.toNat]).d := by
     rw [cQ (n := i.toNat) (by omega), kO, bZ, hg]
     rfl
    have hz : fX [.int i] l = some l[i.toNat] := by simp only [fX, nR, if_pos h0, hg]
    refine ⟨fun s h => ?_, fun h => by rw [hz] at h; cases h⟩
    rw [hz] at h;cases h;rw [bL];simp! [e1, bV, decide_eq_true h0, cK, decide_eq_true (show i < (l.length : Int) by omega), gW (show (0 : Int) < 2 by decide), decide_eq_true (show ((n : Nat) : Int) % 2 = 0 by omega), kL hix, lP hs.no, loop]
    exact ⟨_, rfl⟩
   ·have hz : fX [.int i] l = none := by
     simp only [fX, nR];split
     ·exact dC.mpr (by omega)
     ·rfl
    refine ⟨fun s h => (by rw [hz] at h; cases h), fun _ => ?_⟩
    rw [bL]
    by_cases h0 : 0 <= i
    ·simp! [e1, bV, decide_eq_true h0, cK, decide_eq_false (show ¬ i < (l.length : Int) by omega)]
    ·simp! [e1, bV, decide_eq_false h0]
 | 0, d :: e :: r, l, k, n, x, hm, _, _, _, _ => by simp at hm
 | m + 1, d :: e :: r, l, k, n, x, hm, h1, hi, ho, hn => by
  have hd := hi d (aW ..);have he := hi e (aQ _ (aW ..));have e0 : dA n (d :: e :: r) = .tup [.int (n : Int), d] :: .tup [.int ((n + 1 : Nat) : Int), e] :: dA (n + 1 + 1) r := rfl;have e1 := vW (S := S) hd;have e2 := vW (S := S) he;rw [e0, loop];simp only [mR, oK, aY, cY, if_true, bM, bJ];cases q : nR d with
  | none =>
   refine ⟨fun s h => (by simp only [fX, q] at h; cases h), fun _ => ?_⟩
   rw [bL];rw [q] at e1;simp! [e1, bV]
  | some i =>
   rw [q] at e1;have ei := iV q;subst ei
   by_cases hr : 0 <= i /\ i.toNat < l.length
   case neg =>
    have hz : fX (.int i :: e :: r) l = none := by
     simp only [fX, show nR (.int i) = some i from rfl]
     cases nR e with
     | none => rfl
     | some j =>
      dsimp only;split
      ·rename_i h; rw [dC.mpr (by omega)]
      ·rfl
    refine ⟨fun s h => (by rw [hz] at h; cases h), fun _ => ?_⟩
    rw [bL]
    by_cases h0 : 0 <= i
    ·simp! [e1, bV, decide_eq_true h0, cK, decide_eq_false (show ¬ i < (l.length : Int) by omega)]
    ·simp! [e1, bV, decide_eq_false h0]
   obtain ⟨h0, hlt⟩ := hr;have hg : l[i.toNat]? = some l[i.toNat] := aZ hlt;have ht := ho.mem _ (dN hlt);have hix : atI (bP l) i = some (l[i.toNat]).d := by
    rw [cQ (n := i.toNat) (by omega), kO, bZ, hg]
    rfl
   generalize l[i.toNat] = t at hg ht hix;have first : bL [a0, a1, some x, some (.dat (.lst (bP l))), some (.dat (.int (n : Int))), some (.dat (.int i))] S = .next [a0, a1, some (.dat t.d), some (.dat (.lst (bls t.blocks))), none, none] S := by
    rw [bL];simp! [e1, bV, decide_eq_true h0, cK, decide_eq_true (show i < (l.length : Int) by omega), gW (show (0 : Int) < 2 by decide), decide_eq_true (show ((n : Nat) : Int) % 2 = 0 by omega), kL hix, lP ht.no]
   rw [first];dsimp only;rw [loop];simp only [mR, oK, aY, cY, if_true, bM, bJ];cases q2 : nR e with
   | none =>
    refine ⟨fun s h => (by simp only [fX, show nR (.int i) = some i from rfl, q2] at h; cases h), fun _ => ?_⟩
    rw [bL];rw [q2] at e2;simp! [e2, bV]
   | some j =>
    rw [q2] at e2;have ej := iV q2;subst ej
    by_cases hr : 0 <= j /\ j.toNat < t.blocks.length
    case neg =>
     have hz : fX (.int i :: .int j :: r) l = none := by
      simp only [fX, nR, hg];split
      ·rename_i h; rw [dC.mpr (by omega)]
      ·rfl
     refine ⟨fun s h => (by rw [hz] at h; cases h), fun _ => ?_⟩
     rw [bL]
     by_cases h0 : 0 <= j
     ·simp! [e2, bV, decide_eq_true h0, qP, decide_eq_false (show ¬ j < (t.blocks.length : Int) by omega)]
     ·simp! [e2, bV, decide_eq_false h0]
    obtain ⟨h0', hlt'⟩ := hr;have hg2 : t.blocks[j.toNat]? = some t.blocks[j.toNat] := aZ hlt';obtain ⟨hk, hb⟩ := jO ht _ (dN hlt');generalize t.blocks[j.toNat] = b at hg2 hb;have hix2 : atI (bls t.blocks) j = some (.lst (bP b)) := by
     rw [cQ (n := j.toNat) (by omega)]
     simp [bls, hg2]
    have hz : fX (.int i :: .int j :: r) l = fX r b := by simp only [fX, nR, hg, hg2, if_pos (show 0 <= i /\ 0 <= j from ⟨h0, h0'⟩)]
    have second : bL [a0, a1, some (.dat t.d), some (.dat (.lst (bls t.blocks))), some (.dat (.int ((n + 1 : Nat) : Int))), some (.dat (.int j))] S = .next [a0, a1, some (.dat t.d), some (.dat (.lst (bP b))), none, none] S := by
     rw [bL];simp! [e2, bV, decide_eq_true h0', qP, decide_eq_true (show j < (t.blocks.length : Int) by omega), gW (show (0 : Int) < 2 by decide), decide_eq_false (show ¬ ((n + 1 : Nat) : Int) % 2 = 0 by omega), kL hix2]
    rw [second, hz];exact Ca (S := S) (a0 := a0) (a1 := a1) m r b (k - 1) (n + 1 + 1) (.dat t.d) (by simp at hm; omega) (by simp at h1; omega) (fun d hd => hi d (aQ _ (aQ _ hd))) hb (by omega)
theorem Hf {ds : List PH.D} {l : List Stt} (h : ds.length % 2 = 0) : fX ds l = none := by
 cases q : fX ds l with
 | none => rfl
 | some s =>
  obtain ⟨π, rfl, h2⟩ := uG q;have := Cg h2;rw [bN] at h;omega
def JX : Option Stt -> PH.D
 | some s => s.d
 | none => .non
inductive PathD : PH.D -> List PH.D -> Bool -> Prop
 | tup {ds : List PH.D} (h : ∀ d ∈ ds, Itm d) (hl : ds.length <= 100) : PathD (.tup ds) ds true
 | lst {ds : List PH.D} : PathD (.lst ds) ds false
def mE (b : Bool) (ds : List PH.D) (l : List Stt) : Option Stt := if b then fX ds l else none
theorem rS {S : aL} {many : Int} {p : PH.D} {ds : List PH.D} {t : Bool} {l : List Stt} {k : Nat} (hp : PathD p ds t) (ho : OkL many l k) : gB [.dat (.lst (bP l)), .dat p] S = .ok (.dat (JX (mE t ds l))) S := by
 rw [yF];unfold iL;cases hp with
 | lst => simp! [cV]; rfl
 | tup hi hl =>
  have e0 : dY (.dat (.tup ds)) S = .ok (.dat (.int (ds.length : Int))) S := rfl
  by_cases hodd : ds.length % 2 = 0
  ·simp! [cV, e0, gW (show (0 : Int) < 2 by decide), decide_eq_true (show ((ds.length : Nat) : Int) % 2 = 0 by omega)]
   rw [show mE true ds l = none from Hf hodd]
   rfl
  ·obtain ⟨h1, h2⟩ := Ca (S := S) (a0 := some (.dat (.lst (bP l)))) (a1 := some (.dat (.tup ds))) ds.length ds l k 0 (.dat .non) (bH _) (by omega) hi ho rfl
   cases q : fX ds l with
   | none =>
    simp! [cV, e0, gW (show (0 : Int) < 2 by decide), decide_eq_false (show ¬ ((ds.length : Nat) : Int) % 2 = 0 by omega), h2 q]
    rw [show mE true ds l = none from q]
    rfl
   | some s =>
    obtain ⟨b, e⟩ := h1 s q;simp! [cV, e0, gW (show (0 : Int) < 2 by decide), decide_eq_false (show ¬ ((ds.length : Nat) : Int) % 2 = 0 by omega), e]
    rw [show mE true ds l = some s from q]
    rfl
theorem Ew : ∀ bs : List Bool, wZ (bs.map PH.D.bl) = some bs
 | [] => rfl
 | b :: r => by rw [aU, wZ, Ew r]
theorem Mw (bs : List Bool) {S : aL} : wC (.dat (.lst (bs.map PH.D.bl))) S = .ok (.dat (.bl (bs.all id))) S := by
 simp only [wC, lA, Ew]
theorem Pf {x y : PH.D} {p q : PyData} {S : aL} (hx : x.Pl) (hy : y.Pl) (hd : x.ht <= 64) (hd2 : y.ht <= 64) (e1 : x.py = some p) (e2 : y.py = some q) (h1 : ∀ i, x ≠ .int i) (h2 : ∀ i, x ≠ .str i) : eZ (.dat x) (.dat y) S = .ok (.dat (.bl (PyData.eqv p q))) S := by
 have sh : shp p q = true := by unfold shp; rw [Bw hx hd e1, Bw hy hd2 e2]; rfl
 cases x with
 | int i => exact absurd rfl (h1 i)
 | str i => exact absurd rfl (h2 i)
 | non => simp only [eZ, Bb, e1, e2, sh, if_true]
 | bl b => simp only [eZ, Bb, e1, e2, sh, if_true]
 | lst xs => simp only [eZ, Bb, e1, e2, sh, if_true]
 | tup xs => simp only [eZ, Bb, e1, e2, sh, if_true]
 | ins _ _ _ => exact hx.elim
 | dct => exact hx.elim
 | opq _ => exact hx.elim
theorem fns {i : Str} {S : aL} (h : (PH.D.str i).Pl) : eZ (.dat .non) (.dat (.str i)) S = .ok (.dat (.bl false)) S := by
 rw [Pf (x := .non) (y := .str i) trivial h (by decide) (by simp [PH.D.ht]) rfl rfl (by simp) (by simp)]
 rfl
mutual
def repS (x : D) (k : Nat) : Stt -> Stt
 | .keep b => .keep (repL x k b)
 | .again b => .again (repL x k b)
 | .either a b => if k < bQ a then .either (repL x k a) b else .either a (repL x (k - bQ a) b)
 | .call g f a b => if k < bQ a then .call g f (repL x k a) b else .call g f a (repL x (k - bQ a) b)
 | s => s
def repL (x : D) (k : Nat) : List Stt -> List Stt
 | [] => []
 | s :: r => if k = 0 then .odd x :: r else if k < s.size then repS x (k - 1) s :: r else s :: repL x (k - s.size) r
end
inductive Deed where
 | cmd (c : Cmd) | op | cl
abbrev Nu := Int × Bool × List Stt × List Stt
inductive Task where
 | lst (l : List Stt) (i : Nat) | close | again (b : List Stt) | call (p : Nat) (st : Option Nu)
structure Mc where
 bs : List (List Stt)
 bits : List Int
 taken : Nat
 deeds : List Deed
 stk : List Task
 act : List (List Nat)
 ended : Int
inductive SR where
 | ok (m : Mc) | err (i : Int) (m : Mc) | no
structure Pen where
 x : Int
 y : Int
 u : Int
 v : Int
 p : Int
 q : Int
def Pen.ns (z : Pen) : List Int := [z.x, z.y, z.u, z.v, z.p, z.q]
def dot (f : Nat -> Int) : Nat -> Int
 | 0 => 0
 | n + 1 => dot f n + f n
def gt (M : List Int) (i : Nat) : Int := M.getD i 0
def imgAt (M : List Int) (z : Pen) (i : Nat) : Int := dot (fun j => gt M (7 * i + j) * gt ((1 : Int) :: z.ns) j) 7
def delta (i j : Nat) : Int := if i = j then 1 else 0
@[irreducible] def mx (f : Nat -> Nat -> Int) : List Int := (mQ 49).map fun t => f (t / 7) (t % 7)
@[irreducible] def unitM : List Int := mx delta
def NC : Pen := ⟨0, 0, 0, 0, 0, 0⟩
def unitP (j : Nat) : Pen := ⟨delta 0 j, delta 1 j, delta 2 j, delta 3 j, delta 4 j, delta 5 j⟩
def vc (z : Pen) (i : Nat) : Int := gt ((1 : Int) :: z.ns) i
def OA (r : Pen -> Pen) (i j : Nat) : Int := if j = 0 then vc (r NC) i else vc (r (unitP (j - 1))) i - vc (r NC) i
@[irreducible] def probeM (r : Pen -> Pen) : List Int := mx (OA r)
def Nt (r : Pen -> Pen) (M : List Int) : Prop := M.length = 49 /\ ∀ z i, i < 7 -> vc (r z) i = imgAt M z i
structure Ps where
 pens : List Pen
 z : Pen
 stk : List Pen
def t4 (z : Pen) : D := .tup [.int z.x, .int z.y, .int z.u, .int z.v]
structure Ms where
 m : List Int
 stk : List (List Int)
inductive Chain : List (List Int) -> (Pen -> List Pen) -> Prop
 | nil : Chain [] (fun _ => [])
 | cons {P : List Int} {k : List (List Int)} {ts : Pen -> List Pen} {f : Pen -> Pen} : Nt f P -> Chain k ts -> Chain (P :: k) (fun z => f ((ts z).headD z) :: ts z)
def Inv (s : Ms) (p : Pen -> Ps) : Prop := ∃ (ts : Pen -> List Pen) (f : Pen -> Pen), Chain s.stk ts /\ Nt f s.m /\ ∀ z, (p z).stk = ts z /\ (p z).z = f ((ts z).headD z)
inductive LT where
 | st (s : Stt) | shut | out (c : Nu) (w : Int)
def BW (l : List Stt) : List LT := l.map LT.st
structure Lm where
 bits : List Int
 extra : Nat
 taken : Nat
 way : Int
 deeds : List Deed
 opens : List (Nat × Nat)
 todo : List LT
section
variable {S0 : aL} {bs : List (List Stt)} {m : Lm}
abbrev lv (S0 : aL) : Vl := .cel (S0.length + 3)
end
inductive LF where
 | fin (m : Lm) | long (m : Lm) | never (m : Lm) | short (m : Lm) | no (m : Lm)
def Ends : LF -> SR -> Prop
 | .fin m', r => ∃ c', r = .ok c' /\ c'.taken = m'.taken /\ c'.deeds = m'.deeds /\ c'.ended = m'.way
 | .long _, _ => True
 | .never _, r => ∃ c', r = .err (-2) c'
 | .short m', r => ∃ c', r = .err (m'.bits.length : Int) c'
 | .no _, _ => False
theorem Pp {bs : List (List Stt)} (G : Good2 bs) : (D.lst (bls bs)).Pl /\ (D.lst (bls bs)).ht < 20 := by
 obtain ⟨bp1, bp2⟩ := CW G.ok;have := G.l3;exact ⟨⟨by rw [qP]; omega, bp1⟩, by simp only [D.ht]; omega⟩
theorem Aa : ∀ {l : List Stt} {at_ : Int} {a : Nat} {s : Stt}, l[a]? = some s -> ([at_ + a], s) ∈ hE at_ l /\ ∀ x ∈ relS s, ((at_ + a) :: x.1, x.2) ∈ hE at_ l
 | [], at_, a, s, h => by cases h
 | t :: r, at_, 0, s, h => by
  cases h;rw [hE];refine ⟨by simp, fun x hx => aQ _ (uU _ (bD.mpr ⟨x, hx, ?_⟩))⟩
  simp [pre]
 | t :: r, at_, a + 1, s, h => by
  have h : r[a]? = some s := by simpa using h
  obtain ⟨h1, h2⟩ := Aa (at_ := at_ + 1) h;have e : at_ + 1 + (a : Int) = at_ + ((a + 1 : Nat) : Int) := by omega
  rw [e] at h1 h2;rw [hE];exact ⟨aQ _ (mK _ h1), fun x hx => aQ _ (mK _ (h2 x hx))⟩
theorem Bu : ∀ {bs : List (List Stt)} {i : Int} {j : Nat} {b : List Stt}, bs[j]? = some b -> ∀ x ∈ hE 0 b, ((i + j) :: x.1, x.2) ∈ mU i bs
 | [], i, j, b, h => by cases h
 | t :: r, i, 0, b, h => fun x hx => by
  cases h;rw [mU];exact uU _ (bD.mpr ⟨x, hx, by simp [pre]⟩)
 | t :: r, i, j + 1, b, h => fun x hx => by
  have h : r[j]? = some b := by simpa using h
  have h1 := Bu (i := i + 1) h x hx;have e : i + 1 + (j : Int) = i + ((j + 1 : Nat) : Int) := by omega
  rw [e] at h1;rw [mU];exact mK _ h1
theorem Cf : ∀ {π : List Int} {l : List Stt} {s : Stt}, yL π l = some s -> (π, s) ∈ hE 0 l
 | [], l, s, h => by cases h
 | [i], l, s, h => by
  simp only [yL] at h;split at h
  ·rename_i hi
   have := (Aa (at_ := 0) h).1
   rwa [fU, xD hi] at this
  ·cases h
 | i :: j :: r, l, s, h => by
  simp only [yL] at h;split at h
  ·rename_i hij
   cases q : l[i.toNat]? with
   | none => rw [q] at h; cases h
   | some t =>
    rw [q] at h;dsimp only at h;cases q2 : t.blocks[j.toNat]? with
    | none => rw [q2] at h; cases h
    | some b =>
     rw [q2] at h;dsimp only at h;have ih := Cf h;have h1 := Bu (i := 0) q2 _ ih;rw [fU, xD hij.2, <- GV] at h1;have h2 := (Aa (at_ := 0) q).2 _ h1
     rwa [fU, xD hij.1] at h2
  ·cases h
theorem HQ : ∀ {bs : List (List Stt)} {p : Nat} {j : Nat} {b : List Stt}, bs[j]? = some b -> ∀ x ∈ hE 0 b, (((p + j : Nat) : Int), x.1, x.2) ∈ gQ (p : Int) bs
 | [], p, j, b, h => by cases h
 | t :: r, p, 0, b, h => fun x hx => by
  cases h;rw [gQ];exact uU _ (bD.mpr ⟨x, hx, rfl⟩)
 | t :: r, p, j + 1, b, h => fun x hx => by
  have h : r[j]? = some b := by simpa using h
  have h1 := HQ (p := p + 1) h x hx;rw [show p + 1 + j = p + (j + 1) by omega, show ((p + 1 : Nat) : Int) = (p : Int) + 1 by omega] at h1
  rw [gQ];exact mK _ h1
theorem Ge : ∀ {ds : List PH.D} {π : List Int}, ds.map nR = π.map some -> ds = π.map .int
 | [], [], _ => rfl
 | [], _ :: _, h => by cases h
 | _ :: _, [], h => by cases h
 | d :: ds, i :: π, h => by
  rw [aU, aU] at h
  injection h with h1 h2
  rw [iV h1, Ge h2];rfl
theorem same_int {n : Nat} {i : Int} {d : PH.D} {S : aL} (h : Itm d) : fK (n + 1) [.dat (.int i), .dat d] S = .ok (.dat (.bl (decide (nR d = some i)))) S := by
 rw [show fK (n + 1) [.dat (.int i), .dat d] S = cC (lQ (fK n) [some (.dat (.int i)), some (.dat d), none] S) from rfl]
 unfold lQ;cases d with
 | opq _ => exact h.elim
 | ins C ns ds =>
  subst h;have o : ∀ T, cV "Space" T (.dat (.ins "Space" ns ds)) S = .ok (.dat (.bl false)) S := fun T => by
   unfold cV;dsimp only;rw [if_pos rfl]
  have o2 : ∀ T U, gY "Space" T U (.dat (.ins "Space" ns ds)) S = .ok (.dat (.bl false)) S := fun T U => by
   unfold gY;dsimp only;rw [if_pos rfl]
  simp! [o, o2, cV, gY];rw [decide_eq_false (by intro h; cases h)]
  rfl
 | int j =>
  simp! [cV, gY];rw [show decide (i = j) = decide (nR (PH.D.int j) = some i) from decide_eq_decide.mpr ⟨fun h => by rw [h]; rfl, fun h => by cases h; rfl⟩]
  rfl
 | non => simp! [cV, gY]; rw [decide_eq_false (by intro h; cases h)]; rfl
 | bl b => simp! [cV, gY]; rw [decide_eq_false (by intro h; cases h)]; rfl
 | str x => simp! [cV, gY]; rw [decide_eq_false (by intro h; cases h)]; rfl
 | lst x => simp! [cV, gY]; rw [decide_eq_false (by intro h; cases h)]; rfl
 | tup x => simp! [cV, gY]; rw [decide_eq_false (by intro h; cases h)]; rfl
 | dct => simp! [cV, gY]; rw [decide_eq_false (by intro h; cases h)]; rfl
theorem HN : ∀ {π : List Int} {ds : List PH.D}, π.length = ds.length -> ((mQ π.length).map fun i => (match π[i]?, ds[i]? with | some x, some y => decide (nR y = some x) | _, _ => false)).all id = decide (ds.map nR = π.map some)
 | [], [], _ => rfl
 | [], y :: ys, h => by simp at h
 | x :: xs, [], h => by simp at h
 | x :: xs, y :: ys, h => by
  have ih := HN (π := xs) (ds := ys) (by simpa using h)
  rw [aY, sV, aU, jR, iX];have e : decide ((y :: ys).map nR = (x :: xs).map some) = (decide (nR y = some x) && decide (ys.map nR = xs.map some)) := by
   rw [aU, aU, <- Bool.decide_and];exact decide_eq_decide.mpr ⟨fun h => by injection h with h1 h2; exact ⟨h1, h2⟩, fun ⟨h1, h2⟩ => by rw [h1, h2]⟩
  rw [e, <- ih];rfl
theorem Ho {π : List Int} {p : PH.D} {ds : List PH.D} {t : Bool} {S : aL} (hp : PathD p ds t) (hl : π.length <= 100) : fK 20 [.dat (tupI π), .dat p] S = .ok (.dat (.bl (t && decide (ds.map nR = π.map some)))) S := by
 rw [show fK 20 [.dat (tupI π), .dat p] S = cC (lQ (fK 19) [some (.dat (tupI π)), some (.dat p), none] S) from rfl]
 unfold lQ;cases hp with
 | lst => simp! [cV, gY]; rfl
 | tup hi hl2 =>
  by_cases hlen : π.length = ds.length
  ·simp! [cV, gY, bN, decide_eq_true (show (π.length : Int) = (ds.length : Int) by omega), iK (show -(2 ^ 62) <= (π.length : Int) by omega) (show (π.length : Int) < 2 ^ 62 by omega), gH, dX]
   rw [lT (g := fun i => PH.D.bl (match π[i]?, ds[i]? with | some x, some y => decide (nR y = some x) | _, _ => false)) (sz (by simp; omega)) fun i hi' => ⟨_, rfl, ?_⟩]
   ·have e : (mQ π.length).map (fun i => PH.D.bl (match π[i]?, ds[i]? with | some x, some y => decide (nR y = some x) | _, _ => false)) = ((mQ π.length).map fun i => (match π[i]?, ds[i]? with | some x, some y => decide (nR y = some x) | _, _ => false)).map PH.D.bl := by rw [iX]; rfl
    rw [e];simp! [newL, Mw, HN hlen];rfl
   ·have hi2 : i < π.length := Da.mp hi'
    have h1 : π[i]? = some π[i] := aZ hi2;have h2 : ds[i]? = some (ds[i]'(by omega)) := aZ (by omega)
    have k1 : cM (.dat (tupI π)) (.dat (.int (0 + (i : Int)))) S = .ok (.dat (.int π[i])) S := yY (by rw [cQ (n := i) (by omega), bZ, h1]; rfl)
    have k2 : cM (.dat (.tup ds)) (.dat (.int (0 + (i : Int)))) S = .ok (.dat (ds[i]'(by omega))) S := yY (by rw [cQ (n := i) (by omega), h2])
    have k3 := same_int (n := 18) (i := π[i]) (S := S) (hi _ (dN (show i < ds.length by omega)))
    rw [h1, h2]
    show nC (fK 19) [some (.dat (tupI π)), some (.dat (.tup ds)), some (.dat (.int (0 + (i : Int))))] S = _
    unfold nC;simp! [k1, k2, k3]
  ·simp! [cV, gY, bN, decide_eq_false (show ¬ (π.length : Int) = (ds.length : Int) by omega)]
   rw [decide_eq_false (fun h => hlen (by have := congrArg nG h; simpa using this.symm))]
   rfl
inductive An9 where
 | np | npath | told (s : Stt)
def An9.d : An9 -> PH.D
 | .np => .tup [.str "NoProcedure", .non]
 | .npath => .tup [.str "NoPath", .non]
 | .told s => .tup [.str "told", s.d]
def An9.is : An9 -> Bool
 | .told _ => true
 | _ => false
def tR (bs : List (List Stt)) (q : PH.D) (t : Bool) (ds : List PH.D) : An9 := match nR q with
 | some i => if 0 <= i then (match bs[i.toNat]? with
  | some b => (match mE t ds b with
   | some s => .told s
   | none => .npath)
  | none => .np) else .np
 | none => .np
theorem Nd {S : aL} {bs : List (List Stt)} {q : PH.D} (hl : bs.length <= 10) (hq : Itm q) : dQ [.dat (dD bs), .dat q] S = .ok (.dat (.bl (match nR q with | some i => decide (0 <= i) && decide (i < (bs.length : Int)) | none => false))) S := by
 rw [xB];unfold gZ;have e := vW (S := S) hq;cases qq : nR q with
 | none =>
  rw [qq] at e;simp! [e, bV];rfl
 | some i =>
  rw [qq] at e;have := iV qq;subst this
  by_cases h : 0 <= i
  ·simp! [e, bV, decide_eq_true h, Fj hl]; rfl
  ·simp! [e, bV, decide_eq_false h]; rfl
theorem A5 {S : aL} {bs : List (List Stt)} {i : Int} (hl : bs.length <= 10) (h0 : 0 <= i) (h1 : i.toNat < bs.length) : dQ [.dat (dD bs), .dat (.int i)] S = .ok (.dat (.bl true)) S := by
 rw [Nd (q := .int i) hl trivial];simp only [nR, decide_eq_true h0, decide_eq_true (show i < (bs.length : Int) by omega)]
 rfl
theorem DG {S : aL} {bs : List (List Stt)} {q : PH.D} {t : Bool} {ds : List PH.D} (hl : bs.length <= 10) (hq : Itm q) (h : ∀ i, nR q = some i -> 0 <= i -> ¬ i.toNat < bs.length) : dQ [.dat (dD bs), .dat q] S = .ok (.dat (.bl false)) S /\ tR bs q t ds = .np := by
 rw [Nd hl hq];unfold tR;cases qq : nR q with
 | none => exact ⟨rfl, rfl⟩
 | some i =>
  dsimp only
  by_cases h0 : 0 <= i
  ·have := h i qq h0
   rw [if_pos h0, dC.mpr (by omega), decide_eq_true h0, decide_eq_false (by omega)]
   exact ⟨rfl, rfl⟩
  ·rw [if_neg h0, decide_eq_false h0]
   exact ⟨rfl, rfl⟩
theorem FM {bs : List (List Stt)} (q : PH.D) : (∃ i b, q = .int i /\ 0 <= i /\ i.toNat < bs.length /\ bs[i.toNat]? = some b) \/ ∀ i, nR q = some i -> 0 <= i -> ¬ i.toNat < bs.length := by
 cases qq : nR q with
 | none => exact .inr fun i h => by cases h
 | some i =>
  by_cases h : 0 <= i /\ i.toNat < bs.length
  ·exact .inl ⟨i, bs[i.toNat]'h.2, iV qq, h.1, h.2, aZ h.2⟩
  ·refine .inr fun j e h0 h1 => ?_
   cases e;exact h ⟨h0, h1⟩
theorem Ac {S : aL} {s : Stt} (ho : s.isOdd = false) : isNon (.dat s.d) = false := by
 obtain ⟨xs, hx⟩ := Stt.d_tup ho;rw [hx];rfl
theorem uY {many : Int} {t : Bool} {ds : List PH.D} {b : List Stt} {k : Nat} {s : Stt} (ho : OkL many b k) (h : mE t ds b = some s) : t = true /\ ∃ π : List Int, ds = π.map .int /\ yL π b = some s /\ ∃ j, j <= k /\ s.Ok many j := by
 unfold mE at h;split at h
 ·rename_i ht
  obtain ⟨π, e, h2⟩ := uG h;obtain ⟨j, hj, hs⟩ := oJ 0 b k ho _ (Cf h2);exact ⟨ht, π, e, h2, j, hj, hs⟩
 ·cases h
theorem get_s {S : aL} {bs : List (List Stt)} {q p : PH.D} {t : Bool} {ds : List PH.D} (hl : bs.length <= 10) (ho : ∀ b ∈ bs, OkL (bs.length : Int) b 3) (hq : Itm q) (hp : PathD p ds t) :
  sN "Book" eA (.dat (dD bs)) (.dat (.tup [q, p])) S = (match tR bs q t ds with
   | .np => .err ⟨"NoProcedure", [], []⟩ S
   | .npath => .err ⟨"NoPath", [], []⟩ S
   | .told s => .ok (.dat s.d) S) := by
 have hf : IB "Book" "own" (.dat (dD bs)) S = .ok (.dat (.lst (bls bs))) S := rfl;rw [Fv (by rfl), yI]
 unfold iQ;rcases FM (bs := bs) q with ⟨i, b, rfl, h0, h1, hb⟩ | h
 ·have hix : atI (bls bs) i = some (.lst (bP b)) := by
   rw [cQ (n := i.toNat) (by omega)]
   simp [bls, hb]
  have hob := ho b (bU hb);have e1 := rS (S := S) hp hob;have ha : tR bs (.int i) t ds = (match mE t ds b with | some s => .told s | none => .npath) := by
   unfold tR;simp only [nR, if_pos h0, hb]
  cases qs : mE t ds b with
  | none =>
   rw [qs] at e1 ha;rw [ha];simp! [A5 hl h0 h1, hf, kL hix, e1, JX];rfl
  | some s =>
   rw [qs] at e1 ha;rw [ha];obtain ⟨_, _, _, _, j, hj, hs⟩ := uY hob qs;simp! [A5 hl h0 h1, hf, kL hix, e1, JX];rw [Ac (S := S) hs.no];simp! [(HF 20).1 hs (show 2 * j + 1 <= 20 by omega)]
   rfl
 ·obtain ⟨e, ha⟩ := DG (S := S) (t := t) (ds := ds) hl hq h
  rw [ha];simp! [e];rfl
theorem G6 {S : aL} {bs : List (List Stt)} {q p : PH.D} {t : Bool} {ds : List PH.D} (hl : bs.length <= 10) (ho : ∀ b ∈ bs, OkL (bs.length : Int) b 3) (hq : Itm q) (hp : PathD p ds t) :
  Bj "Book" cP (.dat (.tup [q, p])) (.dat (dD bs)) S = .ok (.dat (.bl (tR bs q t ds).is)) S := by
 have hf : IB "Book" "own" (.dat (dD bs)) S = .ok (.dat (.lst (bls bs))) S := rfl;rw [KI (by rfl), pF]
 unfold fJ;rcases FM (bs := bs) q with ⟨i, b, rfl, h0, h1, hb⟩ | h
 ·have hix : atI (bls bs) i = some (.lst (bP b)) := by
   rw [cQ (n := i.toNat) (by omega)]
   simp [bls, hb]
  have hob := ho b (bU hb);have e1 := rS (S := S) hp hob;have ha : tR bs (.int i) t ds = (match mE t ds b with | some s => .told s | none => .npath) := by
   unfold tR;simp only [nR, if_pos h0, hb]
  cases qs : mE t ds b with
  | none =>
   rw [qs] at e1 ha;rw [ha];simp! [cV, cZ, mG, A5 hl h0 h1, hf, kL hix, e1, JX];rfl
  | some s =>
   rw [qs] at e1 ha;rw [ha];obtain ⟨_, _, _, _, j, hj, hs⟩ := uY hob qs;simp! [cV, cZ, mG, A5 hl h0 h1, hf, kL hix, e1, JX];rw [Ac (S := S) hs.no];rfl
 ·obtain ⟨e, ha⟩ := DG (S := S) (t := t) (ds := ds) hl hq h
  rw [ha];simp! [cV, cZ, e];rfl
theorem N9 {S : aL} {bs : List (List Stt)} {q p : PH.D} {t : Bool} {ds : List PH.D} (hl : bs.length <= 10) (ho : ∀ b ∈ bs, OkL (bs.length : Int) b 3) (hq : Itm q) (hp : PathD p ds t) :
  oN [.dat (dD bs), .dat q, .dat p] S = .ok (.dat (tR bs q t ds).d) S := by
 rw [F0];unfold pD;have e := get_s (S := S) hl ho hq hp;cases qa : tR bs q t ds with
 | np =>
  rw [qa] at e;have t1 : bK (aV (sN "Book" eA) (aD 0) (cH (aB (aD 1) (aB (aD 2) aJ)))) (.nm 3) [some (.dat (dD bs)), some (.dat q), some (.dat p), none] S = .err ⟨"NoProcedure", [], []⟩ [some (.dat (dD bs)), some (.dat q), some (.dat p), none] S := by
   simp! [e]
  rw [CA];unfold Am;rw [t1];rfl
 | npath =>
  rw [qa] at e;have t1 : bK (aV (sN "Book" eA) (aD 0) (cH (aB (aD 1) (aB (aD 2) aJ)))) (.nm 3) [some (.dat (dD bs)), some (.dat q), some (.dat p), none] S = .err ⟨"NoPath", [], []⟩ [some (.dat (dD bs)), some (.dat q), some (.dat p), none] S := by
   simp! [e]
  rw [CA];unfold Am;rw [t1];rfl
 | told s =>
  rw [qa] at e;have t1 : bK (aV (sN "Book" eA) (aD 0) (cH (aB (aD 1) (aB (aD 2) aJ)))) (.nm 3) [some (.dat (dD bs)), some (.dat q), some (.dat p), none] S = .next [some (.dat (dD bs)), some (.dat q), some (.dat p), some (.dat s.d)] S := by
   simp! [e]
  rw [CA];unfold Am;rw [t1];rfl
def Bg (i : Int) (t : Bool) (ds : List PH.D) (x : Int × List Int × Stt) : Bool := decide (x.1 = i) && (t && decide (ds.map nR = x.2.1.map some))
theorem Ej {S : aL} {i many : Int} {p : PH.D} {t : Bool} {ds : List PH.D} {a0 : Option Vl} (hp : PathD p ds t) : ∀ (xs : List (Int × List Int × Stt)), (∀ x ∈ xs, x.2.1.length <= 100) ->
  loop (.nm 4) mD (rH xs) [a0, some (.dat (.int many)), some (.dat (.int i)), some (.dat p), none] S = (match xs.find? (Bg i t ds) with
   | some x => .ret (.dat (.tup [.str "told", x.2.2.d])) S
   | none => .next [a0, some (.dat (.int many)), some (.dat (.int i)), some (.dat p), none] S)
 | [], _ => rfl
 | x :: r, h => by
  have ih := Ej (S := S) (i := i) (many := many) (a0 := a0) hp r fun y hy => h y (aQ _ hy)
  have e0 : rH (x :: r) = .tup [.int x.1, tupI x.2.1, x.2.2.d] :: rH r := rfl;have sp := Ho (S := S) hp (h x (aW ..));have first : mD [a0, some (.dat (.int many)), some (.dat (.int i)), some (.dat p), some (.dat (.tup [.int x.1, tupI x.2.1, x.2.2.d]))] S = if Bg i t ds x = true then .ret (.dat (.tup [.str "told", x.2.2.d])) S else .next [a0, some (.dat (.int many)), some (.dat (.int i)), some (.dat p), none] S := by
   rw [mD];unfold Bg
   by_cases h1 : x.1 = i
   ·cases h2 : (t && decide (ds.map nR = x.2.1.map some)) with
    | true =>
     rw [h2] at sp;simp! [cZ, mG, As, decide_eq_true h1, sp]
    | false =>
     rw [h2] at sp;simp! [cZ, mG, As, decide_eq_true h1, sp]
   ·simp! [cZ, decide_eq_false h1]
  rw [e0, loop];simp only [mR, bM, bJ];rw [first, List.find?_cons]
  cases hh : Bg i t ds x with
  | true => rfl
  | false => exact ih
theorem due_s {S : aL} {bs : List (List Stt)} {q p : PH.D} {t : Bool} {ds : List PH.D} (h3 : bs.length <= 3) (ho : ∀ b ∈ bs, OkL (bs.length : Int) b 3 /\ bQ b <= 12) (hq : Itm q) (hp : PathD p ds t) :
  tE [.dat (.lst (rH (gQ 0 bs))), .dat (.int (bs.length : Int)), .dat q, .dat p] S = .ok (.dat (tR bs q t ds).d) S := by
 rw [Io];unfold tJ;have e1 := Jj (S := S) hq;have hplen : ∀ x ∈ gQ 0 bs, x.2.1.length <= 100 := fun x hx => by
  obtain ⟨j, b, h1, h2, h3⟩ := sU (p := 0) hx;have := gT 0 b 3 (ho b (bU h2)).1 _ h3;simp at this;omega
 have hln : (rH (gQ 0 bs)).length <= sizeLine := by
  have := BI (p := 0) (bs := bs) (n := 12) fun b hb => (ho b hb).2
  simp only [rH, bN];exact sz (by omega)
 rcases FM (bs := bs) q with ⟨i, b, rfl, h0, h1, hb⟩ | h
 ·have hob := (ho b (bU hb)).1
  have ha : tR bs (.int i) t ds = (match mE t ds b with | some s => .told s | none => .npath) := by
   unfold tR;simp only [nR, if_pos h0, hb]
  have el := Ej (S := S) (i := i) (many := (bs.length : Int)) (a0 := some (.dat (.lst (rH (gQ 0 bs))))) hp (gQ 0 bs) hplen;have hfind : (gQ 0 bs).find? (Bg i t ds) = none /\ mE t ds b = none \/ ∃ x s, (gQ 0 bs).find? (Bg i t ds) = some x /\ mE t ds b = some s /\ x.2.2 = s := by
   have inv : ∀ x ∈ gQ 0 bs, Bg i t ds x = true -> t = true /\ mE t ds b = some x.2.2 := fun x hx hh => by
    unfold Bg at hh;simp only [dM, decide_eq_true_eq] at hh;obtain ⟨hx1, ht, hd⟩ := hh;obtain ⟨j, b', g1, g2, g3⟩ := sU (p := 0) hx;have hj : j = i.toNat := by omega
    subst hj;rw [hb] at g2;cases g2;have hds : ds = x.2.1.map PH.D.int := Ge hd;refine ⟨ht, ?_⟩
    unfold mE;rw [if_pos ht, hds, AI];exact GW g3
   cases hf : (gQ 0 bs).find? (Bg i t ds) with
   | none =>
    left
    refine ⟨rfl, ?_⟩
    cases qs : mE t ds b with
    | none => rfl
    | some s =>
     obtain ⟨ht, π, e, hz, _⟩ := uY hob qs;have hm := HQ (p := 0) hb _ (Cf hz);have := List.find?_eq_none.mp hf _ hm
     exfalso
     apply this
     unfold Bg;simp only [dM, decide_eq_true_eq];refine ⟨by omega, ht, ?_⟩
     rw [e, iX];rfl
   | some x =>
    right
    obtain ⟨ht, hs⟩ := inv x (List.mem_of_find?_eq_some hf) (List.find?_some hf)
    exact ⟨x, x.2.2, rfl, hs, rfl⟩
  have lt : decide (i < 0) = false := decide_eq_false (by omega)
  have ge : decide ((bs.length : Int) <= i) = false := decide_eq_false (by omega)
  rcases hfind with ⟨f1, f2⟩ | ⟨x, s, f1, f2, rfl⟩
  ·rw [f1] at el
   rw [ha, f2];simp! [e1, nR, bV, lt, ge, el];rfl
  ·rw [f1] at el
   rw [ha, f2];simp! [e1, nR, bV, lt, ge, el];rfl
 ·obtain ⟨_, ha⟩ := DG (S := S) (t := t) (ds := ds) (show bs.length <= 10 by omega) hq h
  rw [ha];cases qq : nR q with
  | none =>
   rw [qq] at e1;simp! [e1, bV];rfl
  | some i =>
   rw [qq] at e1;have := iV qq;subst this
   by_cases h0 : i < 0
   ·simp! [e1, bV, decide_eq_true h0]; rfl
   ·have := h i rfl (by omega)
    simp! [e1, bV, decide_eq_false h0, decide_eq_true (show (bs.length : Int) <= i by omega)]
    rfl
section
variable {S : aL} {p : Nat} {ks : List Int}
theorem uN (hP : PoolAt S p ks) : S.set p (PL ks) = S := by
 apply fP
 intro i;rw [bC]
 by_cases h : p = i
 ·subst h
  rw [if_pos rfl, if_pos (aI.mp hP.1).1];exact hP.1.symm
 ·rw [if_neg h]
theorem Aq {α : Type} {e : FE} {t : Tg} {f : α -> PH.D} {Q : α -> Prop} {ρ : Ev} (hmd : ∀ (S : aL) (ks : List Int) (d : PH.D), PoolAt S p ks -> ∃ ρ1, mR t (.dat d) ρ = some ρ1 /\ ∃ (x : α) (ks' : List Int), e ρ1 S = .ok (.dat (f x)) (S.set p (PL ks')) /\ Q x /\ ks'.length = ks.length) : ∀ (ds : List PH.D) (S : aL) (ks : List Int), PoolAt S p ks -> ∃ (xs : List α) (ks' : List Int), lB t hW e ρ ds S = .ok (xs.map f) (S.set p (PL ks')) /\ xs.length = ds.length /\ (∀ x ∈ xs, Q x) /\ ks'.length = ks.length
 | [], S, ks, h => ⟨[], ks, by rw [uN h]; rfl, rfl, (fun x h => by cases h), rfl⟩
 | d :: r, S, ks, h => by
  obtain ⟨ρ1, h1, x, k1, e1, hx, l1⟩ := hmd S ks d h;obtain ⟨xs, k2, e2, z1, z2, z3⟩ := Aq hmd r _ k1 (h.next l1);rw [dG] at e2;refine ⟨x :: xs, k2, ?_, by simp [z1], fun y hy => ?_, by omega⟩
  ·simp only [lB, h1, hW, e1, e2, if_true]
   rfl
  ·rcases cJ.mp hy with rfl | hy
   ·exact hx
   ·exact z2 y hy
theorem I8 {α : Type} {e : FE} {t : Tg} {f : α -> PH.D} {Q : α -> Prop} {ρ : Ev} {vs : List Nat} (hmd : ∀ (S : aL) (ks : List Int) (d : PH.D), PoolAt S p ks -> ∃ ρ1, mR t (.dat d) (wipeE ρ vs) = some ρ1 /\ ∃ (x : α) (ks' : List Int), e ρ1 S = .ok (.dat (f x)) (S.set p (PL ks')) /\ Q x /\ ks'.length = ks.length) (hP : PoolAt S p ks) {n : Nat} (hn : n <= 900) : ∃ (xs : List α) (ks' : List Int), Bf false t hW e ρ vs (gH 0 n) S = .ok (.dat (.lst (xs.map f))) (S.set p (PL ks')) /\ xs.length = n /\ (∀ x ∈ xs, Q x) /\ ks'.length = ks.length := by
 obtain ⟨xs, k1, e1, z1, z2, z3⟩ := Aq hmd (gH 0 n) S ks hP;have rl : (gH 0 n).length = n := by unfold gH; simp
 refine ⟨xs, k1, ?_, by omega, z2, z3⟩
 unfold Bf;rw [if_pos (by rw [rl]; exact sz (by omega)), e1]
 rfl
end
abbrev O1 : PH.D := .ins "Space" ["basis"] [.lst []]
theorem space0 {S : aL} (a : AB S) : C4 false "Space" eF [.dat (.lst [])] S = .ok (.dat O1) S := by
 have e : eF [.cel S.length, .dat (.lst [])] (S ++ [.ins "Space" []]) = .ok (.dat .non) (S ++ [.ins "Space" [("basis", .dat (.lst []))]]) := by
  have hs : (S ++ [Cell.ins "Space" []])[S.length]? = some (.ins "Space" []) := by simp
  rw [show eF [.cel S.length, .dat (.lst [])] (S ++ [.ins "Space" []]) = cC (nE [some (.cel S.length), some (.dat (.lst [])), none, none, none] (S ++ [.ins "Space" []])) from rfl]
  unfold nE;simp! [dA, loop, EU hs (by simp)]
  rw [tU _ _ (bH _), HV];rfl
 unfold C4;rw [e];dsimp only [made];have ta : ((S ++ [Cell.ins "Space" [("basis", Vl.dat (.lst []))]]).take S.length) = S := by simp
 rw [show (S ++ [Cell.ins "Space" [("basis", Vl.dat (.lst []))]])[S.length]? = some (.ins "Space" [("basis", .dat (.lst []))]) by simp]
 dsimp only [BJ];rw [ta, a.all];rfl
theorem AB.setL {S : aL} {p : Nat} {ds : List PH.D} (a : AB S) : AB (S.set p (.lst ds)) := fun c hc => by
 rw [eQ];rcases eC hc with hc | rfl
 ·exact a c hc
 ·rfl
theorem Hc {S : aL} {c : Cell} {d : PH.D} (a : AB S) : PH.trunc S.length (.ok (.dat d) (S ++ [c])) = .ok (.dat d) S := by
 unfold PH.trunc;dsimp only;rw [List.take_left, a.all];rfl
theorem pick {xs : List PH.D} {d : Int} {S : aL} (h0 : 0 <= d) (h1 : d.toNat < xs.length) : ∃ v ∈ xs, cM (.dat (.tup xs)) (.dat (.int d)) S = .ok (.dat v) S :=
 ⟨xs[d.toNat], dN h1, yY (by rw [cQ (n := d.toNat) (by omega), aZ h1])⟩
theorem ON {a b c d e f g h i j : PH.D} {S : aL} : kTup [.dat a, .dat b, .dat c, .dat d, .dat e, .dat f, .dat g, .dat h, .dat i, .dat j] S = .ok (.dat (.tup [a, b, c, d, e, f, g, h, i, j])) S := rfl
theorem kTup9 {a b c d e f g h i : PH.D} {S : aL} : kTup [.dat a, .dat b, .dat c, .dat d, .dat e, .dat f, .dat g, .dat h, .dat i] S = .ok (.dat (.tup [a, b, c, d, e, f, g, h, i])) S := rfl
theorem N1 {xs : List PH.D} {lo hi : Option Int} : ∀ d ∈ cutD xs lo hi, d ∈ xs := fun d hd => List.mem_of_mem_drop (Iu hd)
theorem N2 {xs : List PH.D} {lo hi : Option Int} : (cutD xs lo hi).length <= xs.length := by
 unfold cutD;simp only [rM, BS];omega
theorem nS {π : List Int} : ∀ d ∈ π.map PH.D.int, Itm d := fun d hd => by
 obtain ⟨i, _, rfl⟩ := bD.mp hd
 trivial
def vJ : FS := (aP (bK (m1 (tY true) (aD 5)) (.nm 7))
 (aP (bS (mB (aV eZ (aD 3) (mC (.int 0)))) (bG (cH (aB (aD 4) (aB (EF (aD 7)) aJ)))) bB)
 (aP (bS (mB (aV eZ (aD 3) (mC (.int 1)))) (bG (cH (aB (aD 4) (aB (m1 fTuple (aV (dJ false) (aD 7) (cN false (aB (mC (.int 0)) aJ)))) aJ)))) bB)
 (aP (bS (mB (aV eZ (aD 3) (mC (.int 2)))) (bG (cH (aB (aD 4) (aB (m1 fTuple (Jd false (aD 7) zU (qZ (aV oB (m1 dY (aD 7)) (mC (.int 1)))))) aJ)))) bB)
 (aP (bS (uO (mB (aV BV (aD 3) (mC (.int 5)))) (mB (aV Eg (m1 dY (aD 7)) (mC (.int 0))))) (aP (bK (aR bE (aB (aD 0) (aB (m1 dY (aD 7)) aJ))) (.nm 8))
 (yV (aV cM (cH (aB (aV (dJ false) (aV cM (aD 7) (aD 8)) (mC (.int 1))) (aB (aV oB (aV cM (aD 7) (aD 8)) (mC (.int 1))) (aB (mC (.bl true)) (aB (mC (.bl false)) (aB (mC (.str "0")) (aB (mC (.int 8)) (aB (m1 sM (mC (.int 1))) (aB (cN false (aB (mC (.int 0)) aJ)) (aB (mC .dct) (aB (vT false "Space" eF (aB (cN false aJ) aJ)) aJ))))))))))) (aR bE (aB (aD 0) (aB (mC (.int 10)) aJ)))) (aD 7) (aD 8))) bB)
 (aP (bS (mB (aV eZ (aD 3) (mC (.int 6)))) (bK (aV cM (cH (aB (aD 2) (aB (m1 sM (mC (.int 1))) (aB (mC (.bl true)) (aB (mC (.bl false)) (aB (mC .non) (aB (mC (.str "0")) (aB (cN false (aB (mC (.int 0)) aJ)) (aB (mC .dct) (aB (vT false "Space" eF (aB (cN false aJ) aJ)) aJ)))))))))) (aR bE (aB (aD 0) (aB (mC (.int 9)) aJ)))) (.nm 4)) bB)
 (bG (cH (aB (aD 4) (aB (m1 fTuple (aD 7)) aJ))))))))))
theorem GN {S : aL} {p : Nat} {x y : Cell} (hp : p < S.length) : (S ++ [x]).set p y = S.set p y ++ [x] := List.set_append_left _ _ hp
theorem IU {S : aL} {n : Nat} {xs ys : List PH.D} (h : S[n]? = some (.lst xs)) (hl : xs.length + ys.length <= sizeLine) : dJ false (.cel n) (.dat (.lst ys)) S = .ok (.dat (.lst (xs ++ ys))) S := EZ h hl
theorem GT {S : aL} {p : Nat} {ks : List Int} {d1 many q : Int} {π : List Int} {a1 a6 a9 : Option Vl} (a : AB S) (hP : PoolAt S p ks) (h10 : 0 <= d1) (hl : π.length <= 90) :
  ∃ (q' path : PH.D) (ds : List PH.D) (t : Bool) (k' : List Int) (c : Cell), vJ [some (.cel p), a1, some (.dat (.int many)), some (.dat (.int d1)), some (.dat (.int q)), some (.dat (tupI π)), a6, none, none, a9] S = .ret (.dat (.tup [q', path])) (S.set p (PL k') ++ [c]) /\ Itm q' /\ PathD path ds t /\ k'.length = ks.length := by
 have hp : p < S.length := (aI.mp hP.1).1;have e0 : ∀ X : aL, tY true (.dat (tupI π)) X = .ok (.cel X.length) (X ++ [.lst (π.map .int)]) := fun X => by
  unfold tY;simp [lA, newL]
 have hS : S = S.set p (PL ks) := (uN hP).symm;have e0 := e0 S;generalize hS1 : S ++ [Cell.lst (π.map .int)] = S1 at e0;have h7 : S1[S.length]? = some (.lst (π.map .int)) := by rw [<- hS1]; simp
 have hP1 : PoolAt S1 p ks := by rw [<- hS1]; exact ⟨by rw [aK hp]; exact hP.1, hP.2⟩
 have aS1 : AB S1 := by rw [<- hS1]; exact a.app rfl
 have ln : ∀ X : aL, X[S.length]? = some (.lst (π.map .int)) -> dY (.cel S.length) X = .ok (.dat (.int (π.length : Int))) X := fun X h => by
  have := Fu h;rw [bN] at this;exact this
 have back : ∀ (k : List Int) (c : Cell), (S1.set p (PL k)).set S.length c = S.set p (PL k) ++ [c] := fun k c => by
  rw [<- hS1, GN hp, tU _ _ (by rw [eQ]; omega), eQ, HV]
  rfl
 have backS : ∀ (c : Cell), S1.set S.length c = S.set p (PL ks) ++ [c] := fun c => by
  rw [<- back ks c, uN hP1]
 have self1 : S1 = S.set p (PL ks) ++ [.lst (π.map .int)] := by rw [<- hS1, <- hS]
 have gl : ∀ {x : PH.D} {X : aL}, fTuple (.dat (.lst [x])) X = .ok (.dat (.tup [x])) X := fun {x X} => rfl
 by_cases c0 : d1 = 0
 ·refine ⟨.int q, .lst (π.map .int), π.map .int, false, ks, .dead, ?_, trivial, .lst, rfl⟩
  unfold vJ;simp! [e0, decide_eq_true c0, DJ h7, backS]
 by_cases c1 : d1 = 1
 ·refine ⟨.int q, .tup (π.map .int ++ [.int 0]), π.map .int ++ [.int 0], true, ks, .lst (π.map .int), ?_, trivial, .tup (fun d hd => ?_) (by simp; omega), rfl⟩
  ·unfold vJ
   simp! [e0, decide_eq_false c0, decide_eq_true c1, IU (ys := [.int 0]) h7 (sz (by simp; omega)), pW, <- self1]
  ·rcases cF.mp hd with hd | hd
   ·exact nS d hd
   ·rw [dH.mp hd]; trivial
 by_cases c2 : d1 = 2
 ·refine ⟨.int q, .tup (cutD (π.map .int) none (some ((π.length : Int) - 1))), cutD (π.map .int) none (some ((π.length : Int) - 1)), true, ks, .lst (π.map .int), ?_, trivial, .tup (fun d hd => nS d (N1 d hd)) (by have := N2 (xs := π.map PH.D.int) (lo := none) (hi := some ((π.length : Int) - 1)); simp at this; omega), rfl⟩
  unfold vJ;have sl : L9 false (.cel S.length) none (some ((π.length : Int) - 1)) S1 = .ok (.dat (.lst (cutD (π.map .int) none (some ((π.length : Int) - 1))))) S1 := by
   unfold L9;simp [lA, h7, newL]
  simp! [e0, decide_eq_false c0, decide_eq_false c1, decide_eq_true c2, ln S1 h7, sl, pW, <- self1]
 have m6 : ∀ (xs : List PH.D) (k1 : List Int) (X : aL), X = S.set p (PL k1) ++ [.lst xs] -> k1.length = ks.length -> (∀ d ∈ xs, Itm d) -> xs.length <= 100 -> ∀ ρ8 : Option Vl, ∃ (q' : PH.D) (k2 : List Int), (aP (bS (mB (aV eZ (aD 3) (mC (.int 6)))) (bK (aV cM (cH (aB (aD 2) (aB (m1 sM (mC (.int 1))) (aB (mC (.bl true)) (aB (mC (.bl false)) (aB (mC .non) (aB (mC (.str "0")) (aB (cN false (aB (mC (.int 0)) aJ)) (aB (mC .dct) (aB (vT false "Space" eF (aB (cN false aJ) aJ)) aJ)))))))))) (aR bE (aB (aD 0) (aB (mC (.int 9)) aJ)))) (.nm 4)) bB)
   (bG (cH (aB (aD 4) (aB (m1 fTuple (aD 7)) aJ))))) [some (.cel p), a1, some (.dat (.int many)), some (.dat (.int d1)), some (.dat (.int q)), some (.dat (tupI π)), a6, some (.cel S.length), ρ8, a9] X = .ret (.dat (.tup [q', .tup xs])) (S.set p (PL k2) ++ [.lst xs]) /\ Itm q' /\ k2.length = ks.length := by
  intro xs k1 X hX hk hxs hxl ρ8;have hlen : (S.set p (PL k1)).length = S.length := by simp
  have g7 : ∀ k2, (S.set p (PL k2) ++ [Cell.lst xs])[S.length]? = some (.lst xs) := fun k2 => by
   have : (S.set p (PL k2)).length = S.length := by simp
   rw [<- this];simp
  have tp : ∀ k2, fTuple (.cel S.length) (S.set p (PL k2) ++ [.lst xs]) = .ok (.dat (.tup xs)) (S.set p (PL k2) ++ [.lst xs]) := fun k2 => by
   unfold fTuple;simp only [lA, g7 k2]
  by_cases c6 : d1 = 6
  ·have PX : PoolAt X p k1 := by
    rw [hX];exact ⟨by rw [aK (by rw [eQ]; exact hp), List.getElem?_set_self hp], by have := hP.2; omega⟩
   have aX : AB X := by rw [hX]; exact (a.setL).app rfl
   obtain ⟨d9, k2, e9, h90, h91, l9⟩ := eL PX (k := 9) (by decide) (by decide)
   have eX : X.set p (.lst (k2.map .int)) = S.set p (PL k2) ++ [.lst xs] := by
    rw [hX, GN (by rw [eQ]; exact hp), dG]
   rw [eX] at e9;obtain ⟨v, hv, ev⟩ := pick (xs := [.int many, .int (-1), .bl true, .bl false, .non, .str "0", .lst [.int 0], .dct, O1]) (S := S.set p (PL k2) ++ [.lst xs]) h90 (by simp; omega)
   have iv : Itm v := by
    simp only [cJ, List.not_mem_nil, or_false] at hv;rcases hv with rfl | rfl | rfl | rfl | rfl | rfl | rfl | rfl | rfl <;> first | trivial | rfl
   refine ⟨v, k2, ?_, iv, by omega⟩
   simp! [decide_eq_true c6, space0 aX, kTup9, e9, ev, tp k2]
  ·refine ⟨.int q, k1, ?_, trivial, hk⟩
   subst hX;simp! [decide_eq_false c6, tp k1]
 by_cases c5 : d1 < 5 /\ 0 < π.length
 ·obtain ⟨c5, cl⟩ := c5
  obtain ⟨d8, k1, e8, h80, h81, l8⟩ := eL hP1 (k := (π.length : Int)) (by omega) (by omega)
  have hP2 := hP1.next l8;have ne : p ≠ S.length := by omega
  have h72 : (S1.set p (.lst (k1.map .int)))[S.length]? = some (.lst (π.map .int)) := by rw [iT ne, h7]
  have hix : cM (.cel S.length) (.dat (.int d8)) (S1.set p (.lst (k1.map .int))) = .ok (.dat (.int (π[d8.toNat]'(by omega)))) (S1.set p (.lst (k1.map .int))) := qL (k := d8) (n := d8.toNat) h72 (by omega) (aZ (by omega))
  generalize π[d8.toNat]'(by omega) = u at hix
  have a2 : AB (S1.set p (.lst (k1.map .int))) := aS1.setL;obtain ⟨d9, k2, e9, h90, h91, l9⟩ := eL hP2 (k := 10) (by decide) (by decide)
  simp only [dG] at e9;have h73 : (S1.set p (.lst (k2.map .int)))[S.length]? = some (.lst (π.map .int)) := by rw [iT ne, h7]
  obtain ⟨v, hv, ev⟩ := pick (xs := [.int (u + 1), .int (u - 1), .bl true, .bl false, .str "0", .int 8, .int (-1), .lst [.int 0], .dct, O1]) (S := S1.set p (.lst (k2.map .int))) h90 (by simp; omega)
  have iv : Itm v := by
   simp only [cJ, List.not_mem_nil, or_false] at hv;rcases hv with rfl | rfl | rfl | rfl | rfl | rfl | rfl | rfl | rfl | rfl <;> first | trivial | rfl
  have sc : setC (.cel S.length) d8 v (S1.set p (.lst (k2.map .int))) = some ((S1.set p (.lst (k2.map .int))).set S.length (.lst ((π.map .int).set d8.toNat v))) := by
   unfold setC;dsimp only;rw [h73];dsimp only;rw [if_pos ⟨h80, by rw [bN]; omega⟩]
  have es : yV (aV cM (cH (aB (aV (dJ false) (aV cM (aD 7) (aD 8)) (mC (.int 1))) (aB (aV oB (aV cM (aD 7) (aD 8)) (mC (.int 1))) (aB (mC (.bl true)) (aB (mC (.bl false)) (aB (mC (.str "0")) (aB (mC (.int 8)) (aB (m1 sM (mC (.int 1))) (aB (cN false (aB (mC (.int 0)) aJ)) (aB (mC .dct) (aB (vT false "Space" eF (aB (cN false aJ) aJ)) aJ))))))))))) (aR bE (aB (aD 0) (aB (mC (.int 10)) aJ)))) (aD 7) (aD 8) [some (.cel p), a1, some (.dat (.int many)), some (.dat (.int d1)), some (.dat (.int q)), some (.dat (tupI π)), a6, some (.cel S.length), some (.dat (.int d8)), a9] (S1.set p (.lst (k1.map .int))) = .next [some (.cel p), a1, some (.dat (.int many)), some (.dat (.int d1)), some (.dat (.int q)), some (.dat (tupI π)), a6, some (.cel S.length), some (.dat (.int d8)), a9] ((S1.set p (.lst (k2.map .int))).set S.length (.lst ((π.map .int).set d8.toNat v))) := by
   unfold yV;simp! [hix, space0 a2, ON, e9, ev];rw [sc]
  rw [back k2] at es;obtain ⟨q', k3, e3, iq, l3⟩ := m6 ((π.map .int).set d8.toNat v) k2 _ rfl (by omega) (fun d hd => by
   rcases eC hd with hd | rfl
   ·exact nS d hd
   ·exact iv) (by simp; omega) (some (.dat (.int d8)))
  refine ⟨q', .tup ((π.map .int).set d8.toNat v), (π.map .int).set d8.toNat v, true, k3, .lst ((π.map .int).set d8.toNat v), ?_, iq, .tup (fun d hd => by
   rcases eC hd with hd | rfl
   ·exact nS d hd
   ·exact iv) (by simp; omega), l3⟩
  unfold vJ;simp! [e0, decide_eq_false c0, decide_eq_false c1, decide_eq_false c2, decide_eq_true c5, ln S1 h7, decide_eq_true (show (0 : Int) < (π.length : Int) by omega), e8]
  rw [es];exact e3
 ·obtain ⟨q', k3, e3, iq, l3⟩ := m6 (π.map .int) ks S1 self1 rfl nS (by simp; omega) none
  refine ⟨q', .tup (π.map .int), π.map .int, true, k3, .lst (π.map .int), ?_, iq, .tup nS (by simp; omega), l3⟩
  unfold vJ
  by_cases c5' : d1 < 5
  ·simp! [e0, decide_eq_false c0, decide_eq_false c1, decide_eq_false c2, decide_eq_true c5', ln S1 h7, decide_eq_false (show ¬ (0 : Int) < (π.length : Int) by omega)]
   exact e3
  ·simp! [e0, decide_eq_false c0, decide_eq_false c1, decide_eq_false c2, decide_eq_false c5']
   exact e3
theorem Kx {S : aL} {i : Nat} {xs : List Vl} {v : Vl} (a : AB S) (h : S[i]? = some (.lv xs)) (hv : v.below S.length = true) : AB (S.set i (.lv (xs ++ [v]))) := fun c hc => by
 rw [eQ];rcases eC hc with hc | rfl
 ·exact a c hc
 ·have := a _ (bU h)
  simp only [Cell.below, List.all_append, jR, List.all_nil, Bool.and_true, dM] at this ⊢;exact ⟨this, hv⟩
theorem Ap {t : Tg} {mb : FS} {d : PH.D} {r : List PH.D} {ρ ρ1 ρ2 : Ev} {S S2 : aL} (h1 : mR t (.dat d) ρ = some ρ1) (h2 : mb ρ1 S = .next ρ2 S2) : loop t mb (d :: r) ρ S = loop t mb r ρ2 S2 := by
 rw [loop, h1];dsimp only;rw [h2]
theorem FJ {j : Int} {m : Nat} : gH j (m + 1) = .int j :: gH (j + 1) m := by
 unfold gH;rw [sV, aU, iX];simp only [Int.add_zero, Function.comp_def]
 congr 1
 ·simp
 ·apply nZ
  intro a _
  congr 1
  omega
theorem JW {S : aL} {p : Nat} {ks : List Int} {many : Int} {xs : List (Int × List Int × Stt)} (a : AB S) (hP : PoolAt S p ks) (hm1 : 1 <= many) (hm3 : many <= 3) (hx : ∀ x ∈ xs, x.2.1.length <= 90) (hn : xs.length <= 1000) :
  ∃ (q' path : PH.D) (ds : List PH.D) (t : Bool) (k' : List Int), tD [.cel p, .dat (.lst (rH xs)), .dat (.int many)] S = .ok (.dat (.tup [q', path])) (S.set p (PL k')) /\ Itm q' /\ PathD path ds t /\ k'.length = ks.length := by
 have hp : p < S.length := (aI.mp hP.1).1;obtain ⟨d1, k1, e1, h10, h11, l1⟩ := eL hP (k := 9) (by decide) (by decide)
 have P1 := hP.next l1;obtain ⟨d2, k2, e2, h20, h21, l2⟩ := eL P1 (k := many) (by omega) (by omega)
 have P2 := P1.next l2;obtain ⟨d3, k3, e3, h30, h31, l3⟩ := eL P2 (k := 6) (by decide) (by decide)
 have P3 := P2.next l3;obtain ⟨π, k4, e4, z1, _, l4⟩ := I8 (e := aR bE (aB (aD 0) (aB (mC (.int 3)) aJ))) (t := .nm 9) (f := PH.D.int) (Q := fun _ => True) (ρ := [some (.cel p), some (.dat (.lst (rH xs))), some (.dat (.int many)), some (.dat (.int d1)), some (.dat (.int d2)), none, none, none, none, none]) (vs := [9]) (fun S ks d h => by
  obtain ⟨u, k', e, _, _, l⟩ := eL h (k := 3) (by decide) (by decide)
  refine ⟨_, rfl, u, k', ?_, trivial, l⟩
  simp! [e]) P3 (n := d3.toNat) (by omega)
 have P4 := P3.next l4;simp only [dG] at e2 e3 e4 P4;have ln : (rH xs).length = xs.length := by simp [rH]
 have tr : ∀ (k : List Int) (c : Cell) (d : PH.D), PH.trunc S.length (.ok (.dat d) (S.set p (PL k) ++ [c])) = .ok (.dat d) (S.set p (PL k)) := fun k c d => by
  have := Hc (d := d) (c := c) (S := S.set p (PL k)) a.setL
  rwa [eQ] at this
 rw [Im];rw [show tI = (aP (bK (aR bE (aB (aD 0) (aB (mC (.int 9)) aJ))) (.nm 3))
  (aP (bK (aR bE (aB (aD 0) (aB (aD 2) aJ))) (.nm 4))
  (aP (bK (m1 fTuple (A4 false (oO (aR bE (aB (aD 0) (aB (mC (.int 6)) aJ)))) (.nm 9) hW (aR bE (aB (aD 0) (aB (mC (.int 3)) aJ))) [9])) (.nm 5))
  (aP (bS (uO (mB (aV Eg (m1 dY (aD 1)) (mC (.int 0)))) (mB (aV BV (aD 3) (mC (.int 6))))) (aP (bK (aV cM (aD 1) (aR bE (aB (aD 0) (aB (m1 dY (aD 1)) aJ)))) (.nm 6))
  (aP (bK (aV cM (aD 6) (mC (.int 0))) (.nm 4))
  (bK (aV cM (aD 6) (mC (.int 1))) (.nm 5)))) bB) vJ)))) from rfl]
 by_cases hc : 0 < xs.length /\ d1 < 6
 ·obtain ⟨hc1, hc2⟩ := hc
  obtain ⟨d5, k5, e5, h50, h51, l5⟩ := eL P4 (k := (xs.length : Int)) (by omega) (by omega)
  simp only [dG] at e5;have P5 := P4.next l5;simp only [dG] at P5;obtain ⟨j, hj⟩ := Int.eq_ofNat_of_zero_le h50;have hjl : j < xs.length := by omega
  have hix : atI (rH xs) d5 = some (.tup [.int xs[j].1, tupI xs[j].2.1, xs[j].2.2.d]) := by
   rw [cQ (n := j) hj, rH, bZ, aZ hjl];rfl
  have hxl := hx _ (dN hjl);generalize xs[j] = x at hix hxl;obtain ⟨q', path, ds, t, k6, c, er, iq, hpd, l6⟩ := GT (many := many) (q := x.1) (π := x.2.1) (a1 := some (.dat (.lst (rH xs)))) (a6 := some (.dat (.tup [.int x.1, tupI x.2.1, x.2.2.d]))) (a9 := none) (a.setL (p := p) (ds := k5.map .int)) P5 h10 hxl;rw [dG] at er;refine ⟨q', path, ds, t, k6, ?_, iq, hpd, by omega⟩
  have er' : vJ [some (.cel p), some (.dat (.lst (rH xs))), some (.dat (.int many)), some (.dat (.int d1)), some (.dat (.int x.1)), some (.dat (tupI x.2.1)), some (.dat (.tup [.int x.1, tupI x.2.1, x.2.2.d])), none, none, none] (S.set p (.lst (k5.map .int))) = .ret (.dat (.tup [q', path])) (S.set p (PL k6) ++ [c]) := er;simp! [e1, e2, e3, iK (show -(2 ^ 62) <= d3 by omega) (show d3 < 2 ^ 62 by omega), e4, pW, ln, decide_eq_true (show (0 : Int) < (xs.length : Int) by omega), decide_eq_true hc2, e5, kL hix, cZ, mG]
  rw [er'];exact tr _ _ _
 ·obtain ⟨q', path, ds, t, k6, c, er, iq, hpd, l6⟩ := GT (many := many) (q := d2) (π := π) (a1 := some (.dat (.lst (rH xs)))) (a6 := none) (a9 := none) (a.setL (p := p) (ds := k4.map .int)) P4 h10 (by omega)
  rw [dG] at er;refine ⟨q', path, ds, t, k6, ?_, iq, hpd, by omega⟩
  have er' : vJ [some (.cel p), some (.dat (.lst (rH xs))), some (.dat (.int many)), some (.dat (.int d1)), some (.dat (.int d2)), some (.dat (tupI π)), none, none, none, none] (S.set p (.lst (k4.map .int))) = .ret (.dat (.tup [q', path])) (S.set p (PL k6) ++ [c]) := er
  by_cases hc1 : 0 < xs.length
  ·simp! [e1, e2, e3, iK (show -(2 ^ 62) <= d3 by omega) (show d3 < 2 ^ 62 by omega), e4, pW, ln, decide_eq_true (show (0 : Int) < (xs.length : Int) by omega), decide_eq_false (show ¬ d1 < 6 by omega)]
   rw [er'];exact tr _ _ _
  ·simp! [e1, e2, e3, iK (show -(2 ^ 62) <= d3 by omega) (show d3 < 2 ^ 62 by omega), e4, pW, ln, decide_eq_false (show ¬ (0 : Int) < (xs.length : Int) by omega)]
   rw [er'];exact tr _ _ _
theorem Ig {bs : List (List Stt)} {q : PH.D} {t : Bool} {ds : List PH.D} (ho : ∀ b ∈ bs, OkL (bs.length : Int) b 3) : ∃ (w : Str) (d : PH.D), (tR bs q t ds).d = .tup [.str w, d] /\ d.Pl /\ d.ht < 20 /\ decide (w = Str.ofString "told") = (tR bs q t ds).is := by
 unfold tR;split
 ·split
  ·split
   ·rename_i b hb
    split
    ·rename_i s hs
     obtain ⟨_, _, _, _, j, hj, hok⟩ := uY (ho b (bU hb)) hs;obtain ⟨p1, p2⟩ := s.plain j hok;exact ⟨_, _, rfl, p1, by omega, rfl⟩
    ·exact ⟨_, _, rfl, trivial, by decide, by decide⟩
   ·exact ⟨_, _, rfl, trivial, by decide, by decide⟩
  ·exact ⟨_, _, rfl, trivial, by decide, by decide⟩
 ·exact ⟨_, _, rfl, trivial, by decide, by decide⟩
theorem E8 {S : aL} {bs : List (List Stt)} {q p : PH.D} {t : Bool} {ds : List PH.D} (h3 : bs.length <= 3) (ho : ∀ b ∈ bs, OkL (bs.length : Int) b 3 /\ bQ b <= 12) (hq : Itm q) (hp : PathD p ds t) :
  mF [.dat (dD bs), .dat (.lst (rH (gQ 0 bs))), .dat (.int (bs.length : Int)), .dat q, .dat p] S = .ok (.dat (.bl true)) S := by
 rw [Ez];unfold pB;have ho1 : ∀ b ∈ bs, OkL (bs.length : Int) b 3 := fun b hb => (ho b hb).1
 have e1 := due_s (S := S) h3 ho hq hp;have e2 := N9 (S := S) (show bs.length <= 10 by omega) ho1 hq hp
 have e3 := G6 (S := S) (show bs.length <= 10 by omega) ho1 hq hp
 obtain ⟨w, d, ed, p1, p2, ew⟩ := Ig (q := q) (t := t) (ds := ds) ho1;rw [ed] at e1 e2;rw [<- ew] at e3;have ne : BU (.dat (.str w)) (.dat (.str w)) S = .ok (.dat (.bl false)) S := by
  show Res.ok (Vl.dat (.bl (!decide (w = w)))) S = _
  simp
 have eb : ∀ b : Bool, eZ (.dat (.bl b)) (.dat (.bl b)) S = .ok (.dat (.bl true)) S := fun b => by cases b <;> rfl
 have ew2 : eZ (.dat (.str w)) (.dat (.str "told")) S = .ok (.dat (.bl (decide (w = Str.ofString "told")))) S := rfl;simp! [e1, e2, cZ, mG, ne, GP 20 p1 p2, e3, ew2, eb];rfl
theorem get_w {S : aL} {many : Int} {bs : List (List Stt)} {p : Nat} {π : List Int} {b : List Stt} {s : Stt} {k : Nat} (a : AB S) (hl : bs.length <= 10) (hb : bs[p]? = some b) (ho : OkL many b k) (hk : k <= 9) (h : yL π b = some s) :
  ∃ v T j, sN "Book" iF (.dat (dD bs)) (.dat (.tup [.int (p : Int), tupI π])) S = .ok v T /\ Grow S T /\ TrV T j v s /\ ∀ c ∈ s.blocks, c.length <= 10 := by
 have hp := (aI.mp hb).1;obtain ⟨e1, j, hj, hs⟩ := Ce (S := S) ho h;have hix : atI (bls bs) (p : Int) = some (.lst (bP b)) := by
  rw [cQ (n := p) rfl];simp [bls, hb]
 have hf : IB "Book" "own" (.dat (dD bs)) S = .ok (.dat (.lst (bls bs))) S := rfl;obtain ⟨v, T, e2, g, tr⟩ := (Pn 20).1 (S := S) hs (by omega) a
 refine ⟨v, T, j, ?_, g, tr, fun c hc => (jO hs c hc).2.len⟩
 rw [Fv (by rfl), yH]
 unfold iP;simp! [Jy hl, decide_eq_true (show (0 : Int) <= (p : Int) by omega), decide_eq_true (show (p : Int) < (bs.length : Int) by omega), hf, kL hix, e1]
 rw [Ac (S := S) hs.no];simp! [e2];rfl
theorem C0 {ks : List Int} {kc : Nat} {ns : List Nat} {e0 e1 e2 e3 e4 e5 e6 e8 e9 : Option Vl} : ∀ (r : List Nat) (i K : Nat) (T : aL), T[kc]? = some (.lv (ns.map .cel)) -> ns.drop i = r -> (∀ n ∈ ns, n ≠ kc /\ ∃ ys, T[n]? = some (.lv ys) /\ ys.length <= 10 + i) -> AB T -> PoolAt T 0 ks -> i <= 100 -> i + r.length <= 100 -> r.length < K ->
  ∃ T', oQ (.nm 7) oE kc K i [e0, e1, e2, e3, e4, e5, e6, none, e8, e9] T = .next [e0, e1, e2, e3, e4, e5, e6, none, e8, e9] T' /\ AB T' /\ PoolAt T' 0 ks
 | [], i, 0, T, _, _, _, _, _, _, _, hK => by omega
 | [], i, K + 1, T, hk, hr, _, ab, hP, _, _, _ => by
  refine ⟨T, I7 (Em hk) (dC.mpr ?_), ab, hP⟩
  have := congrArg nG hr;simp only [BS, cY] at this;rw [bN];omega
 | c :: r, i, 0, T, _, _, _, _, _, _, _, hK => by omega
 | c :: r, i, K + 1, T, hk, hr, hn, ab, hP, hi, hir, hK => by
  have hlt : i < ns.length := by
   have := congrArg nG hr;simp only [BS, aY] at this;omega
  have hr2 := hr;rw [dB hlt] at hr2
  injection hr2 with q1 q2
  have hc : c ∈ ns := by rw [<- q1]; exact dN hlt
  obtain ⟨hck, ys, hy, hyl⟩ := hn c hc;have hc0 : c ≠ 0 := fun e => by
   subst e;rw [hP.1] at hy;cases hy
  have ap : yZ (.cel c) (.dat (.tup [.str "mark"])) T = .ok (.dat .non) (T.set c (.lv (ys ++ [.dat (.tup [.str "mark"])]))) := MU hy (by show _ < 16777216; omega)
  obtain ⟨T', f1, f2, f3⟩ := C0 (ks := ks) (kc := kc) (ns := ns) (e0 := e0) (e1 := e1) (e2 := e2) (e3 := e3) (e4 := e4) (e5 := e5) (e6 := e6) (e8 := e8) (e9 := e9) r (i + 1) K (T.set c (.lv (ys ++ [.dat (.tup [.str "mark"])]))) (by rw [iT hck]; exact hk) q2 (fun n hn' => by
   obtain ⟨h1, zs, h2, h3⟩ := hn n hn';refine ⟨h1, ?_⟩
   by_cases e : c = n
   ·subst e
    rw [hy] at h2;cases h2;exact ⟨_, mL hy, by simp; omega⟩
   ·exact ⟨zs, by rw [iT e, h2], by omega⟩) (Kx ab hy rfl) ⟨by rw [iT hc0]; exact hP.1, hP.2⟩ (by simp only [aY] at hir; omega) (by simp only [aY] at hir; omega) (by simp only [aY] at hK; omega)
  refine ⟨T', ?_, f2, f3⟩
  rw [Fh (d := .cel c) (ρ1 := [e0, e1, e2, e3, e4, e5, e6, some (.cel c), e8, e9]) (ρ2 := [e0, e1, e2, e3, e4, e5, e6, none, e8, e9]) (S2 := T.set c (.lv (ys ++ [.dat (.tup [.str "mark"])]))) (Em hk) (by rw [bZ, aZ hlt, q1]; rfl) rfl]
  ·exact f1
  ·unfold oE
   simp! [Pa, MT hy, ap]
theorem yO {ks : List Int} {bs : List (List Stt)} {e0 e1 e2 e8 e9 : Option Vl} (h3 : bs.length <= 3) (ho : ∀ b ∈ bs, OkL (bs.length : Int) b 3 /\ bQ b <= 12) : ∀ (xs : List (Int × List Int × Stt)) (T : aL), (∀ x ∈ xs, x ∈ gQ 0 bs) -> AB T -> PoolAt T 0 ks ->
  ∃ T', loop (.nm 6) oD (rH xs) [e0, e1, e2, some (.dat (.int (bs.length : Int))), some (.dat (dD bs)), some (.dat (.lst (rH (gQ 0 bs)))), none, none, e8, e9] T = .next [e0, e1, e2, some (.dat (.int (bs.length : Int))), some (.dat (dD bs)), some (.dat (.lst (rH (gQ 0 bs)))), none, none, e8, e9] T' /\ AB T' /\ PoolAt T' 0 ks
 | [], T, _, ab, hP => ⟨T, rfl, ab, hP⟩
 | x :: r, T, hx, ab, hP => by
  have hm := hx x (aW ..);obtain ⟨j, b, g1, g2, g3⟩ := sU (p := 0) hm;have hob := (ho b (bU g2)).1;have hst := GW g3;have hpl : x.2.1.length <= 100 := by
   have := gT 0 b 3 hob _ g3;simp at this;omega
  have er := E8 (S := T) (q := .int x.1) (p := tupI x.2.1) h3 ho trivial (.tup (nS (π := x.2.1)) (by simpa using hpl))
  obtain ⟨v, T1, d, e, g, tr, hbl⟩ := get_w (S := T) (p := j) ab (show bs.length <= 10 by omega) g2 hob (by omega) hst
  rw [show ((j : Nat) : Int) = x.1 by omega] at e
  obtain ⟨hod, k, ns, rfl, t3, t4⟩ := id tr;have eb := GE tr t3 t4 hod;have hP1 : PoolAt T1 0 ks := ⟨g.get hP.1, hP.2⟩;have gb : Grow T1 (T1 ++ [.lv (ns.map .cel)]) := (Grow.refl g.1).app (by
   simp only [Cell.below, bA];intro v hv;obtain ⟨n, hn, rfl⟩ := bD.mp hv;obtain ⟨b, _, q⟩ := t4.mem hn;have := q.lt;simp [Vl.below, this])
  have hfew := nX (s := x.2.2);have hln : ns.length = x.2.2.blocks.length := t4.len;obtain ⟨T2, f1, f2, f3⟩ := C0 (ks := ks) (kc := T1.length) (ns := ns) (e0 := e0) (e1 := e1) (e2 := e2) (e3 := some (.dat (.int (bs.length : Int)))) (e4 := some (.dat (dD bs))) (e5 := some (.dat (.lst (rH (gQ 0 bs))))) (e6 := some (.dat (.tup [.int x.1, tupI x.2.1, x.2.2.d]))) (e8 := e8) (e9 := e9) ns 0 1000000 (T1 ++ [.lv (ns.map .cel)]) (by simp) rfl (fun n hn => by
   obtain ⟨c, hc, q⟩ := t4.mem hn;have hlt := q.lt;refine ⟨by omega, ?_⟩
   cases d with
   | zero => exact q.elim
   | succ d =>
    obtain ⟨ys, h1, h2⟩ := q;exact ⟨ys, gb.get h1, by have := h2.len; have := hbl c hc; omega⟩) gb.1 ⟨gb.get hP1.1, hP.2⟩ (by omega) (by omega) (by omega)
  obtain ⟨T3, i1, i2, i3⟩ := yO (ks := ks) (e0 := e0) (e1 := e1) (e2 := e2) (e8 := e8) (e9 := e9) h3 ho r T2 (fun y hy => hx y (aQ _ hy)) f2 f3
  refine ⟨T3, ?_, i2, i3⟩
  rw [show rH (x :: r) = .tup [.int x.1, tupI x.2.1, x.2.2.d] :: rH r from rfl]
  refine (Ap (t := .nm 6) (ρ1 := [e0, e1, e2, some (.dat (.int (bs.length : Int))), some (.dat (dD bs)), some (.dat (.lst (rH (gQ 0 bs)))), some (.dat (.tup [.int x.1, tupI x.2.1, x.2.2.d])), none, e8, e9]) rfl ?_).trans i1
  unfold oD;simp! [cZ, mG, er, e, eb, PV, MN, f1]
theorem oZ {S : aL} {bs : List (List Stt)} {d : PH.D} (h : (∃ xs, d = .tup xs /\ xs.length ≠ 2) \/ d = .non \/ ∃ xs, d = .lst xs) : Bj "Book" cP (.dat d) (.dat (dD bs)) S = .ok (.dat (.bl false)) S := by
 rw [KI (by rfl), pF]
 unfold fJ;rcases h with ⟨xs, rfl, hl⟩ | rfl | ⟨xs, rfl⟩
 ·have e0 : dY (.dat (.tup xs)) S = .ok (.dat (.int (xs.length : Int))) S := rfl
  simp! [cV, e0, decide_eq_false (show ¬ (xs.length : Int) = 2 by omega)]
  rfl
 ·simp! [cV]; rfl
 ·simp! [cV]; rfl
theorem J3 {bs : List (List Stt)} {e0 e2 e6 e7 : Option Vl} (h1 : 1 <= bs.length) (h3 : bs.length <= 3) (ho : ∀ b ∈ bs, OkL (bs.length : Int) b 3 /\ bQ b <= 12) (hn : (gQ 0 bs).length <= 1000) (hx : ∀ x ∈ gQ 0 bs, x.2.1.length <= 90) : ∀ (n : Nat) (i : Nat) (T : aL) (ks : List Int), AB T -> PoolAt T 0 ks ->
  ∃ T', loop (.nm 8) lZ (gH i n) [e0, some (.cel 0), e2, some (.dat (.int (bs.length : Int))), some (.dat (dD bs)), some (.dat (.lst (rH (gQ 0 bs)))), e6, e7, none, none] T = .next [e0, some (.cel 0), e2, some (.dat (.int (bs.length : Int))), some (.dat (dD bs)), some (.dat (.lst (rH (gQ 0 bs)))), e6, e7, none, none] T'
 | 0, i, T, ks, ab, hP => ⟨T, rfl⟩
 | n + 1, i, T, ks, ab, hP => by
  obtain ⟨q', path, ds, t, k', e, iq, hpd, l⟩ := JW ab hP (many := (bs.length : Int)) (by omega) (by omega) hx hn
  have er := E8 (S := T.set 0 (PL k')) h3 ho iq hpd;obtain ⟨T', f⟩ := J3 (e0 := e0) (e2 := e2) (e6 := e6) (e7 := e7) h1 h3 ho hn hx n (i + 1) _ k' (ab.setL) (hP.next l);refine ⟨T', ?_⟩
  have er0 : gH (i : Int) (n + 1) = .int (i : Int) :: gH ((i + 1 : Nat) : Int) n := by rw [FJ]; rfl
  rw [er0];refine (Ap (t := .nm 8) (ρ1 := [e0, some (.cel 0), e2, some (.dat (.int (bs.length : Int))), some (.dat (dD bs)), some (.dat (.lst (rH (gQ 0 bs)))), e6, e7, some (.dat (.int (i : Int))), none]) rfl ?_).trans f
  unfold lZ;simp! [e, cZ, mG, er]
theorem law_true_k09 : ∀ ns : List Int, ns.length <= 63 -> ∃ S, m_law_k09 [.scr ns] [] = .ok (.dat (.bl true)) S := by
 intro ns hn;refine ⟨[], ?_⟩
 rw [Il];obtain ⟨k0, e0, h0⟩ := Lf (S := []) hn;have P0 : PoolAt ([] ++ [PL k0]) 0 k0 := ⟨rfl, h0⟩;have ls0 : LS ([] ++ [PL k0]) := fun c hc n => by rw [dH.mp hc]; rfl
 have sh : ∀ k : List Int, (([] : aL) ++ [PL k]) = [PL k] := fun _ => rfl
 obtain ⟨bs, k2, e2, G, _, _, l2⟩ := N7 (most := 3) (size := 7) P0 ls0 (by decide) (by decide) (by decide) (by decide)
 have P2 := P0.next l2;simp only [dG, sh, bJ, cY, aY] at e0 e2 P2;have a0 : AB [PL k2] := fun c hc => by rw [dH.mp hc]; rfl
 have lsk : LS [PL k2] := fun c hc n => by rw [dH.mp hc]; rfl
 have bl1 := G.l1;have bl3 := G.l3;have hk : ∀ b ∈ bs, OkL (bs.length : Int) b 3 /\ bQ b <= 12 := fun b hb => ⟨G.ok b hb, (G.two.gd b hb).2.2.1⟩
 have hplen : ∀ x ∈ gQ 0 bs, x.2.1.length <= 90 := fun x hx => by
  obtain ⟨j, b, h1, h2, h3⟩ := sU (p := 0) hx;have := gT 0 b 3 (hk b (bU h2)).1 _ h3;simp at this;omega
 have hal : (gQ 0 bs).length <= 1000 := by
  have := BI (p := 0) (bs := bs) (n := 12) fun b hb => (hk b hb).2
  omega
 have ln : ∀ X : aL, dY (.dat (.lst (bls bs))) X = .ok (.dat (.int (bs.length : Int))) X := fun X => by
  rw [show bs.length = (bls bs).length by simp [bls]]
  rfl
 obtain ⟨T, f1, f2, f3⟩ := yO (ks := k2) (e0 := some (.scr ns)) (e1 := some (.cel 0)) (e2 := some (.dat (.lst (bls bs)))) (e8 := none) (e9 := none) bl3 hk (gQ 0 bs) [PL k2] (fun _ h => h) a0 P2
 obtain ⟨m, q1, q2⟩ : ∃ m : Nat, Ay (.dat (.int 16)) (.dat (.int (k2.length : Int))) T = .ok (.dat (.int (m : Int))) T /\ Gi (.dat (.int (m : Int))) T = .ok (gH 0 m) T := by
  refine ⟨min 16 k2.length, ?_, ?_⟩
  ·unfold Ay
   simp;omega
  ·rw [iK (by omega) (by omega)]
   simp
 obtain ⟨U, g1⟩ := J3 (e0 := some (.scr ns)) (e2 := some (.dat (.lst (bls bs)))) (e6 := none) (e7 := none) bl1 bl3 hk hal hplen m 0 T k2 f2 f3;obtain ⟨p1, p2⟩ := Pp G.two;have hi : ∀ X, rB X "Book" "bodies" (.dat (dD bs)) = true := fun _ => rfl
 have sm : ∀ X : aL, kE 20 [.dat (.lst (bls bs)), .dat (.lst (bls bs))] X = .ok (.dat (.bl true)) X := fun X => GP 20 p1 p2
 have bd : ∀ X : aL, gV [.dat (dD bs)] X = .ok (.dat (.lst (bls bs))) X := fun X => Ib G.ok (by omega) (by omega)
 have lkp : dY (.cel 0) T = .ok (.dat (.int (k2.length : Int))) T := by
  have := Fu f3.1;rw [bN] at this;exact this
 have n1 := oZ (S := U) (bs := bs) (d := .tup [.int 0]) (.inl ⟨_, rfl, by decide⟩)
 have n2 := oZ (S := U) (bs := bs) (d := .non) (.inr (.inl rfl));have n3 := oZ (S := U) (bs := bs) (d := .lst [.int 0, .tup [.int 0]]) (.inr (.inr ⟨_, rfl⟩));have n4 := oZ (S := U) (bs := bs) (d := .tup [.int 0, .tup [.int 0], .int 0]) (.inl ⟨_, rfl, by decide⟩)
 unfold pZ;simp! [e0, e2, ln, L8 G.ok (show 3 <= 9 by omega) (show bs.length <= 10 by omega), Hz lsk G, DV lsk (show 3 <= 9 by omega) hk bl3, f1]
 unfold sA;simp! [Gw (hi T), bd, sm];unfold sC;have g1' : loop (.nm 8) lZ (gH 0 m) [some (.scr ns), some (.cel 0), some (.dat (.lst (bls bs))), some (.dat (.int (bs.length : Int))), some (.dat (dD bs)), some (.dat (.lst (rH (gQ 0 bs)))), none, none, none, none] T = .next [some (.scr ns), some (.cel 0), some (.dat (.lst (bls bs))), some (.dat (.int (bs.length : Int))), some (.dat (dD bs)), some (.dat (.lst (rH (gQ 0 bs)))), none, none, none, none] U := g1;simp! [lkp, q1, q2, g1'];unfold sD;simp! [n1, n2, n3, n4, Gw (hi U), bd, sm];exact Ny
end PH
open PySem PySem.W PySem.Calls PyProof.Rows
set_option maxHeartbeats 0 in
theorem PySem.Challenge.cw_penhome_k09_statements_by_their_paths_holds : PySem.Challenge.rw_penhome_k09_statements_by_their_paths.Holds := by
 w_on; o_law
 refine HandSHeadRun.head_any (r := OpenLaw.row PySem.Challenge.rw_penhome_k09_statements_by_their_paths) (q := view (OpenLaw.row PySem.Challenge.rw_penhome_k09_statements_by_their_paths).prog [59]) (H := PHZ.hk) (ob := PHZ.ob) (M := 8000) (loose := PHZ.loose) (d := HandSHeadRun.topDef (OpenLaw.row PySem.Challenge.rw_penhome_k09_statements_by_their_paths).prog 59) (kwd := []) PHZ.ob_eq
  (by kernel_rfl) (fun s => by kernel_rfl) PHZ.run_ (by kernel_rfl) (by kernel_rfl) (by kernel_rfl) (by rfl) (by first | assumption | decide +kernel) (by decide +kernel) ⟨rfl, rfl, rfl, rfl, rfl, by decide +kernel⟩ ?hw ?hc
 case hw => w_witness2
 case hc =>
  refine PH.walk_x (l := PySem.Challenge.rw_penhome_k09_statements_by_their_paths) (n := 63) (k := 41) (x := "_law_script") rfl (by decide) (by kernel_rfl) ⟨rfl, by decide, by decide⟩ ?F
  intro w mg fa h Y G hmg0;obtain ⟨K, KX, c⟩ := Y;have hmg : mg ("law" : PySem.Str) = some (.ref fa) := by
   have e : (HandSHeadRun.topDef (OpenLaw.row PySem.Challenge.rw_penhome_k09_statements_by_their_paths).prog 59).name = ("law" : PySem.Str) := by kernel_rfl
   rw [<- e];exact hmg0
  have T := PHZ.txt (P := (PySem.Challenge.rw_penhome_k09_statements_by_their_paths).prog) ⟨rfl⟩ (w := w) KX G c;have e := hmg.symm.trans T.G_law_k09;cases e;obtain ⟨fd, b, F⟩ := PHZ.law_fn (P := (PySem.Challenge.rw_penhome_k09_statements_by_their_paths).prog) T;exact ⟨K, fd, PH.spF K PH.m_law_k09, KX, fun s v => b s [v] rfl, fun H a ns hl hO hS => PH.law_start PH.law_true_k09 H a ns hl hO hS, fun base _ _ => F base⟩
