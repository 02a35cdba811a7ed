import PyProof.Rows.All
import Wide.All
import OpenK.AllK
import Wide.FinOn
import KE.KStateDown
import Lean
import HandS.ForMost
import HandS.ForExc
import HandS.More
import HandS.Flow
import HandS.IsInst
import HandS.Defaults
import HandS.Head0
import HandS.Head1
import HandS.Head2
import HandS.HeadEnd
import HandS.HeadHook1
import HandS.HeadHook2
import HandS.HeadHook3
import HandS.TupAny
import HandS.Star
import HandS.Wide
import HandS.Zip
import HandS.Rev
import HandS.TryMany
import HandS.Small
import HandS.RaiseMore
import HandS.OwnEq
import HandS.Walk
import HandS.Deep
import HandS.ExcInit
import HandS.ExcField
import HandS.RevRange
import HandS.SortInts
import KE.GoesMore
import HandS.CallSlots
import PyProof.Rows.NestShow
import HandS.Dict
import HandS.Style
import HandS.Text
import HandS.FStr
import HandS.StrMore
import HandS.SetFor
import PyProof.InstNe
import HandS.ReplaceLit
import KE.SortKeyHeap
import HandS.ExcValue
import HandS.SortKw
import HandS.SetKeys
import HandS.WordsDict
import HandS.Conv
import HandS.DictComp
import HandS.Iter
import HandS.TupLen
import HandS.GenList
import HandS.IterNext
import HandS.DictSub
import HandS.GenOver
import HandS.ExcInitHot
import KE.KExcIs
import PyProof.EqKinds
import PyProof.FactsAll.dict
import PyProof.P3In
import HandS.Property
import HandS.MakeKwOnly
import KE.KCallOwn
import HandS.ExcIs
import HandS.HeadNt
import KE.KEqDict
import PySem.Challenge.RW_penhome_k60_named_equations
set_option Elab.async false
set_option linter.all false
set_option maxRecDepth 100000
set_option maxHeartbeats 4000000
open PySem.W renaming Frag → aA, findIn → bK, kitOne → cA, fnOf → dH, nsIn → eN, view → eO, hasDictIn → gY, typeIn → jP, keepIn → jQ, SharedT → nN, kia_one → nO, exmOne → pV, InstAt → pX, subIn → rM, specialIn → zP, boot_heap → zQ, openGood → zW, kitx_exc → zX
open And renaming intro → aD
open List renaming getElem?_eq_some_iff → aF, getElem?_append_left → aI, getElem?_set → aK, mem_cons → aQ, getElem?_append_right → aS, mem_cons_self → aY, not_mem_nil → bC, mem_cons_of_mem → bD, all_eq_true → bH, getElem?_eq_getElem → bI, set_cons_zero → bN, length_map → bR, nil_append → bW, length_cons → cJ, cons_append → cK, range → cL, drop_eq_getElem_cons → cO, set_set → cQ, map_cons → cS, set_cons_succ → dD, getElem?_map → eX, mem_of_getElem? → fY, length_set → gI, replicate → gZ, getElem?_take → hG, getElem_mem → iQ, mem_append → jR, map_congr_left → lI, all_cons → lK, length_append → mG, mem_filterMap → mH, ext_getElem? → nE, drop_length → pT, lookup_cons → pU, range' → pW, mem_or_eq_of_mem_set → tK, getElem?_replicate → uY, mem_map → wD, length_singleton → xS, set_append_right → xT, forall_mem_cons → zR
open Nat renaming le_refl → cC, zero_le → eQ, le_of_not_lt → iR, add_sub_cancel_left → wF, le_trans → xR
open Int renaming emod_nonneg → eM, emod_lt_of_pos → eP, toNat_natCast → fF
open Bool renaming and_eq_true → fO, and_eq_true_iff → zS
open Or renaming inr → lJ, inl → qQ
namespace PH
open PySem PySem.Spec PyProof.Rows L2
def G6 : Stmt -> List Stmt
 | .ClassDef _ _ _ b _ _ _ _ _ _ _ => b
 | _ => []
inductive D where
 | non | bl (b : Bool) | int (i : Int) | str (x : Str) | lst (xs : List D) | tup (xs : List D) | ins (C : Str) (ns : List Str) (xs : List D) | dct | opq (k : Option (Int × Int))
def xmB (K : aA) (cs : List Str) : Bool := cs.all fun c => cs.all fun d => decide (pV K (.ref (He.ga K c)) (.ref (He.ga K d)) = some (decide (c = d)))
def Ef (K : aA) (C : Addr) : Bool := match K.lookup C with
 | some ⟨.type "type", _, .cls cd, sl⟩ => (match cd.mro, sl.toList with
  | .ref C' :: bm, [_, _, _, _, some (.builtin n), _] => C' == C && n == "ValueError.__new__" && !cd.hasDel && cd.hasDict && PySem.HandSPX.refsVE bm
  | _, _ => false)
 | _ => false
def xaB (K : aA) (x : Str) (fs : List Str) : Bool := Ef K (He.ga K x) && (decide (bK K (.ref (He.ga K x)) "__setattr__" = some (some (.builtin "object.__setattr__"))) && (decide (rM K (.ref (He.ga K x)) (.type "BaseException") = some true) && (decide (jP K (.ref (He.ga K x)) = some (.type "type")) && (jQ K (.ref (He.ga K x)) && (decide (bK K (.ref (He.ga K x)) "__init__" = some (some (.ref (He.ma K (He.ga K x) "__init__")))) && (decide (jP K (.ref (He.ma K (He.ga K x) "__init__")) = some (.type "function")) && (xfB K (He.ga K x) && fs.all fun f => decide (bK K (.ref (He.ga K x)) f = some none))))))))
end PH
namespace PH
open PySem PySem.Spec PyProof PyProof.Rows L2
def frR (g : Addr -> Option Obj) (n : Nat) : aA := He.frG g (cL n)
def Eg (n : Nat) (fa : List He.Fa) (fn : List He.DefD) (ts : List He.Tab) (ex : aA -> Bool) (g : Addr -> Option Obj) : He.AlT × Bool := (He.obsT fa fn ts (frR g n), ex (frR g n))
def Du (n : Nat) (fa : List He.Fa) (fn : List He.DefD) (ts : List He.Tab) (ex : aA -> Bool) : PySem.W.Hook where
 α := He.AlT × Bool
 obs := fun s => Eg n fa fn ts ex s.heap.get?
 val := fun w => (He.valT fn ts w, true)
 says := fun w h => ∃ K : aA, K.In h /\ He.SaysT fa fn ts w K /\ ex K = true
 of := fun _ _ e => ⟨_, He.frG_in, congrArg (fun z : He.AlT × Bool => z.1) e, congrArg (fun z : He.AlT × Bool => z.2) e⟩
 keeps := fun _ _ _ ⟨K, hK, c⟩ k => ⟨K, PySem.W.Frag.In.keeps hK k, c⟩
def obC (c : List He.DefD) (K : aA) : Bool × List He.FnW := (c.all fun d => d.ok K, c.map fun d => He.fnW K d.at_)
theorem qV {σ β γ : Type} {o : Option σ} {l : σ -> β} {b : β} {sn : σ -> γ} {c : γ} {K : σ -> aA} {fa : List He.Fa} {fs : List (List He.DefD)} {ts : List He.Tab} {ex : aA -> Bool} {tv : List (Option (List (Option (Str × Int))))}
  (hA : (o.map fun s => (l s, sn s, fa.all fun f => f.ok (K s), ts.map fun t => He.dicW (K s) (t.1 (K s)), ex (K s))) = some (b, c, true, tv, true))
  (hD : ∀ f ∈ fs, (o.map fun s => obC f (K s)) = some (true, f.map He.DefD.val)) :
  (o.map fun s => (l s, sn s, (He.obsT fa fs.flatten ts (K s), ex (K s)))) = some (b, c, ((true, fs.flatten.map He.DefD.val), tv), true) := by
 cases o with
 | none => cases hA
 | some s =>
  have hA := Option.some.inj hA;have h1 := congrArg (fun z => z.1) hA
  have h2 := congrArg (fun z => z.2.1) hA
  have h3 := congrArg (fun z => z.2.2.1) hA
  have h4 := congrArg (fun z => z.2.2.2.1) hA
  have h5 := congrArg (fun z => z.2.2.2.2) hA
  dsimp only at h1 h2 h3 h4 h5;have hf : ∀ f ∈ fs, (f.all fun d => d.ok (K s)) = true /\ (f.map fun d => He.fnW (K s) d.at_) = f.map He.DefD.val := fun f hf => by
   have z := Option.some.inj (hD f hf);exact ⟨congrArg (fun z => z.1) z, congrArg (fun z => z.2) z⟩
  have hall : (fs.flatten.all fun d => d.ok (K s)) = true := by
   rw [bH];intro d hd;obtain ⟨f, h1, h2⟩ := List.mem_flatten.mp hd;exact bH.mp (hf f h1).1 d h2
  have hmap : (fs.flatten.map fun d => He.fnW (K s) d.at_) = fs.flatten.map He.DefD.val := by
   rw [List.map_flatten, List.map_flatten]
   congr 1
   exact lI fun f h => (hf f h).2
  show some (l s, sn s, ((((fa.all fun f => f.ok (K s)) && (fs.flatten.all fun d => d.ok (K s)), fs.flatten.map fun d => He.fnW (K s) d.at_), ts.map fun t => He.dicW (K s) (t.1 (K s))), ex (K s))) = _
  rw [h1, h2, h3, h4, h5, hall, hmap];rfl
def qX (n : Str) (s : Stmt) : He.DefD := ⟨(n, none), n, n, defArgs s, defBody s, defScope s, [], []⟩
end PH
namespace PH
open PySem PySem.Spec PyProof.Rows L2
def xsB (K : aA) (D : Addr) : Bool := (PySem.W.clsIn K D).isSome && (decide (bK K (.ref D) "__getattribute__" = some (some (.builtin "BaseException.__getattribute__"))) && (decide (bK K (.ref D) "__getattr__" = some none) && (decide (rM K (.ref D) (.type "BaseException") = some true) && (decide (bK K (.ref D) "__class__" = some (some (.builtin "object.__class__"))) && (decide (zP K (.builtin "object.__class__") "__get__" = some (some (.builtin "getset_descriptor.__get__"))) && (decide (PySem.W.takesIn K (.builtin "object.__class__") = some true) && decide (PySem.W.mroIn K D (.type "object") = some true)))))))
def vOf : Value -> V
 | .int i _ => .int i
 | .ref a => .ref a
 | _ => .bl true
mutual
def cdB (K : aA) : PH.D -> V -> Bool
 | .int i, v => match v with
  | .int j => decide (i = j)
  | _ => false
 | .tup ds, v => match v with
  | .ref a => (match K.lookup a with
   | some ⟨.type c, _, .seq its _, _⟩ => decide (c = "tuple") && (decide (its.size <= sizeLine) && (He.relAll (its.toList.map vOf) its.toList && BV K ds (its.toList.map vOf)))
   | _ => false)
  | _ => false
 | _, _ => false
def BV (K : aA) : List PH.D -> List V -> Bool
 | [], vs => vs.isEmpty
 | d :: r, vs => match vs with
  | v :: q => cdB K d v && BV K r q
  | [] => false
end
def kdDB (K : aA) (n : Str) (tab : List (Str × PH.D)) : Bool := tab.all fun q => match eN K (He.ga K n) q.1 with
 | some (some u) => He.relAll [vOf u] [u] && cdB K q.2 (vOf u)
 | _ => false
def vL (n : Str) (tab : List (Str × PH.D)) : He.Tab := (fun K => He.ga K n, tab.map (·.1))
end PH
namespace PHZ
open PH PySem PySem.Spec PyProof.Rows L2
def top (i : Nat) : Stmt := PySem.Challenge.pw_penhome_k60_named_equations.main.body.getD i (.Pass ⟨0, 0, 0, 0⟩)
abbrev rZ : Stmt := top 5
abbrev oD : Stmt := top 6
abbrev gT : Stmt := top 7
abbrev dQ : Stmt := top 8
abbrev iW : Stmt := top 9
abbrev fZ : Stmt := top 10
abbrev kJ : Stmt := top 12
abbrev oG : Stmt := top 13
abbrev gB : Stmt := top 14
abbrev iG : Stmt := top 15
abbrev iX : Stmt := top 16
abbrev gV : Stmt := top 17
abbrev iF : Stmt := top 18
abbrev lP : Stmt := top 19
abbrev lQ : Stmt := top 20
abbrev iH : Stmt := top 21
abbrev oF : Stmt := top 22
abbrev gU : Stmt := top 23
abbrev fQ : Stmt := top 24
abbrev iY : Stmt := top 25
abbrev jJ : Stmt := top 26
abbrev dN : Stmt := (G6 (top 2)).getD 0 (.Pass ⟨0, 0, 0, 0⟩)
def uQ : He.DefD := qX "whole" rZ
def rE : He.DefD := qX "within" oD
def jE : He.DefD := qX "is_variable" gT
def hZ : He.DefD := qX "are_variables" dQ
def kZ : He.DefD := qX "are_parts" iW
def pK : He.DefD := ⟨("named", none), "named", "named", defArgs fZ, defBody fZ, defScope fZ, [], [("parts", .non)]⟩
def rG : He.DefD := qX "_law_pool" kJ
def rH : He.DefD := qX "_law_draw" oG
def mV : He.DefD := qX "_law_copied" gB
def mU : He.DefD := qX "_law_same" iG
def lA : He.DefD := qX "_law_words" iX
def jG : He.DefD := qX "_law_integer" gV
def jT : He.DefD := qX "_law_variable" iF
def pM : He.DefD := qX "_law_row" lP
def pN : He.DefD := qX "_law_due" lQ
def jU : He.DefD := qX "_law_number" iH
def rF : He.DefD := qX "_law_word" oF
def jF : He.DefD := qX "_law_variables" gU
def jV : He.DefD := qX "_law_chosen" fQ
def lB : He.DefD := qX "_law_asked" iY
def pL : He.DefD := qX "law" jJ
def jD : He.DefD := ⟨("NoEquation", some "__init__"), "__init__", "NoEquation.__init__", defArgs dN, defBody dN, defScope dN, [], []⟩
def fa : List He.Fa := ([.free "isinstance", .free "int", .free "bool", .free "tuple", .free "len", .free "list", .free "all", .free "str", .glo "WORDS", .glo "NoEquation", .free "range", .glo "HomeError", .free "ValueError", .glo "whole", .glo "within", .glo "is_variable", .glo "are_variables", .glo "are_parts", .glo "named", .glo "_law_pool"] : List He.Fa) ++ ([.glo "_law_draw", .glo "_law_copied", .glo "_law_same", .glo "_law_words", .glo "_law_integer", .glo "_law_variable", .glo "_law_row", .glo "_law_due", .glo "_law_number", .glo "_law_word", .glo "_law_variables", .glo "_law_chosen", .glo "_law_asked", .glo "law"] : List He.Fa)
def fn0 : List He.DefD := [jD, uQ, rE, jE, hZ, kZ, pK, rG, rH, mV, mU, lA, jG, jT, pM, pN, jU, rF, jF, jV, lB, pL]
def fns : List (List He.DefD) := [fn0]
def fn : List He.DefD := fns.flatten
def ts : List He.Tab := [vL "WORDS" [("home", .tup [.int 1, .tup [.int 0], .tup []]), ("swap", .tup [.int 2, .tup [.int 0, .int 1], .tup [.int 1, .int 0]]), ("undo", .tup [.int 2, .tup [.int 0, .int 1], .tup []]), ("first", .tup [.int 2, .tup [.int 0, .int 1], .tup [.int 0]]), ("last", .tup [.int 2, .tup [.int 0, .int 1], .tup [.int 1]]), ("ring", .tup [.int 3, .tup [.int 0, .int 1, .int 2], .tup [.int 1, .int 2, .int 0]])]]
def exs (K : aA) : List Bool := [kdDB K "WORDS" [("home", .tup [.int 1, .tup [.int 0], .tup []]), ("swap", .tup [.int 2, .tup [.int 0, .int 1], .tup [.int 1, .int 0]]), ("undo", .tup [.int 2, .tup [.int 0, .int 1], .tup []]), ("first", .tup [.int 2, .tup [.int 0, .int 1], .tup [.int 0]]), ("last", .tup [.int 2, .tup [.int 0, .int 1], .tup [.int 1]]), ("ring", .tup [.int 3, .tup [.int 0, .int 1, .int 2], .tup [.int 1, .int 2, .int 0]])], xaB K "NoEquation" ["place"], xmB K ["NoEquation"], xsB K (He.ga K "NoEquation"), decide (cA K (.ref (He.ga K "NoEquation")) (.type "ValueError") = some true), gY K (He.ga K "NoEquation"), decide (cA K (.ref (He.ga K "NoEquation")) (.ref (He.ga K "HomeError")) = some true)]
def ex (K : aA) : Bool := (exs K).all id
def loose : List Str := (["HomeError", "NoEquation", "WORDS", "whole", "within", "is_variable", "are_variables", "are_parts", "named", "_law_pool", "_law_draw", "_law_copied", "_law_same", "_law_words", "_law_integer", "_law_variable", "_law_row", "_law_due", "_law_number", "_law_word", "_law_variables", "_law_chosen", "_law_asked"] : List Str)
abbrev R : PySem.W.OpenRow := PySem.W.OpenLaw.row PySem.Challenge.rw_penhome_k60_named_equations
abbrev hk : PySem.W.Hook := Du 1200 fa fn ts ex
def ob (s : nN) : He.AlT × Bool := Eg 1200 fa fn ts ex (HandSHeadRun.getT s)
abbrev Bf (w : World) : Prop := HandSHeadRun.RunEq R (eO R.prog [26]) hk ob 8000 loose w
noncomputable abbrev DD (w : World) (os : OsState) := HandSHeadRun.endF (HandSHeadRun.stepQ (HandSHeadRun.denQ HandSHeadRun.tabQ) R.prog w) 8000 R.prog w os
abbrev Bo (s : nN) : aA := frR (HandSHeadRun.getT s) 1200
set_option maxHeartbeats 0 in
theorem C4 (w : World) : ∀ os : OsState, (DD (w.withFollow "special-get-raises" false) os).map (fun s => (HandSHeadRun.looksF R.prog (zQ (w.withFollow "special-get-raises" false).params) s.abs, HandSHeadRun.seenQ (eO R.prog [26]) loose (PySem.importedModules R.prog.main.body) (fun s => PySem.W.xlAt (eO R.prog [26]) [] s && PySem.W.recOk R.toRowW.records s) s.abs, fa.all fun f => f.ok (Bo s), ts.map fun t => He.dicW (Bo s) (t.1 (Bo s)), ex (Bo s))) = some (true, zW (eO R.prog [26]) loose, true, ts.map (fun t => some (He.keysIn (w.withFollow "special-get-raises" false).params t.2)), true) := by
 intro os
 kernel_rfl
set_option maxHeartbeats 0 in
theorem C5 (w : World) : ∀ os : OsState, (DD (w.withFollow "special-get-raises" false) os).map (fun s => obC fn0 (Bo s)) = some (true, fn0.map He.DefD.val) := by
 intro os
 kernel_rfl
theorem run_f (w : World) : Bf (w.withFollow "special-get-raises" false) := fun os => qV (fs := fns) (C4 w os) (zR.mpr ⟨C5 w os, fun f hf => nomatch hf⟩)
set_option maxHeartbeats 0 in
theorem C2 (w : World) : ∀ os : OsState, (DD (w.withFollow "special-get-raises" true) os).map (fun s => (HandSHeadRun.looksF R.prog (zQ (w.withFollow "special-get-raises" true).params) s.abs, HandSHeadRun.seenQ (eO R.prog [26]) loose (PySem.importedModules R.prog.main.body) (fun s => PySem.W.xlAt (eO R.prog [26]) [] s && PySem.W.recOk R.toRowW.records s) s.abs, fa.all fun f => f.ok (Bo s), ts.map fun t => He.dicW (Bo s) (t.1 (Bo s)), ex (Bo s))) = some (true, zW (eO R.prog [26]) loose, true, ts.map (fun t => some (He.keysIn (w.withFollow "special-get-raises" true).params t.2)), true) := by
 intro os
 kernel_rfl
set_option maxHeartbeats 0 in
theorem C3 (w : World) : ∀ os : OsState, (DD (w.withFollow "special-get-raises" true) os).map (fun s => obC fn0 (Bo s)) = some (true, fn0.map He.DefD.val) := by
 intro os
 kernel_rfl
theorem run_t (w : World) : Bf (w.withFollow "special-get-raises" true) := fun os => qV (fs := fns) (C2 w os) (zR.mpr ⟨C3 w os, fun f hf => nomatch hf⟩)
theorem run_ (w : World) : Bf w := PySem.W.byRow2 "special-get-raises" run_f run_t w
end PHZ
namespace PH
open PySem PySem.Spec PyProof.Rows L2
section
variable {X : Cx}
theorem bM {e : Expr} {t u : TE} (h : PE X e t) (i : ∀ σ H Q, u σ H Q -> t σ H Q) : PE X e u := ⟨fun pins s σ H Q I q => h.run pins s σ H Q I (i σ H Q q)⟩
theorem pQ {e : Expr} {t u : TT} (h : PT X e t) (i : ∀ σ H Q, u σ H Q -> t σ H Q) : PT X e u := ⟨fun pins s σ H Q I q => h.run pins s σ H Q I (i σ H Q q)⟩
theorem cV {f : Value -> Value -> Sem Value} {r u : R2} (h : OpR X f r) (i : ∀ x y H Q, u x y H Q -> r x y H Q) : OpR X f u := fun pins s σ H x y v w Q I rx ry q => h pins s σ H x y v w Q I rx ry (i x y H Q q)
theorem eW {f : Value} {r u : List V -> Hp -> VK -> Prop} (h : CallR X f r) (i : ∀ xs H Q, u xs H Q -> r xs H Q) : CallR X f u := fun pins s σ H xs us Q I rx q => h pins s σ H xs us Q I rx (i xs H Q q)
theorem xQ {r u : R2} (h : IxR X r) (i : ∀ x y H Q, u x y H Q -> r x y H Q) : IxR X u := fun e1 e2 pins s σ H x y v w Q I rx ry q => h e1 e2 pins s σ H x y v w Q I rx ry (i x y H Q q)
def sl : L2.St -> Nat -> Option V
 | [], _ => none
 | x :: _, 0 => x
 | _ :: r, n + 1 => sl r n
theorem DT : ∀ {σ : L2.St} {i : Nat} {v : V}, sl σ i = some v -> σ[i]? = some (some v)
 | [], _, _, h => by cases h
 | x :: _, 0, v, h => by
  have e : x = some v := h;rw [e]; rfl
 | _ :: r, n + 1, v, h => by
  have e := DT (σ := r) (i := n) (v := v) h
  simpa using e
def kF (i : Nat) : TE := fun σ H Q => match sl σ i with
 | some v => Q v H
 | none => False
theorem cv (i : Nat) {x : Str} {pos : Pos} (hN : X.N[i]? = some x := by rfl) (hv : Vis X.env.scope x := by first | exact qQ rfl | exact lJ (qQ rfl) | exact lJ (lJ rfl)) (hd : (x == ("__debug__" : Str)) = false := by decide)
  (hcd : (x == ("__classdict__" : Str)) = false := by decide) : PE X (.Name x pos) (kF i) := bM (pe_var hN hv hd hcd) fun σ H Q h => by
 unfold kF at h;cases e : sl σ i with
 | none => rw [e] at h; exact h.elim
 | some v => rw [e] at h; exact ⟨v, DT e, h⟩
def cI0 (g : Int -> Int -> V) : R2 := fun x y H Q => match x, y with
 | .int i, .int j => Q (g i j) H
 | _, _ => False
def cI (C : Int -> Int -> Prop) (g : Int -> Int -> V) : R2 := fun x y H Q => match x, y with
 | .int i, .int j => C i j /\ Q (g i j) H
 | _, _ => False
theorem mF {g : Int -> Int -> V} : ∀ x y H Q, cI0 g x y H Q -> rI0 g x y H Q := fun x y H Q h => by
 cases x with
 | int i => cases y with
  | int j => exact ⟨i, j, rfl, rfl, h⟩
  | _ => exact h.elim
 | _ => exact h.elim
theorem xM {C : Int -> Int -> Prop} {g : Int -> Int -> V} : ∀ x y H Q, cI C g x y H Q -> rI C g x y H Q := fun x y H Q h => by
 cases x with
 | int i => cases y with
  | int j => exact ⟨i, j, rfl, rfl, h.1, h.2⟩
  | _ => exact h.elim
 | _ => exact h.elim
def rAddI : R2 := fun x y H Q => match x, y with
 | .int i, .int j => Q (.int (i + j)) H
 | _, _ => False
def DV : R2 := fun x y H Q => match x, y with
 | .int i, .int j => Q (.int (i - j)) H
 | _, _ => False
def DX : R2 := fun x y H Q => match x, y with
 | .int i, .int j => IntMulOk i j /\ Q (.int (i * j)) H
 | _, _ => False
def DY : R2 := fun x y H Q => match x, y with
 | .int i, .int j => (0 < j) /\ Q (.int (i % j)) H
 | _, _ => False
def AI : R2 := fun x y H Q => match x, y with
 | .int i, .int j => (CDiv i j) /\ Q (.int (i / j)) H
 | _, _ => False
def DW : R2 := fun x y H Q => match x, y with
 | .int i, .int j => (CPow i j) /\ Q (.int (i ^ j.toNat)) H
 | _, _ => False
def rLtC : R2 := fun x y H Q => match x, y with
 | .int i, .int j => Q (.bl (decide (i < j))) H
 | _, _ => False
def rLeC : R2 := fun x y H Q => match x, y with
 | .int i, .int j => Q (.bl (decide (i <= j))) H
 | _, _ => False
def rGtC : R2 := fun x y H Q => match x, y with
 | .int i, .int j => Q (.bl (decide (j < i))) H
 | _, _ => False
def rGeC : R2 := fun x y H Q => match x, y with
 | .int i, .int j => Q (.bl (decide (j <= i))) H
 | _, _ => False
def cAdd (K : aA) : R2 := fun x y H Q => match x, y with
 | .int i, .int j => Q (.int (i + j)) H
 | .str a, .str b => a.length + b.length <= sizeLine /\ Q (.str (a ++ b)) H
 | .ref _, .ref _ => rCat x y H Q \/ rCatA K x y H Q
 | _, _ => False
theorem eZ : OpR X (binaryOp .Add) (cAdd X.K) := by
 refine cV (OpR.or (X := X) op_add (OpR.or op_add_str (OpR.or op_cat op_catA))) fun x y H Q h => ?_
 cases x with
 | int i => cases y with
  | int j => exact .inl ⟨i, j, rfl, rfl, h⟩
  | _ => exact h.elim
 | str i => cases y with
  | str j => exact .inr (.inl ⟨i, j, rfl, rfl, h.1, h.2⟩)
  | _ => exact h.elim
 | ref i => cases y with
  | ref j => exact .inr (.inr h)
  | _ => exact h.elim
 | _ => exact h.elim
theorem sE : OpR X (binaryOp .Sub) DV := cV op_sub fun x y H Q h => mF (g := fun i j => .int (i - j)) x y H Q h
theorem CB : OpR X (binaryOp .Mult) (rI IntMulOk fun i j => .int (i * j)) := opI fun _ _ _ _ _ _ _ hc q => mul_int q hc
theorem nG : OpR X (binaryOp .Mult) DX := cV CB fun x y H Q h => xM (C := IntMulOk) (g := fun i j => .int (i * j)) x y H Q h
theorem mulL {i j : Int} (h1 : -(2 ^ 64) < i) (h2 : i < 2 ^ 64) : IntMulOk i j := CMul.ok (.inl ⟨h1, h2⟩)
theorem mulR {i j : Int} (h1 : -(2 ^ 64) < j) (h2 : j < 2 ^ 64) : IntMulOk i j := CMul.ok (.inr ⟨h1, h2⟩)
theorem iI : OpR X (binaryOp .Mod) DY := cV op_mod fun x y H Q h => xM (C := fun _ j => 0 < j) (g := fun i j => .int (i % j)) x y H Q h
theorem kM : OpR X (binaryOp .FloorDiv) AI := cV op_fdiv fun x y H Q h => xM (C := CDiv) (g := fun i j => .int (i / j)) x y H Q h
theorem CA : OpR X (binaryOp .Pow) DW := cV op_pow fun x y H Q h => xM (C := CPow) (g := fun i j => .int (i ^ j.toNat)) x y H Q h
theorem oL : OpR X (compareOp .Lt) rLtC := cV op_lt fun x y H Q h => mF (g := fun i j => .bl (decide (i < j))) x y H Q h
theorem lS : OpR X (compareOp .LtE) rLeC := cV op_le fun x y H Q h => mF (g := fun i j => .bl (decide (i <= j))) x y H Q h
theorem AN : OpR X (compareOp .Gt) rGtC := cV op_gt fun x y H Q h => mF (g := fun i j => .bl (decide (j < i))) x y H Q h
theorem Ec : OpR X (compareOp .GtE) rGeC := cV op_ge fun x y H Q h => mF (g := fun i j => .bl (decide (j <= i))) x y H Q h
def cNeg : V -> Hp -> VK -> Prop := fun x H Q => match x with
 | .int i => Q (.int (-i)) H
 | _ => False
theorem Br : UnR X (unaryOp .USub) cNeg := fun pins s σ H x v Q I rx h => un_neg pins s σ H x v Q I rx (by
 cases x with
 | int i => exact ⟨i, rfl, h⟩
 | _ => exact h.elim)
def cEq (K : aA) : R2 := fun x y H Q => match x, y with
 | .int i, .int j => Q (.bl (decide (i = j))) H
 | .str i, .str j => Q (.bl (decide (i = j))) H
 | _, _ => rEqD K x y H Q
def cNe (K : aA) : R2 := fun x y H Q => match x, y with
 | .int i, .int j => Q (.bl (!decide (i = j))) H
 | .str i, .str j => Q (.bl (!decide (i = j))) H
 | _, _ => rNeD K x y H Q
theorem dI {i j : Int} : decide (V.int i = V.int j) = decide (i = j) := by
 by_cases h : i = j
 ·rw [decide_eq_true h, h, decide_eq_true rfl]
 ·rw [decide_eq_false h, decide_eq_false fun e => h (V.int.inj e)]
theorem dS {i j : Str} : decide (V.str i = V.str j) = decide (i = j) := by
 by_cases h : i = j
 ·rw [decide_eq_true h, h, decide_eq_true rfl]
 ·rw [decide_eq_false h, decide_eq_false fun e => h (V.str.inj e)]
theorem eT (hu : X.A.units + 64 < cLine) : OpR X (compareOp .Eq) (cEq X.K) := by
 refine cV (OpR.or (X := X) op_eq (op_eqD hu)) fun x y H Q h => ?_
 cases x with
 | int i => cases y with
  | int j => exact .inl ⟨rfl, by rw [dI]; exact h⟩
  | _ => exact .inr h
 | str i => cases y with
  | str j => exact .inl ⟨rfl, by rw [dS]; exact h⟩
  | _ => exact .inr h
 | _ => exact .inr h
theorem oK (hu : X.A.units + 64 < cLine) : OpR X (compareOp .NotEq) (cNe X.K) := by
 refine cV (OpR.or (X := X) op_ne (op_neD hu)) fun x y H Q h => ?_
 cases x with
 | int i => cases y with
  | int j => exact .inl ⟨rfl, by rw [dI]; exact h⟩
  | _ => exact .inr h
 | str i => cases y with
  | str j => exact .inl ⟨rfl, by rw [dS]; exact h⟩
  | _ => exact .inr h
 | _ => exact .inr h
variable {a b c : Expr} {ta tb tc : TE} {pos : Pos}
def cT (K : aA) : V -> Hp -> (Bool -> Hp -> Prop) -> Prop := fun x H Q => match x with
 | .bl k => Q k H
 | .non => Q false H
 | .int i => Q (i != 0) H
 | x => ∃ k, TruV K x H k /\ Q k H
def cTest (K : aA) (t : TE) : TT := fun σ H Q => t σ H fun x H' => cT K x H' Q
theorem BX {K : aA} : ∀ x H Q, cT K x H Q -> ∃ k, TruV K x H k /\ Q k H := fun x H Q h => by
 cases x with
 | bl k => exact ⟨k, rfl, h⟩
 | non => exact ⟨false, rfl, h⟩
 | int i => exact ⟨_, rfl, h⟩
 | _ => exact h
theorem t_val (ha : PE X a ta) (he : ∀ whole, isTrue a X.env whole = (do let v <- whole; standAt a.pos; holding [v] (truthy v)) := by intro _; rfl) : PT X a (cTest X.K ta) := by
 refine ⟨fun pins s σ H Q I h => ?_⟩
 exact isTrue_plain (thn (ha.run pins s σ H _ I h) fun v s1 ⟨x, H1, I1, r1, q1⟩ => tru_ok pins s1 σ H1 x v Q I1 r1 (BX x H1 Q q1)) (he _)
def cB (t : TE) : TT := fun σ H Q => t σ H fun x H' => match x with
 | .bl k => Q k H'
 | _ => False
theorem DQ {op : CmpOp} {r : R2} (ho : OpR X (compareOp op) r) (ha : PE X a ta) (hb : PE X b tb) (hm : behindInMarks op b = false := by rfl) : PT X (.Compare a [op] [b] pos) (cB (tOp r ta tb)) := by
 refine ⟨fun pins s σ H Q I h => ?_⟩
 have h' : ta σ H fun x H1 => tb σ H1 fun y H2 => r x y H2 fun z H3 => (match z with | .bl k => Q k H3 | _ => False) := h
 refine wpAny_isTrue_Compare1 (thn (ha.run pins s σ H _ I h') fun v s1 ⟨x, H1, I1, r1, q1⟩ => thn (hb.run pins s1 σ H1 _ I1 q1) fun u s2 ⟨y, H2, I2, r2, q2⟩ => thn (ho pins s2 σ H2 x y v u _ I2 r1 r2 q2) fun d s3 hz => ?_) hm
 obtain ⟨z, H3, I3, r3, q3⟩ := hz;cases z with
 | bl k => cases r3; exact wpAny_truthy_bool ⟨H3, I3, q3⟩
 | _ => exact q3.elim
theorem e_cmp {op : CmpOp} {r : R2} (ho : OpR X (compareOp op) r) (ha : PE X a ta) (hb : PE X b tb) (hm : behindInMarks op b = false := by rfl) : PE X (.Compare a [op] [b] pos) (tOp r ta tb) := pe_cmpR ho ha hb hm
end
section
variable {X : Cx} {a b c : Expr} {ta tb tc : TE} {pos : Pos}
variable {rest : List Expr}
def cAndV (ta tb : TE) : TE := fun σ H Q => ta σ H fun x H1 => match x with
 | .bl c => if c = true then tb σ H1 Q else Q (.bl false) H1
 | _ => False
def cNotV (K : aA) (ta : TE) : TE := fun σ H Q => ta σ H fun x H1 => cT K x H1 fun k H2 => Q (.bl (!k)) H2
theorem E6 (ha : PE X a ta) (hb : PE X (.BoolOp .And (b :: rest) pos) tb) : PE X (.BoolOp .And (a :: b :: rest) pos) (cAndV ta tb) := by
 refine ⟨fun pins s σ H Q I h => ?_⟩
 refine BoolOp_and (thn (ha.run pins s σ H _ I h) fun v s1 hq => ?_)
 obtain ⟨x, H1, I1, r1, q1⟩ := hq;cases x with
 | bl c =>
  cases r1;refine wpAny_truthy_bool ?_
  cases c with
  | true => exact hb.run pins s1 σ H1 Q I1 q1
  | false => exact ⟨.bl false, H1, I1, rfl, q1⟩
 | _ => exact q1.elim
theorem e_not (ha : PE X a ta) : PE X (.UnaryOp .Not a pos) (cNotV X.K ta) := by
 refine ⟨fun pins s σ H Q I h => ?_⟩
 refine UnaryOp_ (thn (ha.run pins s σ H _ I h) fun v s1 hq => ?_)
 obtain ⟨x, H1, I1, r1, q1⟩ := hq;exact not_of (thn (tru_ok pins s1 σ H1 x v (fun c H2 => Q (.bl (!c)) H2) I1 r1 (BX x H1 _ q1)) fun c s2 ⟨H2, I2, q2⟩ => ⟨.bl (!c), H2, I2, rfl, q2⟩)
def sY (r r' : R2) (ta tb tc : TE) : TE := fun σ H Q => ta σ H fun x H1 => tb σ H1 fun y H2 => r x y H2 fun z H3 => match z with
 | .bl k => if k = true then tc σ H3 fun w' H4 => r' y w' H4 Q else Q (.bl false) H3
 | _ => False
theorem DF {op op' : CmpOp} {r r' : R2} (ho : OpR X (compareOp op) r) (ho' : OpR X (compareOp op') r') (ha : PE X a ta) (hb : PE X b tb) (hc : PE X c tc)
  (hm : lastMarks [op, op'] [b, c] = false := by with_unfolding_all rfl) : PE X (.Compare a [op, op'] [b, c] pos) (sY r r' ta tb tc) := by
 refine ⟨fun pins s σ H Q I h => ?_⟩
 refine Compare_chain (thn (ha.run pins s σ H _ I h) fun v s1 ⟨x, H1, I1, r1, q1⟩ => chain_link (thn (hb.run pins s1 σ H1 _ I1 q1) fun u s2 ⟨y, H2, I2, r2, q2⟩ =>
  thn (ho pins s2 σ H2 x y v u _ I2 r1 r2 q2) fun d s3 hz => ?_)) hm
 obtain ⟨z, H3, I3, r3, q3⟩ := hz;cases z with
 | bl k =>
  cases r3;refine wpAny_truthy_bool ?_
  cases k with
  | false => exact ite_ff ⟨.bl false, H3, I3, rfl, q3⟩
  | true => exact ite_tt (chain_last (thn (hc.run pins s3 σ H3 _ I3 q3) fun w' s4 ⟨z', H4, I4, r4, q4⟩ => ho' pins s4 σ H4 y z' u w' Q I4 r2 r4 q4))
 | _ => exact q3.elim
theorem Bt {op op' : CmpOp} {r r' : R2} (ho : OpR X (compareOp op) r) (ho' : OpR X (compareOp op') r') (ha : PE X a ta) (hb : PE X b tb) (hc : PE X c tc)
  (hm : lastMarks [op, op'] [b, c] = false := by with_unfolding_all rfl) : PT X (.Compare a [op, op'] [b, c] pos) (cB (sY r r' ta tb tc)) := by
 refine ⟨fun pins s σ H Q I h => ?_⟩
 refine isTrue_chain (thn (ha.run pins s σ H _ I h) fun v s1 ⟨x, H1, I1, r1, q1⟩ => test_link (thn (hb.run pins s1 σ H1 _ I1 q1) fun u s2 ⟨y, H2, I2, r2, q2⟩ =>
  thn (ho pins s2 σ H2 x y v u _ I2 r1 r2 q2) fun d s3 hz => ?_)) hm
 obtain ⟨z, H3, I3, r3, q3⟩ := hz;cases z with
 | bl k =>
  cases r3;refine wpAny_truthy_bool ?_
  cases k with
  | false => exact ite_ff ⟨H3, I3, q3⟩
  | true =>
   refine ite_tt (test_last (thn (hc.run pins s3 σ H3 _ I3 q3) fun w' s4 ⟨z', H4, I4, r4, q4⟩ => thn (ho' pins s4 σ H4 y z' u w' _ I4 r2 r4 q4) fun d' s5 hz2 => ?_))
   obtain ⟨z2, H5, I5, r5, q5⟩ := hz2;cases z2 with
   | bl k2 => cases r5; exact wpAny_truthy_bool ⟨H5, I5, q5⟩
   | _ => exact q5.elim
 | _ => exact q3.elim
def cIx (K : aA) : R2 := fun x y H Q => match x, y with
 | .ref p, .int i => ∃ xs v, (SqL K H p xs \/ SqT K H p xs) /\ atI xs i = some v /\ Q v H
 | .str z, .int i => z.length <= sizeLine /\ ∃ c, atI z.cps.toList i = some c /\ Q (.str ⟨#[c]⟩) H
 | _, _ => False
theorem ix_C : IxR X (cIx X.K) := xQ ix_seq fun x y H Q h => by
 cases x with
 | ref p => cases y with
  | int i =>
   obtain ⟨xs, v, h1 | h1, h2, q⟩ := h
   ·exact .inl ⟨p, xs, i, v, rfl, rfl, h1, h2, q⟩
   ·exact .inr (.inl ⟨p, xs, i, v, rfl, rfl, h1, h2, q⟩)
  | _ => exact h.elim
 | str z => cases y with
  | int i =>
   obtain ⟨h1, c, h2, q⟩ := h;exact .inr (.inr ⟨z, i, c, rfl, rfl, h1, h2, q⟩)
  | _ => exact h.elim
 | _ => exact h.elim
theorem e_ix (ha : PE X a ta) (hb : PE X b tb) (hs : PlainIx b := by intro _ _; rfl) : PE X (.Subscript a b pos) (tOp (cIx X.K) ta tb) := pe_ix ix_C ha hb hs
def cLen (K : aA) : V -> Hp -> VK -> Prop := fun x H Q => match x with
 | .str z => z.length <= sizeLine /\ Q (.int z.length) H
 | .ref p => ∃ ys, (SqL K H p ys \/ SqT K H p ys) /\ Q (.int ys.length) H
 | _ => False
def c1 (r : V -> Hp -> VK -> Prop) : List V -> Hp -> VK -> Prop := fun xs H Q => match xs with
 | [x] => r x H Q
 | _ => False
theorem e_len {p : Pos} (hm : X.mg "len" = none) (ha : PE X a ta) (hg : Gl X "len" := by rfl) (hs : starEach [a] X.env = [(false, eval a X.env)] := by rfl) : PE X (.Call (.Name "len" p) [a] [] pos) (tCB (c1 (cLen X.K)) (tCons ta tNil)) :=
 pe_callB (eW (CallR.or call_len_seq call_len_str) fun xs H Q h => by
  match xs, h with
  | [x], h =>
   cases x with
   | str z => exact .inr ⟨z, rfl, h.1, h.2⟩
   | ref p =>
    obtain ⟨ys, h1, q⟩ := h;exact .inl ⟨p, ys, rfl, h1, q⟩
   | _ => exact h.elim) hg hm boot_len (pa_cons ha pa_nil hs) (he := hs)
def cInt : V -> Hp -> VK -> Prop := fun x H Q => match x with
 | .int i => Q (.int i) H
 | .bl k => Q (.int (if k then 1 else 0)) H
 | _ => False
theorem e_int {p : Pos} (hm : X.mg "int" = none) (ha : PE X a ta) (hg : Gl X "int" := by rfl) (hs : starEach [a] X.env = [(false, eval a X.env)] := by rfl) : PE X (.Call (.Name "int" p) [a] [] pos) (tCB (c1 cInt) (tCons ta tNil)) :=
 pe_callTy (eW call_int1 fun xs H Q h => by
  match xs, h with
  | [x], h =>
   cases x with
   | int i => exact .inl ⟨i, rfl, h⟩
   | bl k => exact .inr ⟨k, rfl, h⟩
   | _ => exact h.elim) hg hm boot_int (pa_cons ha pa_nil hs) (he := hs)
def isTy (T n : String) : Bool := n == T || (n == "bool" && T == "int")
def kinds : List String := ["NoneType", "bool", "int", "str", "list", "tuple", "dict"]
def targets : List String := ["int", "bool", "str", "list", "tuple", "dict"]
theorem CG (K : aA) : (kinds.all fun n => targets.all fun T => decide (cA K (.type n) (.type T) = some (isTy T n))) = true := by kernel_rfl
theorem vK {K : aA} {n T : String} (hn : n ∈ kinds) (hT : T ∈ targets) : cA K (.type n) (.type T) = some (isTy T n) :=
 of_decide_eq_true (bH.mp (bH.mp (CG K) n hn) T hT)
def pR (K : aA) (H : Hp) (a : Addr) (n : String) : Prop := n ∈ ["list", "tuple", "dict"] /\ TyX K H (.ref a) (.type n)
def BZ (K : aA) (T : String) : V -> Hp -> VK -> Prop := fun x H Q => match x with
 | .non => Q (.bl false) H
 | .bl _ => Q (.bl (T == "bool" || T == "int")) H
 | .int _ => Q (.bl (T == "int")) H
 | .str _ => Q (.bl (T == "str")) H
 | .ref a => ∃ n, pR K H a n /\ Q (.bl (n == T)) H
 | _ => False
def cIsiL (K : aA) (T : String) : List V -> Hp -> VK -> Prop := fun xs H Q => match xs with
 | [x, .ty n] => if n = T then BZ K T x H Q else False
 | _ => False
theorem zH {T : String} (hT : T ∈ targets) : CallR X (.builtin "isinstance") (cIsiL X.K T) := eW call_isi fun xs H Q h => by
 match xs, h with
 | [x, .ty n], h =>
  have h0 : if n = T then BZ X.K T x H Q else False := h
  by_cases e : n = T
  case neg => rw [if_neg e] at h0; exact h0.elim
  rw [if_pos e] at h0
  replace h := h0
  subst e;have go : ∀ (k : String) (b : Bool), k ∈ kinds -> TyX X.K H x (.type k) -> b = isTy n k -> Q (.bl b) H -> rIsi X.K [x, .ty n] H Q := fun k b hk ty e q => ⟨x, .ty n, .type k, .type n, isTy n k, rfl, .ty n, ty, vK hk hT, by rw [<- e]; exact q⟩
  have h6 : n = "int" \/ n = "bool" \/ n = "str" \/ n = "list" \/ n = "tuple" \/ n = "dict" := by simpa [targets] using hT
  cases x with
  | non => exact go "NoneType" false (by decide) (.base .non) (by rcases h6 with e | e | e | e | e | e <;> subst e <;> decide) h
  | bl b => exact go "bool" _ (by decide) (.base (.bl b)) (by rcases h6 with e | e | e | e | e | e <;> subst e <;> decide) h
  | int b => exact go "int" _ (by decide) (.base (.int b)) (by rcases h6 with e | e | e | e | e | e <;> subst e <;> decide) h
  | str b => exact go "str" _ (by decide) (.base (.str b)) (by rcases h6 with e | e | e | e | e | e <;> subst e <;> decide) h
  | ref a =>
   obtain ⟨k, ⟨hk, ty⟩, q⟩ := h;have h3 : k = "list" \/ k = "tuple" \/ k = "dict" := by simpa using hk
   exact go k _ (by rcases h3 with e | e | e <;> subst e <;> decide) ty (by rcases h6 with e | e | e | e | e | e <;> rcases h3 with e' | e' | e' <;> subst e <;> subst e' <;> decide) q
  | _ => exact h.elim
def cIsE (K : aA) (T : String) (ta : TE) : TE := fun σ H Q => ta σ H fun x H1 => BZ K T x H1 Q
theorem e_isi {p q : Pos} {T : String} {y : Str} (hm : X.mg "isinstance" = none) (hmT : X.mg y = none) (ha : PE X a ta) (hT : T ∈ targets := by decide) (hv : bootBuiltins y = some (.type T) := by decide +kernel)
  (hg : Gl X "isinstance" := by rfl) (hgT : Gl X y := by rfl) (hn : y ≠ "__name__" := by decide) (hd : (y == ("__debug__" : Str)) = false := by decide) (hs : starEach [a, .Name y q] X.env = (false, eval a X.env) :: starEach [.Name y q] X.env := by rfl) :
  PE X (.Call (.Name "isinstance" p) [a, .Name y q] [] pos) (cIsE X.K T ta) :=
 bM (pe_callB (zH hT) hg hm boot_isinstance (pa_cons ha (pa_cons (pe_bltn (v := .ty T) hgT hmT hv rfl hn hd) pa_nil) hs) (he := hs)) fun σ H Q h => by
  show ta σ H fun x H1 => if T = T then BZ X.K T x H1 Q else False
  simp only [if_true];exact h
def cAll (K : aA) : V -> Hp -> VK -> Prop := fun x H Q => match x with
 | .ref p => ∃ bs : List Bool, SqL K H p (bs.map V.bl) /\ Q (.bl (bs.all id)) H
 | _ => False
theorem e_all {p : Pos} (hm : X.mg "all" = none) (ha : PE X a ta) (hc : X.calm = true := by rfl) (hg : Gl X "all" := by rfl) (hs : starEach [a] X.env = [(false, eval a X.env)] := by rfl) : PE X (.Call (.Name "all" p) [a] [] pos) (tCB (c1 (cAll X.K)) (tCons ta tNil)) :=
 pe_callB (eW (cr_all hc) fun xs H Q h => by
  match xs, h with
  | [x], h =>
   cases x with
   | ref p =>
    obtain ⟨bs, h1, q⟩ := h;exact ⟨p, bs, rfl, h1, q⟩
   | _ => exact h.elim) hg hm boot_all (pa_cons ha pa_nil hs) (he := hs)
def E7 (K : aA) : V -> Hp -> VK -> Prop := fun x H Q => match x with
 | .ref p => ∃ ys, (SqL K H p ys \/ SqT K H p ys) /\ ∀ l, H l = none -> Q (.ref l) (upd H l (.lst ys))
 | _ => False
theorem G4 {p : Pos} (hm : X.mg "list" = none) (ha : PE X a ta) (hg : Gl X "list" := by rfl) (hs : starEach [a] X.env = [(false, eval a X.env)] := by rfl) : PE X (.Call (.Name "list" p) [a] [] pos) (tCB (c1 (E7 X.K)) (tCons ta tNil)) :=
 pe_callTy (eW call_list_of fun xs H Q h => by
  match xs, h with
  | [x], h =>
   cases x with
   | ref p =>
    obtain ⟨bs, h1, q⟩ := h;exact ⟨p, bs, rfl, h1, q⟩
   | _ => exact h.elim) hg hm boot_list (pa_cons ha pa_nil hs) (he := hs)
def BW (K : aA) : V -> Hp -> VK -> Prop := fun x H Q => match x with
 | .ref p => ∃ ys, SqL K H p ys /\ ∀ l, H l = none -> Q (.ref l) (upd H l (.tup ys))
 | _ => False
theorem DE {p : Pos} (hm : X.mg "tuple" = none) (ha : PE X a ta) (hg : Gl X "tuple" := by rfl) (hs : starEach [a] X.env = [(false, eval a X.env)] := by rfl) : PE X (.Call (.Name "tuple" p) [a] [] pos) (tCB (c1 (BW X.K)) (tCons ta tNil)) :=
 pe_callTy (eW call_tuple_of fun xs H Q h => by
  match xs, h with
  | [x], h =>
   cases x with
   | ref p =>
    obtain ⟨ys, h1, q⟩ := h;exact ⟨p, ys, rfl, .inl ⟨h1, q⟩⟩
   | _ => exact h.elim) hg hm boot_tuple (pa_cons ha pa_nil hs) (he := hs)
end
def Ok (P : Program) (w : World) (K : aA) (mg : Str -> Option Value) (base : Heap) (k : Nat) (x : Str) (ps : List Str) (sp : Sp) : Prop :=
 ∃ fd, FnOk P w K mg base CX0 k (He.ga K x) fd ps sp /\ mg x = some (.ref (He.ga K x)) /\ jQ K (.ref (He.ga K x)) = true /\ Binds K fd ps [] /\ ∃ oc od osl, K.lookup (He.ga K x) = some ⟨oc, od, .func fd, osl⟩
section
variable {P : Program} {w : World} {K : aA} {mg : Str -> Option Value} {base : Heap}
abbrev nC (K : aA) (x : Str) (st : Stmt) : Prop := ∃ fd, FunD K x x (defArgs st) (defBody st) (defScope st) [] [] (He.ga K x) fd
end
section
variable {X : Cx} {o i e : Expr} {to ti te : TE} {pos tpos : Pos}
def xN : V -> V -> Hp -> VK -> Prop := fun x y H Q => match x, y with
 | .ref p, .int i => ∃ xs v, H p = some (.lst xs) /\ 0 <= i /\ xs[i.toNat]? = some v /\ Q v H
 | _, _ => False
theorem yN : PGet X xN := by
 intro pins s σ H o i ov iv Q I ro ri h;cases o with
 | ref p => cases i with
  | int k =>
   obtain ⟨xs, v, hp, h0, hx, q⟩ := h;cases ro;obtain ⟨t, rfl⟩ := ri;obtain ⟨its, r, pl, hz⟩ := I.list (.inl (.inl hp));obtain ⟨w, ew, rw'⟩ := r.get hx;have hl := r.length;have hn := line63;have hlt : k.toNat < xs.length := (aF.mp hx).1;exact wpAny_getItem_list pl.isList h0 (by omega) (by simpa using ew) ⟨v, H, I, rw', q⟩
  | _ => exact h.elim
 | _ => exact h.elim
def xK : V -> V -> V -> Hp -> (Hp -> Prop) -> Prop := fun o i v H Q => match o, i with
 | .ref p, .int k => ∃ xs, H p = some (.lst xs) /\ 0 <= k /\ k.toNat < xs.length /\ Q (upd H p (.lst (xs.set k.toNat v)))
 | _, _ => False
theorem qT : PSet X xK := by
 intro pins s σ H o i v ov iv u Q I ro ri rv h;refine set_list pins s σ H o i v ov iv u Q I ro ri rv ?_
 cases o with
 | ref p => cases i with
  | int k =>
   obtain ⟨xs, hp, h0, hk, q⟩ := h;exact ⟨p, xs, k, k.toNat, rfl, rfl, hp, by unfold ixN; rw [if_pos h0, if_pos (by omega)], q⟩
  | _ => exact h.elim
 | _ => exact h.elim
def cIp (r : R2) : TIp := fun x y H Q => r x y H Q
theorem CN : PIp X .Add (cIp rAddI) := fun pins s σ H x y v u Q I r1 r2 h => ip_add pins s σ H x y v u Q I r1 r2 (mF (g := fun i j => .int (i + j)) x y H Q h)
theorem EX {op : Operator} {tip : TIp} (ho : PE X o to) (hi : PE X i ti) (he : PE X e te) (hp : PIp X op tip)
  (ha : ∀ ov iv new, augStore i ov iv new = (do holding [new, ov, iv] (setItem ov iv new); release [new, ov, iv] []; pure .next) := by intros; rfl) : PS X (.AugAssign (.Subscript o i tpos) op e pos) (tAugS to ti te xN tip xK) :=
 ps_augS ho hi yN he hp qT ha
end
section
variable {X : Cx} {tg e : Expr} {te : TE} {pos p : Pos}
def DZ : R2 := fun x y H Q => match y with
 | .non => Q (.bl (decide (x = .non))) H
 | _ => False
def AH : R2 := fun x y H Q => match y with
 | .non => Q (.bl (!decide (x = .non))) H
 | _ => False
theorem kL : OpR X (compareOp .Is) DZ := cV op_isN fun x y H Q h => by
 cases y with
 | non => exact ⟨rfl, h⟩
 | _ => exact h.elim
theorem tY : OpR X (compareOp .IsNot) AH := cV op_notN fun x y H Q h => by
 cases y with
 | non => exact ⟨rfl, h⟩
 | _ => exact h.elim
def cPart (t : TE) : TO := fun σ H Q => t σ H fun x H1 => match x with
 | .int i => Q (some i) H1
 | _ => False
theorem AK (h : PE X e te) : PO X (some e) (cPart te) := by
 refine ⟨fun pins s σ H Q I hw => ?_⟩
 rw [evalPart_some];refine thn (h.run pins s σ H _ I hw) fun u s1 hq => ?_
 obtain ⟨x, H1, I1, r1, q1⟩ := hq;cases x with
 | int i =>
  obtain ⟨t, rfl⟩ := r1;exact ⟨some i, H1, I1, .int i t, q1⟩
 | _ => exact q1.elim
theorem DL {r u : V -> Option Int -> Option Int -> Hp -> VK -> Prop} (h : SlR X r) (i : ∀ x lo hi H Q, u x lo hi H Q -> r x lo hi H Q) : SlR X u := by
 intro pins s σ H x v vl vu lo hi sl Q I rx hs pl pu q;exact h pins s σ H x v vl vu lo hi sl Q I rx hs pl pu (i x lo hi H Q q)
def cSl (K : aA) : V -> Option Int -> Option Int -> Hp -> VK -> Prop := fun x lo hi H Q => match x with
 | .ref a => (∃ xs, SqL K H a xs /\ ∀ p, H p = none -> Q (.ref p) (upd H p (.lst (cutV xs lo hi)))) \/ (∃ xs, SqT K H a xs /\
  (HT.sIx xs.length 0 lo = 0 /\ HT.sIx xs.length xs.length hi = xs.length -> Q (.ref a) H) /\ (¬ (HT.sIx xs.length 0 lo = 0 /\ HT.sIx xs.length xs.length hi = xs.length) -> ∀ p, H p = none -> Q (.ref p) (upd H p (.tup (cutV xs lo hi)))))
 | .str z => z.length <= sizeLine /\ Q (.str (cutS z lo hi)) H
 | _ => False
theorem sl_C : SlR X (cSl X.K) := DL (SlR.or sl_list (SlR.or sl_tupA sl_str)) fun x lo hi H Q h => by
 cases x with
 | ref a =>
  rcases h with ⟨xs, h1, q⟩ | ⟨xs, h1, q⟩
  ·exact .inl ⟨a, xs, rfl, h1, q⟩
  ·exact .inr (.inl ⟨a, xs, rfl, h1, q⟩)
 | str z => exact .inr (.inr ⟨z, rfl, h⟩)
 | _ => exact h.elim
def iSeq (K : aA) (tl : TE) : TI := fun σ H R => tl σ H fun x H1 => match x with
 | .ref a => ((∃ xs, SqL K H1 a xs) /\ R (Itl K a) H1) \/ ((∃ xs, SqT K H1 a xs) /\ R (Itt K a) H1)
 | _ => False
theorem AL (hl : PE X e te) : PI X tg e (iSeq X.K te) := by
 refine ⟨fun pins s σ H R I h => ?_⟩
 refine thn (hl.run pins s σ H _ I h) fun v s1 hq => ?_
 obtain ⟨x, H1, I1, r1, q1⟩ := hq;cases x with
 | ref a =>
  rcases q1 with ⟨h1, q⟩ | ⟨h1, q⟩
  ·cases r1
   obtain ⟨xs, hq⟩ := h1;obtain ⟨its, rv, p, hz⟩ := I1.list hq;refine wpAny_pyIter_list p.isList ?_
   refine ⟨s1.heap.objs.size, [s1.heap.objs.size], _, _, H1, rfl, I1.kept (t' := s1.toks) fun b o e => Heap.get?_push_of_some _ e, turn_list a _, ⟨_, Heap.get?_push_size _ rfl, rfl, rfl⟩, fun b hb => ?_, q⟩
   have e : b = s1.heap.objs.size := by simpa using hb
   subst e;exact I1.fpOk (cC _) (I1.hok.fresh (cC _))
  ·cases r1
   obtain ⟨xs, hq⟩ := h1;obtain ⟨its, rv, p, hz⟩ := I1.tuple hq;refine wpAny_pyIter_tuple (show s1.heap.IsTuple a its.toArray from p) ?_
   refine ⟨s1.heap.objs.size, [s1.heap.objs.size], _, _, H1, rfl, I1.kept (t' := s1.toks) fun b o e => Heap.get?_push_of_some _ e, turn_tuple a _, ⟨_, Heap.get?_push_size _ rfl, rfl, rfl⟩, fun b hb => ?_, q⟩
   have e : b = s1.heap.objs.size := by simpa using hb
   subst e;exact I1.fpOk (cC _) (I1.hok.fresh (cC _))
 | _ => exact q1.elim
def xO : V -> List V -> Hp -> VK -> Prop := fun x vs H Q => match x, vs with
 | .ref l, [y] => ∃ xs, H l = some (.lst xs) /\ xs.length < sizeLine /\ Q .non (upd H l (.lst (xs ++ [y])))
 | _, _ => False
theorem vJ : MtR X "list.append" xO := fun pins s σ H x xs v us Q I rx r h => mt_append pins s σ H x xs v us Q I rx r (by
 match x, xs, h with
 | .ref l, [y], ⟨xs, h1, h2, q⟩ => exact ⟨l, xs, y, rfl, rfl, h1, h2, q⟩)
def E9 (K : aA) (d : Addr) (neg : Bool) : R2 := fun x y H Q => match x, y with
 | .str z, .ref a => a = d /\ ∃ r, eN K d z = some r /\ Q (.bl (if neg then !r.isSome else r.isSome)) H
 | _, _ => False
theorem sF {d : Addr} (D : ∃ es n, KDict X.K X.w d es n) : OpR X (compareOp .NotIn) (E9 X.K d true) := by
 obtain ⟨es, n, D⟩ := D;refine cV (op_notIn_kd D) fun x y H Q h => ?_
 match x, y, h with
 | .str z, .ref a, ⟨e, r, h1, q⟩ => exact ⟨z, r, rfl, by rw [e], h1, q⟩
def cIxKd (K : aA) (d : Addr) : R2 := fun x y H Q => match x, y with
 | .ref a, .str z => a = d /\ ∃ u v, eN K d z = some (some u) /\ RelV v u /\ Q v H
 | _, _ => False
theorem F9 {d : Addr} (D : ∃ es n, KDict X.K X.w d es n) : IxR X (cIxKd X.K d) := by
 obtain ⟨es, n, D⟩ := D;refine xQ ix_kdict fun x y H Q h => ?_
 match x, y, h with
 | .ref a, .str z, ⟨e, u, v, h1, h2, q⟩ => exact ⟨d, z, v, by rw [e], rfl, ⟨es, n, u, D.at_, D.lit, h1, h2⟩, q⟩
end
def mX (P : Program) (w : World) (K : aA) (mg : Str -> Option Value) (base : Heap) (k : Nat) (x : Str) (ps : List Str) (sp : Sp) : Prop :=
 ∃ fd, FnOk P w K mg base (L2.CX P w) k (He.ga K x) fd ps sp /\ mg x = some (.ref (He.ga K x)) /\ jQ K (.ref (He.ga K x)) = true /\ Binds K fd ps []
section
variable {P : Program} {w : World} {K : aA} {mg : Str -> Option Value} {base : Heap}
theorem AQ {x : Str} {st : Stmt} {N ps : List Str} {k : Nat} {sp : Sp} (F : nC K x st) (g : mg x = some (.ref (He.ga K x))) (S : FnScope N ps (defScope st)) (len : ∀ vs H Q E, sp vs H Q E -> vs.length = ps.length)
  (bnd : ∀ (kV doc pm : Value) (an : Option Addr) (cdv ct : Value) (us : List Value), us.length = ps.length -> bindArgs (dH x x (defArgs st) (defBody st) (defScope st) .none kV doc pm an cdv ct) ⟨us, []⟩ = pure (ps.zip us))
  (hbody : ∀ (cdv : Value) (A : Around) (outer : List Env) (s : Shared) (H : Hp) (vs : List V) (Q : VK) (E : XK), Room k (A.deeper (envOfC x (defScope st) s.heap.objs.size (He.ga K x) cdv)) -> sp vs H Q E ->
   ∃ t, PSs (cxOf (L2.CX P w) P w K mg base N x (defScope st) (He.ga K x) cdv A outer s H E) (defBody st) t /\ t { nx := fun _ H' => Q .non H', rt := Q } (start N vs) H) : mX P w K mg base (k + 1) x ps sp := by
 obtain ⟨fd, F⟩ := F;refine ⟨fd, ?_, g, F.kp, F.bindsN bnd⟩
 obtain ⟨oc, od, dV, kV, doc, pm, an, cdv, ct, osl, e, lk, hc⟩ := F.ex;subst e;exact fn_of lk hc.1 S len fun A outer s H vs Q E hr hsp => hbody cdv A outer s H vs Q E hr hsp
end
def sx1 (p : V -> Hp -> VK -> XK -> Prop) : Sp := fun vs H Q E => match vs with
 | [a] => p a H Q E
 | _ => False
def wNo : WX := fun _ _ _ _ => False
def E8 (K : aA) (T U : String) : V -> Hp -> (Bool -> Prop) -> Prop := fun x H Q => match x with
 | .non => Q false
 | .bl _ => Q (isTy T "bool" || isTy U "bool")
 | .int _ => Q (isTy T "int" || isTy U "int")
 | .str _ => Q (isTy T "str" || isTy U "str")
 | .ref a => ∃ n, pR K H a n /\ Q (isTy T n || isTy U n)
 | _ => False
def BY (K : aA) (T U : String) : List V -> Hp -> VK -> Prop := fun xs H Q => match xs with
 | [x, .ref tp] => H tp = some (.tup [.ty T, .ty U]) /\ E8 K T U x H fun b => Q (.bl b) H
 | _ => False
def cIsE2 (K : aA) (T U : String) (ta : TE) : TE := tCB (BY K T U) (tCons ta (tCons (tTup (tCons (tC (.ty T)) (tCons (tC (.ty U)) tNil))) tNil))
section
variable {X : Cx} {a : Expr} {ta : TE} {pos p : Pos}
theorem CH {K : aA} {n T U : String} (hn : n ∈ kinds) (hT : T ∈ targets) (hU : U ∈ targets) : PySem.W.kitAny K (.type n) [.type T, .type U] = some (isTy T n || isTy U n) := by
 have h1 := vK (K := K) hn hT;have h2 := vK (K := K) hn hU;cases e1 : isTy T n with
 | true =>
  rw [e1] at h1;exact kitAny_cons h1 (fun z => by cases z) fun _ => rfl
 | false =>
  rw [e1] at h1;refine kitAny_cons h1 (fun _ => ?_) (fun z => by cases z)
  cases e2 : isTy U n with
  | true =>
   rw [e2] at h2;exact kitAny_cons h2 (fun z => by cases z) fun _ => rfl
  | false =>
   rw [e2] at h2;exact kitAny_cons h2 (fun _ => rfl) (fun z => by cases z)
theorem zI {T U : String} (hT : T ∈ targets) (hU : U ∈ targets) : CallR X (.builtin "isinstance") (BY X.K T U) := eW call_isiT fun xs H Q h => by
 match xs, h with
 | [x, .ref tp], ⟨ht, h⟩ =>
  have go : ∀ (k : String) (b : Bool), k ∈ kinds -> TyX X.K H x (.type k) -> b = (isTy T k || isTy U k) -> Q (.bl b) H -> rIsiT X.K [x, .ref tp] H Q := fun k b hk ty e q => ⟨x, tp, _, .type k, [.type T, .type U], _, rfl, ht, .cons (.ty T) (.cons (.ty U) .nil), ty, CH hk hT hU, by rw [<- e]; exact q⟩
  cases x with
  | non =>
   refine go "NoneType" false (by decide) (.base .non) ?_ h
   have : ∀ T ∈ targets, isTy T "NoneType" = false := by decide
   rw [this T hT, this U hU];rfl
  | bl b => exact go "bool" _ (by decide) (.base (.bl b)) rfl h
  | int b => exact go "int" _ (by decide) (.base (.int b)) rfl h
  | str b => exact go "str" _ (by decide) (.base (.str b)) rfl h
  | ref a =>
   obtain ⟨k, ⟨hk, ty⟩, q⟩ := h;have h3 : k = "list" \/ k = "tuple" \/ k = "dict" := by simpa using hk
   exact go k _ (by rcases h3 with e | e | e <;> subst e <;> decide) ty rfl q
  | _ => exact h.elim
theorem G5 {q1 q2 tpos : Pos} {j : Nat} {T U : String} {y z : Str} (hm : X.mg "isinstance" = none) (hmT : X.mg y = none) (hmU : X.mg z = none) (ha : PE X a ta) (hT : T ∈ targets := by decide) (hU : U ∈ targets := by decide)
  (hv : bootBuiltins y = some (.type T) := by decide +kernel) (hw : bootBuiltins z = some (.type U) := by decide +kernel) (hg : Gl X "isinstance" := by rfl) (hgT : Gl X y := by rfl) (hgU : Gl X z := by rfl) (hn : y ≠ "__name__" := by decide) (hd : (y == ("__debug__" : Str)) = false := by decide) (hn2 : z ≠ "__name__" := by decide) (hd2 : (z == ("__debug__" : Str)) = false := by decide)
  (hs : starEach [a, .Tuple [.Name y q1, .Name z q2] j tpos] X.env = (false, eval a X.env) :: starEach [.Tuple [.Name y q1, .Name z q2] j tpos] X.env := by rfl) :
  PE X (.Call (.Name "isinstance" p) [a, .Tuple [.Name y q1, .Name z q2] j tpos] [] pos) (cIsE2 X.K T U ta) :=
 pe_callB (zI hT hU) hg hm boot_isinstance (pa_cons ha (pa_cons (pe_tup (pa_cons (pe_bltn (v := .ty T) hgT hmT hv rfl hn hd) (pa_cons (pe_bltn (v := .ty U) hgU hmU hw rfl hn2 hd2) pa_nil))) pa_nil) hs) (he := hs)
end
abbrev FnM (K : aA) (C m q : Str) (st : Stmt) : Prop := ∃ fd, FunD K m q (defArgs st) (defBody st) (defScope st) [] [] (He.ma K (He.ga K C) m) fd
inductive TIt where
 | inl (d : D) | inr (n : Nat) | tup (xs : List TIt)
inductive Vl where
 | dat (d : D) | cel (n : Nat) | cels (ns : List Nat) | scr (ns : List Int) | tc (xs : List TIt)
inductive Cell where
 | dead | lst (xs : List D) | ins (C : Str) (fs : List (Str × Vl)) | dct (fs : List (Str × Vl)) | lv (xs : List Vl) | dki (ks : List Int) (xs : List Vl) | dkt (ks : List (Int × Int)) (xs : List Vl)
abbrev aM := List Cell
abbrev Ev := List (Option Vl)
structure Er where
 cls : Str
 ns : List Str := []
 xs : List D := []
inductive Res (α : Type) where
 | ok (a : α) (S : aM) | err (e : Er) (S : aM) | stuck
def Res.bind {α β : Type} (r : Res α) (k : α -> aM -> Res β) : Res β := match r with
 | .ok a S => k a S
 | .err e S => .err e S
 | .stuck => .stuck
def dP (φ : List Addr) (S : aM) (a : Addr) : Prop := ∃ (n : Nat) (c : Cell), S[n]? = some c /\ c ≠ .dead /\ φ[n]? = some a
def dW (B : Addr -> Prop) (φ : List Addr) (S : aM) (a : Addr) : Prop := B a \/ dP φ S a
mutual
/-- the tree d is at v -/
def Rep (K : aA) (Bk : Addr -> Prop) (H : Hp) : D -> V -> Prop
 | .non, v => v = .non
 | .bl b, v => v = .bl b
 | .int i, v => v = .int i
 | .str x, v => v = .str x
 | .lst ds, v => ∃ a vs, v = .ref a /\ ¬ Bk a /\ H a = some (.lst vs) /\ RepL K Bk H ds vs
 | .tup ds, v => ∃ a vs, v = .ref a /\ SqT K H a vs /\ RepL K Bk H ds vs
 | .ins C ns ds, v => ∃ a dx vs, v = .ref a /\ ¬ Bk a /\ H a = some (.ins (He.ga K C) dx (ns.zip vs)) /\ RepL K Bk H ds vs
 | .dct, v => ∃ a, v = .ref a /\ ¬ Bk a /\ H a = some (.dK [])
 | .opq none, v => ∃ a, v = .ref a
 | .opq (some k), v => ∃ a, v = .ref a /\ ¬ Bk a /\ H a = some (.tup [.int k.1, .int k.2])
def RepL (K : aA) (Bk : Addr -> Prop) (H : Hp) : List D -> List V -> Prop
 | [], vs => vs = []
 | d :: ds, vs => ∃ v ws, vs = v :: ws /\ Rep K Bk H d v /\ RepL K Bk H ds ws
end
structure Kp (Bk : Addr -> Prop) (H : Hp) (Bk' : Addr -> Prop) (H' : Hp) : Prop where
 old : ∀ b o, H b = some o -> ¬ Bk b -> H' b = some o /\ ¬ Bk' b
 tup : ∀ b u, Rd H b (.tup u) -> Rd H' b (.tup u)
theorem SqT.kp {K : aA} {H H' : Hp} {a : Addr} {vs : List V} (t : ∀ b u, Rd H b (.tup u) -> Rd H' b (.tup u)) (h : SqT K H a vs) : SqT K H' a vs := by
 rcases h with h | h
 ·exact .inl (t _ _ h)
 ·exact .inr h
mutual
theorem Rep.kp {K : aA} {Bk Bk' : Addr -> Prop} {H H' : Hp} (k' : Kp Bk H Bk' H') : ∀ (d : D) (v : V), Rep K Bk H d v -> Rep K Bk' H' d v
 | .non, v, h => h
 | .bl b, v, h => h
 | .int i, v, h => h
 | .str x, v, h => h
 | .lst ds, v, ⟨a, vs, e, nb, h, r⟩ => ⟨a, vs, e, (k'.old _ _ h nb).2, (k'.old _ _ h nb).1, RepL.kp k' ds vs r⟩
 | .tup ds, v, ⟨a, vs, e, h, r⟩ => ⟨a, vs, e, SqT.kp k'.tup h, RepL.kp k' ds vs r⟩
 | .ins C ns ds, v, ⟨a, dx, vs, e, nb, h, r⟩ => ⟨a, dx, vs, e, (k'.old _ _ h nb).2, (k'.old _ _ h nb).1, RepL.kp k' ds vs r⟩
 | .dct, v, ⟨a, e, nb, h⟩ => ⟨a, e, (k'.old _ _ h nb).2, (k'.old _ _ h nb).1⟩
 | .opq none, v, h => h
 | .opq (some k), v, ⟨a, e, nb, h⟩ => ⟨a, e, (k'.old _ _ h nb).2, (k'.old _ _ h nb).1⟩
theorem RepL.kp {K : aA} {Bk Bk' : Addr -> Prop} {H H' : Hp} (k : Kp Bk H Bk' H') : ∀ (ds : List D) (vs : List V), RepL K Bk H ds vs -> RepL K Bk' H' ds vs
 | [], vs, h => h
 | d :: ds, vs, ⟨v, ws, e, h1, h2⟩ => ⟨v, ws, e, Rep.kp k d v h1, RepL.kp k ds ws h2⟩
end
def ScrAt (K : aA) (H : Hp) (a : Addr) (vs : List V) : Prop := (∃ o, H a = some (.frz o (.lst vs))) \/ SqL K (fun _ => none) a vs
theorem ScrAt.sq {K : aA} {H : Hp} {a : Addr} {vs : List V} (h : ScrAt K H a vs) : SqL K H a vs := by
 rcases h with ⟨o, h⟩ | (h | ⟨o, h⟩) | h
 ·exact .inl (.inr ⟨o, h⟩)
 ·cases h
 ·cases h
 ·exact .inr h
theorem ScrAt.keep {K : aA} {H H' : Hp} {a : Addr} {vs : List V} (h : ScrAt K H a vs) (k : ∀ o u, H a = some (.frz o u) -> H' a = some (.frz o u)) : ScrAt K H' a vs := by
 rcases h with ⟨o, h⟩ | h
 ·exact .inl ⟨o, k _ _ h⟩
 ·exact .inr h
mutual
/-- an item of a tuple that holds cells -/
def RepI (K : aA) (Bk : Addr -> Prop) (φ : List Addr) (H : Hp) : TIt -> V -> Prop
 | .inl d, v => Rep K Bk H d v
 | .inr n, v => ∃ a, v = .ref a /\ φ[n]? = some a
 | .tup xs, v => ∃ a vs, v = .ref a /\ SqT K H a vs /\ RepIs K Bk φ H xs vs
def RepIs (K : aA) (Bk : Addr -> Prop) (φ : List Addr) (H : Hp) : List TIt -> List V -> Prop
 | [], vs => vs = []
 | x :: xs, vs => ∃ v ws, vs = v :: ws /\ RepI K Bk φ H x v /\ RepIs K Bk φ H xs ws
end
mutual
theorem RepI.kp {K : aA} {Bk Bk' : Addr -> Prop} {φ φ' : List Addr} {H H' : Hp} (k : Kp Bk H Bk' H') (hφ : ∀ (n : Nat) (a : Addr), φ[n]? = some a -> φ'[n]? = some a) : ∀ {x : TIt} {v : V}, RepI K Bk φ H x v -> RepI K Bk' φ' H' x v
 | .inl d, v, h => Rep.kp k d v h
 | .inr n, v, ⟨a, h1, h2⟩ => ⟨a, h1, hφ _ _ h2⟩
 | .tup xs, v, ⟨a, vs, h1, h2, h3⟩ => ⟨a, vs, h1, SqT.kp k.tup h2, RepIs.kp k hφ h3⟩
theorem RepIs.kp {K : aA} {Bk Bk' : Addr -> Prop} {φ φ' : List Addr} {H H' : Hp} (k : Kp Bk H Bk' H') (hφ : ∀ (n : Nat) (a : Addr), φ[n]? = some a -> φ'[n]? = some a) : ∀ {xs : List TIt} {vs : List V}, RepIs K Bk φ H xs vs -> RepIs K Bk' φ' H' xs vs
 | [], vs, h => h
 | x :: xs, vs, ⟨v, ws, e, h1, h2⟩ => ⟨v, ws, e, RepI.kp k hφ h1, RepIs.kp k hφ h2⟩
end
def RepV (K : aA) (B : Addr -> Prop) (φ : List Addr) (S : aM) (H : Hp) : Vl -> V -> Prop
 | .dat d, v => Rep K (dW B φ S) H d v
 | .cel n, v => ∃ a, v = .ref a /\ φ[n]? = some a
 | .cels ns, v => ∃ (a : Addr) (as : List Addr), v = .ref a /\ ¬ dW B φ S a /\ H a = some (.lst (as.map V.ref)) /\ ns.map (fun n => φ[n]?) = as.map some
 | .scr ns, v => ∃ a, v = .ref a /\ ScrAt K H a (ns.map V.int)
 | .tc xs, v => ∃ a vs, v = .ref a /\ SqT K H a vs /\ RepIs K (dW B φ S) φ H xs vs
def RepVs (K : aA) (B : Addr -> Prop) (φ : List Addr) (S : aM) (H : Hp) : List Vl -> List V -> Prop
 | [], vs => vs = []
 | d :: ds, vs => ∃ v ws, vs = v :: ws /\ RepV K B φ S H d v /\ RepVs K B φ S H ds ws
def RepF (K : aA) (B : Addr -> Prop) (φ : List Addr) (S : aM) (H : Hp) : List (Str × Vl) -> List (Str × V) -> Prop
 | [], vs => vs = []
 | d :: ds, vs => ∃ v ws, vs = (d.1, v) :: ws /\ RepV K B φ S H d.2 v /\ RepF K B φ S H ds ws
def kvOf (fs : List (Str × V)) : List (Key × V) := fs.map fun p => (Sum.inr p.1, p.2)
def kvI (ks : List Int) (vs : List V) : List (Key × V) := (ks.map Sum.inl).zip vs
def kvT (ks : List (Int × Int)) (vs : List V) : List (List Key × V) := (ks.map fun p => [Sum.inl p.1, Sum.inl p.2]).zip vs
def pS (K : aA) (B : Addr -> Prop) (φ : List Addr) (S : aM) (H : Hp) : Cell -> Addr -> Prop
 | .dead, _ => True
 | .lst ds, a => ∃ vs, H a = some (.lst vs) /\ RepL K (dW B φ S) H ds vs
 | .ins C fs, a => ∃ dx vfs, H a = some (.ins (He.ga K C) dx vfs) /\ RepF K B φ S H fs vfs
 | .dct fs, a => ∃ vfs, H a = some (.dK (kvOf vfs)) /\ RepF K B φ S H fs vfs
 | .lv xs, a => ∃ vs, H a = some (.lst vs) /\ RepVs K B φ S H xs vs
 | .dki ks xs, a => ∃ vs, H a = some (.dK (kvI ks vs)) /\ RepVs K B φ S H xs vs
 | .dkt ks xs, a => ∃ vs, H a = some (.dT (kvT ks vs)) /\ RepVs K B φ S H xs vs
structure GInv (K : aA) (B : Addr -> Prop) (φ : List Addr) (S : aM) (H : Hp) : Prop where
 len : φ.length = S.length
 ok : ∀ (n : Nat) (c : Cell) (a : Addr), S[n]? = some c -> φ[n]? = some a -> pS K B φ S H c a
 inj : ∀ (n m : Nat) (c c' : Cell) (a : Addr), S[n]? = some c -> c ≠ .dead -> S[m]? = some c' -> c' ≠ .dead -> φ[n]? = some a -> φ[m]? = some a -> n = m
 blk : ∀ a, dP φ S a -> ¬ B a
 btr : ∀ a, B a -> ∃ o, H a = some o
structure Ext (φ : List Addr) (S : aM) (H : Hp) (φ' : List Addr) (S' : aM) (H' : Hp) : Prop where
 old : ∀ b o, H b = some o -> ¬ dP φ S b -> H' b = some o /\ ¬ dP φ' S' b
 ids : ∀ (n : Nat) (a : Addr), φ[n]? = some a -> φ'[n]? = some a
section
variable {K : aA} {B : Addr -> Prop} {φ φ' φ₂ : List Addr} {S S' S₂ : aM} {H H' H₂ : Hp}
theorem Ext.refl : Ext φ S H φ S H := ⟨fun _ _ h n => ⟨h, n⟩, fun _ _ h => h⟩
theorem Ext.trans (a : Ext φ S H φ' S' H') (b : Ext φ' S' H' φ₂ S₂ H₂) : Ext φ S H φ₂ S₂ H₂ :=
 ⟨fun c o h n => b.old c o (a.old c o h n).1 (a.old c o h n).2, fun n x h => b.ids n x (a.ids n x h)⟩
theorem GInv.at_ (I : GInv K B φ S H) {a : Addr} (h : dP φ S a) : (∃ vs, H a = some (.lst vs)) \/ (∃ C dx fs, H a = some (.ins C dx fs)) \/ (∃ kvs, H a = some (.dK kvs)) \/ ∃ kvs, H a = some (.dT kvs) := by
 obtain ⟨n, c, h1, h2, h3⟩ := h;have q := I.ok n c a h1 h3;cases c with
 | dead => exact absurd rfl h2
 | lst ds => obtain ⟨vs, e, _⟩ := q; exact .inl ⟨vs, e⟩
 | ins C fs => obtain ⟨dx, vs, e, _⟩ := q; exact .inr (.inl ⟨_, dx, vs, e⟩)
 | dct fs => obtain ⟨vs, e, _⟩ := q; exact .inr (.inr (.inl ⟨_, e⟩))
 | lv xs => obtain ⟨vs, e, _⟩ := q; exact .inl ⟨vs, e⟩
 | dki ks xs => obtain ⟨vs, e, _⟩ := q; exact .inr (.inr (.inl ⟨_, e⟩))
 | dkt ks xs => obtain ⟨vs, e, _⟩ := q; exact .inr (.inr (.inr ⟨_, e⟩))
theorem GInv.some_ (I : GInv K B φ S H) {a : Addr} (h : dP φ S a) : H a ≠ none := by
 rcases I.at_ h with ⟨_, e⟩ | ⟨_, _, _, e⟩ | ⟨_, e⟩ | ⟨_, e⟩ <;> rw [e] <;> simp
theorem GInv.fresh (I : GInv K B φ S H) {a : Addr} (h : H a = none) : ¬ dP φ S a := fun q => I.some_ q h
theorem GInv.nblk (I : GInv K B φ S H) {a : Addr} (h : H a = none) : ¬ dW B φ S a := fun q => by
 rcases q with q | q
 ·obtain ⟨u, e⟩ := I.btr a q; rw [h] at e; cases e
 ·exact I.fresh h q
theorem GInv.ntup (I : GInv K B φ S H) {a : Addr} {xs : List V} (h : H a = some (.tup xs)) : ¬ dP φ S a := fun q => by
 rcases I.at_ q with ⟨_, e⟩ | ⟨_, _, _, e⟩ | ⟨_, e⟩ | ⟨_, e⟩ <;> rw [h] at e <;> cases e
theorem GInv.nfrz (I : GInv K B φ S H) {a : Addr} {o : Obj} {u : HO} (h : H a = some (.frz o u)) : ¬ dP φ S a := fun q => by
 rcases I.at_ q with ⟨_, e⟩ | ⟨_, _, _, e⟩ | ⟨_, e⟩ | ⟨_, e⟩ <;> rw [h] at e <;> cases e
theorem Ext.kp (e : Ext φ S H φ' S' H') (I : GInv K B φ S H) : Kp (dW B φ S) H (dW B φ' S') H' where
 old := fun b o h n => by
  obtain ⟨h1, h2⟩ := e.old b o h (fun q => n (.inr q))
  exact ⟨h1, fun q => by
   rcases q with q | q
   ·exact n (.inl q)
   ·exact h2 q⟩
 tup := fun b u h => by
  rcases h with h | ⟨o, h⟩
  ·exact .inl (e.old _ _ h (I.ntup h)).1
  ·exact .inr ⟨o, (e.old _ _ h (I.nfrz h)).1⟩
theorem sH (e : ∀ (n : Nat) (a : Addr), φ[n]? = some a -> φ'[n]? = some a) : ∀ (ns : List Nat) (as : List Addr), ns.map (fun n => φ[n]?) = as.map some -> ns.map (fun n => φ'[n]?) = as.map some
 | [], as, h => h
 | n :: ns, [], h => by simp at h
 | n :: ns, a :: as, h => by
  simp only [cS, List.cons.injEq] at h ⊢;exact ⟨e _ _ h.1, sH e ns as h.2⟩
theorem RepV.ext (e : Ext φ S H φ' S' H') (I : GInv K B φ S H) : ∀ {d : Vl} {v : V}, RepV K B φ S H d v -> RepV K B φ' S' H' d v
 | .dat d, v, h => Rep.kp (e.kp I) d v h
 | .cel n, v, ⟨a, h1, h2⟩ => ⟨a, h1, e.ids _ _ h2⟩
 | .cels ns, v, ⟨a, as, h1, h2, h3, h4⟩ => ⟨a, as, h1, ((e.kp I).old _ _ h3 h2).2, ((e.kp I).old _ _ h3 h2).1, sH e.ids ns as h4⟩
 | .scr ns, v, ⟨a, h1, h2⟩ => ⟨a, h1, h2.keep fun o u h => (e.old _ _ h (I.nfrz h)).1⟩
 | .tc xs, v, ⟨a, vs, h1, h2, h3⟩ => ⟨a, vs, h1, SqT.kp (e.kp I).tup h2, h3.kp (e.kp I) e.ids⟩
theorem RepVs.ext (e : Ext φ S H φ' S' H') (I : GInv K B φ S H) : ∀ {ds : List Vl} {vs : List V}, RepVs K B φ S H ds vs -> RepVs K B φ' S' H' ds vs
 | [], vs, h => h
 | d :: ds, vs, ⟨v, ws, e1, h1, h2⟩ => ⟨v, ws, e1, h1.ext e I, RepVs.ext e I h2⟩
theorem RepF.ext (e : Ext φ S H φ' S' H') (I : GInv K B φ S H) : ∀ {ds : List (Str × Vl)} {vs : List (Str × V)}, RepF K B φ S H ds vs -> RepF K B φ' S' H' ds vs
 | [], vs, h => h
 | d :: ds, vs, ⟨v, ws, e1, h1, h2⟩ => ⟨v, ws, e1, h1.ext e I, RepF.ext e I h2⟩
theorem Ext.repL (e : Ext φ S H φ' S' H') (I : GInv K B φ S H) {ds : List D} {vs : List V} (h : RepL K (dW B φ S) H ds vs) : RepL K (dW B φ' S') H' ds vs := RepL.kp (e.kp I) ds vs h
theorem cE {B' : Addr -> Prop} (hV : ∀ {d : Vl} {v : V}, RepV K B φ S H d v -> RepV K B' φ' S' H' d v) : ∀ {ds : List Vl} {vs : List V}, RepVs K B φ S H ds vs -> RepVs K B' φ' S' H' ds vs
 | [], vs, h => h
 | d :: ds, vs, ⟨v, ws, e1, h1, h2⟩ => ⟨v, ws, e1, hV h1, cE hV h2⟩
def RepE (K : aA) (B : Addr -> Prop) (φ : List Addr) (S : aM) (H : Hp) (ρ : Ev) (σ : L2.St) : Prop :=
 ρ.length = σ.length /\ ∀ (i : Nat) (d : Vl), ρ[i]? = some (some d) -> ∃ v, σ[i]? = some (some v) /\ RepV K B φ S H d v
theorem RepE.ext {ρ : Ev} {σ : L2.St} (e : Ext φ S H φ' S' H') (I : GInv K B φ S H) (h : RepE K B φ S H ρ σ) : RepE K B φ' S' H' ρ σ :=
 ⟨h.1, fun i d q => by
  obtain ⟨v, h1, h2⟩ := h.2 i d q;exact ⟨v, h1, h2.ext e I⟩⟩
theorem RepE.set {ρ : Ev} {σ : L2.St} {d : Vl} {v : V} (h : RepE K B φ S H ρ σ) (r : RepV K B φ S H d v) (i : Nat) : RepE K B φ S H (ρ.set i (some d)) (σ.set i (some v)) := by
 refine ⟨by simp [h.1], fun j d' q => ?_⟩
 rw [aK] at q ⊢
 by_cases e : i = j
 ·subst e
  rw [if_pos rfl] at q ⊢
  by_cases hl : i < ρ.length
  ·rw [if_pos hl] at q
   cases q;rw [if_pos (by rw [<- h.1]; exact hl)]
   exact ⟨v, rfl, r⟩
  ·rw [if_neg hl] at q; cases q
 ·rw [if_neg e] at q ⊢
  exact h.2 j d' q
theorem RepE.forget {ρ : Ev} {σ : L2.St} (h : RepE K B φ S H ρ σ) (i : Nat) : RepE K B φ S H (ρ.set i none) σ := by
 refine ⟨by simp [h.1], fun j d' q => ?_⟩
 rw [aK] at q
 by_cases e : i = j
 ·subst e
  rw [if_pos rfl] at q
  by_cases hl : i < ρ.length
  ·rw [if_pos hl] at q; cases q
  ·rw [if_neg hl] at q; cases q
 ·rw [if_neg e] at q
  exact h.2 j d' q
theorem iE {x : Cell} {p a : Addr} (hl : φ.length = S.length) : dP (φ ++ [p]) (S ++ [x]) a ↔ dP φ S a \/ (x ≠ .dead /\ a = p) := by
 constructor
 ·rintro ⟨n, c, h1, h2, h3⟩
  by_cases hn : n < S.length
  ·rw [aI hn] at h1
   rw [aI (by omega)] at h3
   exact .inl ⟨n, c, h1, h2, h3⟩
  ·have e : n = S.length := by
    have := (aF.mp h1).1;simp at this;omega
   subst e;rw [aS (cC _)] at h1;rw [<- hl, aS (cC _)] at h3;simp at h1 h3;subst h1;exact .inr ⟨h2, h3.symm⟩
 ·rintro (⟨n, c, h1, h2, h3⟩ | ⟨h, rfl⟩)
  ·exact ⟨n, c, by rw [aI (aF.mp h1).1]; exact h1, h2, by rw [aI (aF.mp h3).1]; exact h3⟩
  ·exact ⟨S.length, x, by simp, h, by rw [<- hl]; simp⟩
theorem Ext.new {p : Addr} {o : HO} (I : GInv K B φ S H) (hp : H p = none) : Ext φ S H φ S (upd H p o) :=
 ⟨fun b u h n => ⟨by rw [upd_ne (ne_of_none h hp)]; exact h, n⟩, fun _ _ h => h⟩
theorem GInv.mono {o : Ext φ S H φ S H'} (I : GInv K B φ S H) (h : ∀ (n : Nat) (c : Cell) (a : Addr), S[n]? = some c -> c ≠ .dead -> φ[n]? = some a -> H' a = H a) : GInv K B φ S H' where
 len := I.len
 ok := fun n c a h1 h2 => by
  have q := I.ok n c a h1 h2;cases c with
  | dead => trivial
  | lst ds => obtain ⟨vs, e, r⟩ := q; exact ⟨vs, by rw [h n _ a h1 (by simp) h2]; exact e, o.repL I r⟩
  | ins C fs => obtain ⟨dx, vs, e, r⟩ := q; exact ⟨dx, vs, by rw [h n _ a h1 (by simp) h2]; exact e, r.ext o I⟩
  | dct fs => obtain ⟨vs, e, r⟩ := q; exact ⟨vs, by rw [h n _ a h1 (by simp) h2]; exact e, r.ext o I⟩
  | lv xs => obtain ⟨vs, e, r⟩ := q; exact ⟨vs, by rw [h n _ a h1 (by simp) h2]; exact e, r.ext o I⟩
  | dki ks xs => obtain ⟨vs, e, r⟩ := q; exact ⟨vs, by rw [h n _ a h1 (by simp) h2]; exact e, r.ext o I⟩
  | dkt ks xs => obtain ⟨vs, e, r⟩ := q; exact ⟨vs, by rw [h n _ a h1 (by simp) h2]; exact e, r.ext o I⟩
 inj := I.inj
 blk := I.blk
 btr := fun a h => by
  obtain ⟨u, e⟩ := I.btr a h;exact ⟨u, (o.old a u e fun q => I.blk a q h).1⟩
theorem GInv.new {p : Addr} {o : HO} (I : GInv K B φ S H) (hp : H p = none) : GInv K B φ S (upd H p o) :=
 GInv.mono (o := Ext.new I hp) I fun n c a h1 h2 h3 => by
  rw [upd_ne];intro e;subst e;exact I.fresh hp ⟨n, c, h1, h2, h3⟩
theorem Ext.newC {p : Addr} {o : HO} {x : Cell} (I : GInv K B φ S H) (hp : H p = none) : Ext φ S H (φ ++ [p]) (S ++ [x]) (upd H p o) where
 old := fun b u h n => by
  have hb : b ≠ p := ne_of_none h hp;exact ⟨by rw [upd_ne hb]; exact h, fun q => by
   rcases (iE I.len).mp q with q | ⟨_, q⟩
   ·exact n q
   ·exact hb q⟩
 ids := fun n a h => by rw [aI (aF.mp h).1]; exact h
theorem GInv.newC {p : Addr} {o : HO} {x : Cell} (I : GInv K B φ S H) (hp : H p = none) (hx : x ≠ .dead -> pS K B (φ ++ [p]) (S ++ [x]) (upd H p o) x p) : GInv K B (φ ++ [p]) (S ++ [x]) (upd H p o) where
 len := by simp [I.len]
 ok := fun n c a h1 h2 => by
  by_cases hn : n < S.length
  ·rw [aI hn] at h1
   rw [aI (by rw [I.len]; exact hn)] at h2
   have q := I.ok n c a h1 h2;have ex := Ext.newC (o := o) (x := x) I hp;have ha : c ≠ .dead -> upd H p o a = H a := fun hc => by
    rw [upd_ne];intro e;subst e;exact I.fresh hp ⟨n, c, h1, hc, h2⟩
   cases c with
   | dead => trivial
   | lst ds => obtain ⟨vs, e, r⟩ := q; exact ⟨vs, by rw [ha (by simp)]; exact e, ex.repL I r⟩
   | ins C fs => obtain ⟨dx, vs, e, r⟩ := q; exact ⟨dx, vs, by rw [ha (by simp)]; exact e, r.ext ex I⟩
   | dct fs => obtain ⟨vs, e, r⟩ := q; exact ⟨vs, by rw [ha (by simp)]; exact e, r.ext ex I⟩
   | lv xs => obtain ⟨vs, e, r⟩ := q; exact ⟨vs, by rw [ha (by simp)]; exact e, r.ext ex I⟩
   | dki ks xs => obtain ⟨vs, e, r⟩ := q; exact ⟨vs, by rw [ha (by simp)]; exact e, r.ext ex I⟩
   | dkt ks xs => obtain ⟨vs, e, r⟩ := q; exact ⟨vs, by rw [ha (by simp)]; exact e, r.ext ex I⟩
  ·have e : n = S.length := by
    have := (aF.mp h1).1;simp at this;omega
   subst e;rw [aS (cC _)] at h1;rw [<- I.len, aS (cC _)] at h2;simp at h1 h2;subst h1 h2;cases x with
   | dead => trivial
   | _ => exact hx (by simp)
 inj := fun n m c c' a h1 h2 h3 h4 h5 h6 => by
  have key : ∀ (n : Nat) (c : Cell), (S ++ [x])[n]? = some c -> (n < S.length /\ S[n]? = some c) \/ n = S.length := fun n c h => by
   by_cases hn : n < S.length
   ·rw [aI hn] at h; exact .inl ⟨hn, h⟩
   ·have := (aF.mp h).1
    simp at this;exact .inr (by omega)
  have kφ : ∀ n : Nat, n < S.length -> (φ ++ [p])[n]? = φ[n]? := fun n hn => aI (by rw [I.len]; exact hn)
  have kp : (φ ++ [p])[S.length]? = some p := by rw [<- I.len]; simp
  rcases key n c h1 with ⟨hn, e1⟩ | e1 <;> rcases key m c' h3 with ⟨hm, e2⟩ | e2
  ·rw [kφ n hn] at h5
   rw [kφ m hm] at h6;exact I.inj n m c c' a e1 h2 e2 h4 h5 h6
  ·subst e2
   rw [kp] at h6;cases h6;rw [kφ n hn] at h5;exact absurd ⟨n, c, e1, h2, h5⟩ (I.fresh hp)
  ·subst e1
   rw [kp] at h5;cases h5;rw [kφ m hm] at h6;exact absurd ⟨m, c', e2, h4, h6⟩ (I.fresh hp)
  ·omega
 blk := fun a h => by
  rcases (iE I.len).mp h with h | ⟨_, h⟩
  ·exact I.blk a h
  ·rw [h]; intro q; obtain ⟨u, e⟩ := I.btr p q; rw [hp] at e; cases e
 btr := fun a h => by
  obtain ⟨u, e⟩ := I.btr a h;exact ⟨u, by rw [upd_ne (ne_of_none e hp)]; exact e⟩
theorem rK {n : Nat} {c x : Cell} {a : Addr} (h : S[n]? = some c) (hc : c ≠ .dead) (hx : x ≠ .dead) : dP φ (S.set n x) a ↔ dP φ S a := by
 constructor
 ·rintro ⟨m, c', h1, h2, h3⟩
  rw [aK] at h1
  by_cases e : n = m
  ·subst e
   exact ⟨n, c, h, hc, h3⟩
  ·rw [if_neg e] at h1
   exact ⟨m, c', h1, h2, h3⟩
 ·rintro ⟨m, c', h1, h2, h3⟩
  by_cases e : n = m
  ·subst e
   exact ⟨n, x, by rw [aK, if_pos rfl, if_pos (aF.mp h).1], hx, h3⟩
  ·exact ⟨m, c', by rw [aK, if_neg e]; exact h1, h2, h3⟩
theorem pP {n : Nat} {a : Addr} (h : dP φ (S.set n .dead) a) : dP φ S a := by
 obtain ⟨m, c', h1, h2, h3⟩ := h;rw [aK] at h1
 by_cases e : n = m
 ·rw [if_pos e] at h1
  by_cases hl : n < S.length
  ·rw [if_pos hl] at h1; cases h1; exact absurd rfl h2
  ·rw [if_neg hl] at h1; cases h1
 ·rw [if_neg e] at h1
  exact ⟨m, c', h1, h2, h3⟩
theorem Ext.put {n : Nat} {c x : Cell} {a : Addr} {o : HO} (hn : S[n]? = some c) (hc : c ≠ .dead) (ha : φ[n]? = some a) (hx : x ≠ .dead) : Ext φ S H φ (S.set n x) (upd H a o) where
 old := fun b u h nb => by
  have hb : b ≠ a := fun e => by subst e; exact nb ⟨n, c, hn, hc, ha⟩
  exact ⟨by rw [upd_ne hb]; exact h, fun q => nb ((rK hn hc hx).mp q)⟩
 ids := fun _ _ h => h
theorem GInv.put {n : Nat} {c x : Cell} {a : Addr} {o : HO} (I : GInv K B φ S H) (hn : S[n]? = some c) (hc : c ≠ .dead) (ha : φ[n]? = some a) (hx : x ≠ .dead) (ok : pS K B φ (S.set n x) (upd H a o) x a) : GInv K B φ (S.set n x) (upd H a o) where
 len := by simp [I.len]
 ok := fun m c' b h1 h2 => by
  by_cases e : n = m
  ·subst e
   rw [aK, if_pos rfl, if_pos (aF.mp hn).1] at h1;cases h1;rw [ha] at h2;cases h2;exact ok
  ·rw [aK, if_neg e] at h1
   have q := I.ok m c' b h1 h2;have ex := Ext.put (H := H) (o := o) hn hc ha hx;have hb : c' ≠ .dead -> upd H a o b = H b := fun hc' => upd_ne fun e2 => by
    subst e2;exact e (I.inj n m c c' b hn hc h1 hc' ha h2)
   cases c' with
   | dead => trivial
   | lst ds => obtain ⟨vs, e, r⟩ := q; exact ⟨vs, by rw [hb (by simp)]; exact e, ex.repL I r⟩
   | ins C fs => obtain ⟨dx, vs, e, r⟩ := q; exact ⟨dx, vs, by rw [hb (by simp)]; exact e, r.ext ex I⟩
   | dct fs => obtain ⟨vs, e, r⟩ := q; exact ⟨vs, by rw [hb (by simp)]; exact e, r.ext ex I⟩
   | lv xs => obtain ⟨vs, e, r⟩ := q; exact ⟨vs, by rw [hb (by simp)]; exact e, r.ext ex I⟩
   | dki ks xs => obtain ⟨vs, e, r⟩ := q; exact ⟨vs, by rw [hb (by simp)]; exact e, r.ext ex I⟩
   | dkt ks xs => obtain ⟨vs, e, r⟩ := q; exact ⟨vs, by rw [hb (by simp)]; exact e, r.ext ex I⟩
 inj := fun i j d d' b h1 h2 h3 h4 h5 h6 => by
  have key : ∀ (i : Nat) (d : Cell), (S.set n x)[i]? = some d -> d ≠ .dead -> ∃ d0, S[i]? = some d0 /\ d0 ≠ .dead := fun i d h hd => by
   by_cases e : n = i
   ·subst e; exact ⟨c, hn, hc⟩
   ·rw [aK, if_neg e] at h; exact ⟨d, h, hd⟩
  obtain ⟨d0, e1, e2⟩ := key i d h1 h2;obtain ⟨d1, e3, e4⟩ := key j d' h3 h4;exact I.inj i j d0 d1 b e1 e2 e3 e4 h5 h6
 blk := fun b h => I.blk b ((rK hn hc hx).mp h)
 btr := fun b h => by
  obtain ⟨u, e⟩ := I.btr b h;exact ⟨u, by rw [upd_ne]; exact e; intro q; subst q; exact I.blk b ⟨n, c, hn, hc, ha⟩ h⟩
theorem Ext.kill {n : Nat} : Ext φ S H φ (S.set n .dead) H := ⟨fun b o h nb => ⟨h, fun q => nb (pP q)⟩, fun _ _ h => h⟩
theorem GInv.kill {n : Nat} (I : GInv K B φ S H) : GInv K B φ (S.set n .dead) H where
 len := by simp [I.len]
 ok := fun m c' b h1 h2 => by
  by_cases e : n = m
  ·rw [aK, if_pos e] at h1
   by_cases hl : n < S.length
   ·rw [if_pos hl] at h1; cases h1; trivial
   ·rw [if_neg hl] at h1; cases h1
  ·rw [aK, if_neg e] at h1
   have q := I.ok m c' b h1 h2;have ex := Ext.kill (φ := φ) (S := S) (H := H) (n := n);cases c' with
   | dead => trivial
   | lst ds => obtain ⟨vs, e, r⟩ := q; exact ⟨vs, e, ex.repL I r⟩
   | ins C fs => obtain ⟨dx, vs, e, r⟩ := q; exact ⟨dx, vs, e, r.ext ex I⟩
   | dct fs => obtain ⟨vs, e, r⟩ := q; exact ⟨vs, e, r.ext ex I⟩
   | lv xs => obtain ⟨vs, e, r⟩ := q; exact ⟨vs, e, r.ext ex I⟩
   | dki ks xs => obtain ⟨vs, e, r⟩ := q; exact ⟨vs, e, r.ext ex I⟩
   | dkt ks xs => obtain ⟨vs, e, r⟩ := q; exact ⟨vs, e, r.ext ex I⟩
 inj := fun i j d d' b h1 h2 h3 h4 h5 h6 => by
  have key : ∀ (i : Nat) (d : Cell), (S.set n .dead)[i]? = some d -> d ≠ .dead -> S[i]? = some d := fun i d h hd => by
   rw [aK] at h
   by_cases e : n = i
   ·rw [if_pos e] at h
    by_cases hl : n < S.length
    ·rw [if_pos hl] at h; cases h; exact absurd rfl hd
    ·rw [if_neg hl] at h; cases h
   ·rw [if_neg e] at h; exact h
  exact I.inj i j d d' b (key i d h1 h2) h2 (key j d' h3 h4) h4 h5 h6
 blk := fun b h => I.blk b (pP h)
 btr := I.btr
theorem GInv.killed {n : Nat} {c : Cell} {a : Addr} (I : GInv K B φ S H) (hn : S[n]? = some c) (hc : c ≠ .dead) (ha : φ[n]? = some a) : ¬ dW B φ (S.set n .dead) a := fun q => by
 rcases q with q | ⟨m, c', h1, h2, h3⟩
 ·exact I.blk a ⟨n, c, hn, hc, ha⟩ q
 ·rw [aK] at h1
  by_cases e : n = m
  ·rw [if_pos e] at h1
   by_cases hl : n < S.length
   ·rw [if_pos hl] at h1; cases h1; exact h2 rfl
   ·rw [if_neg hl] at h1; cases h1
  ·rw [if_neg e] at h1
   exact e (I.inj n m c c' a hn hc h1 h2 ha h3)
end
abbrev FE := Ev -> aM -> Res Vl
abbrev FT := Ev -> aM -> Res Bool
abbrev FA := Ev -> aM -> Res (List Vl)
abbrev FO := Ev -> aM -> Res (Option Int)
abbrev Rl (α β : Type) := (Addr -> Prop) -> List Addr -> aM -> Hp -> α -> β -> Prop
def zL (K : aA) (B : Addr -> Prop) (φ : List Addr) (S : aM) (H : Hp) (e : Er) (c : Value) (x : Option Addr) : Prop :=
 c = .ref (He.ga K e.cls) /\ ((e.ns = [] /\ x = none) \/ ∃ d vs, x = some d /\ H d = some (.xd (e.ns.zip vs)) /\ RepL K (dW B φ S) H e.xs vs)
section
variable {α β α' β' : Type}
def Fin (K : aA) (W : WX) (σ : L2.St) (R : Rl α β) (B : Addr -> Prop) (φ : List Addr) (S : aM) (H : Hp) (r : Res α) (Q : β -> Hp -> Prop) : Prop := match r with
 | .ok d S' => ∀ φ' v H', GInv K B φ' S' H' -> Ext φ S H φ' S' H' -> R B φ' S' H' d v -> Q v H'
 | .err e S' => ∀ φ' c x H', GInv K B φ' S' H' -> Ext φ S H φ' S' H' -> zL K B φ' S' H' e c x -> W c x σ H'
 | .stuck => False
def rd (K : aA) (W : WX) (R : Rl α β) (m : Ev -> aM -> Res α) : L2.St -> Hp -> (β -> Hp -> Prop) -> Prop := fun σ H Q =>
 ∃ B φ S ρ, GInv K B φ S H /\ RepE K B φ S H ρ σ /\ Fin K W σ R B φ S H (m ρ S) Q
end
def RB : Rl Bool Bool := fun _ _ _ _ b c => c = b
def RO : Rl (Option Int) (Option Int) := fun _ _ _ _ b c => c = b
abbrev bV (K : aA) (W : WX) (m : FE) : TE := rd K W (RepV K) m
abbrev nF (K : aA) (W : WX) (m : FT) : TT := rd K W RB m
abbrev zU (K : aA) (W : WX) (m : FA) : TA := rd K W (RepVs K) m
abbrev rdO (K : aA) (W : WX) (m : FO) : TO := rd K W RO m
section
variable {α β α' β' : Type} {K : aA} {W : WX} {σ : L2.St} {R : Rl α β} {R' : Rl α' β'} {B : Addr -> Prop} {φ φ' : List Addr} {S S' : aM} {H H' : Hp}
theorem Fin.ext {r : Res α} {Q : β -> Hp -> Prop} (f : Fin K W σ R B φ S H r Q) (e : Ext φ S H φ' S' H') : Fin K W σ R B φ' S' H' r Q := by
 cases r with
 | ok d S1 => exact fun φ1 v H1 I1 X r => f φ1 v H1 I1 (e.trans X) r
 | err x S1 => exact fun φ1 c x H1 I1 X r => f φ1 c x H1 I1 (e.trans X) r
 | stuck => exact f
theorem bE {m : Ev -> aM -> Res α} {k : α -> Ev -> aM -> Res α'} {Q : β' -> Hp -> Prop} {Q1 : β -> Hp -> Prop} (h : rd K W R' (fun ρ S => (m ρ S).bind fun a S' => k a ρ S') σ H Q)
  (hk : ∀ B φ S ρ d v H1, GInv K B φ S H1 -> RepE K B φ S H1 ρ σ -> R B φ S H1 d v -> Fin K W σ R' B φ S H1 (k d ρ S) Q -> Q1 v H1) : rd K W R m σ H Q1 := by
 obtain ⟨B, φ, S, ρ, I, E, f⟩ := h;refine ⟨B, φ, S, ρ, I, E, ?_⟩
 dsimp only at f;cases e : m ρ S with
 | stuck => rw [e] at f; exact f
 | err x S' => rw [e] at f; exact f
 | ok d S' =>
  rw [e] at f;exact fun φ' v H' I' X r => hk B φ' S' ρ d v H' I' (E.ext X I) r (Fin.ext f X)
theorem eJ {ρ : Ev} {m : Ev -> aM -> Res α} {k : α -> aM -> Res α'} {Q : β' -> Hp -> Prop} {Q1 : β -> Hp -> Prop} (I : GInv K B φ S H) (E : RepE K B φ S H ρ σ) (f : Fin K W σ R' B φ S H ((m ρ S).bind k) Q)
  (hk : ∀ φ' S' d v H1, GInv K B φ' S' H1 -> Ext φ S H φ' S' H1 -> RepE K B φ' S' H1 ρ σ -> R B φ' S' H1 d v -> Fin K W σ R' B φ' S' H1 (k d S') Q -> Q1 v H1) : rd K W R m σ H Q1 := by
 refine ⟨B, φ, S, ρ, I, E, ?_⟩
 cases e : m ρ S with
 | stuck => rw [e] at f; exact f
 | err x S' => rw [e] at f; exact f
 | ok d S' =>
  rw [e] at f;exact fun φ' v H' I' X r => hk φ' S' d v H' I' X (E.ext X I) r (Fin.ext f X)
theorem Fin.now {d : α} {v : β} {Q : β -> Hp -> Prop} (f : Fin K W σ R B φ S H (.ok d S) Q) (I : GInv K B φ S H) (r : R B φ S H d v) : Q v H := f φ v H I Ext.refl r
end
def newL (c : Bool) (ds : List D) (S : aM) : Res Vl := if c then .ok (.cel S.length) (S ++ [.lst ds]) else .ok (.dat (.lst ds)) S
section
variable {K : aA} {W : WX} {σ : L2.St} {B : Addr -> Prop} {φ φ' : List Addr} {S S' : aM} {H H' : Hp} {Q : VK}
theorem mS {l : List Addr} {p : Addr} : (l ++ [p])[l.length]? = some p := by simp
theorem Fin.newT {ds : List D} {vs : List V} {p : Addr} (f : Fin K W σ (RepV K) B φ S H (.ok (.dat (.tup ds)) S) Q) (I : GInv K B φ S H) (r : RepL K (dW B φ S) H ds vs) (hp : H p = none) : Q (.ref p) (upd H p (.tup vs)) :=
 f φ _ _ (I.new hp) (Ext.new I hp) ⟨p, vs, rfl, .inl (.inl upd_same), (Ext.new I hp).repL I r⟩
theorem Fin.newL {c : Bool} {ds : List D} {vs : List V} {p : Addr} (f : Fin K W σ (RepV K) B φ S H (newL c ds S) Q) (I : GInv K B φ S H) (r : RepL K (dW B φ S) H ds vs) (hp : H p = none) : Q (.ref p) (upd H p (.lst vs)) := by
 unfold PH.newL at f;cases c with
 | false =>
  refine f φ _ _ (I.new hp) (Ext.new I hp) ⟨p, vs, rfl, I.nblk hp, upd_same, (Ext.new I hp).repL I r⟩
 | true =>
  have X := Ext.newC (o := .lst vs) (x := .lst ds) I hp;refine f (φ ++ [p]) _ _ (I.newC hp fun _ => ⟨vs, upd_same, X.repL I r⟩) X ⟨p, rfl, ?_⟩
  rw [<- I.len];exact mS
end
instance instIntMulOk (a b : Int) : Decidable (IntMulOk a b) := by unfold IntMulOk; infer_instance
instance instCDiv (a b : Int) : Decidable (CDiv a b) := by unfold CDiv; infer_instance
instance instCPow (a b : Int) : Decidable (CPow a b) := by unfold CPow; infer_instance
def lk : Ev -> Nat -> Option Vl
 | [], _ => none
 | x :: _, 0 => x
 | _ :: r, n + 1 => lk r n
theorem Dk : ∀ {ρ : Ev} {i : Nat} {d : Vl}, lk ρ i = some d -> ρ[i]? = some (some d)
 | [], _, _, h => by cases h
 | x :: _, 0, d, h => by
  have e : x = some d := h;rw [e]; rfl
 | _ :: r, n + 1, d, h => by
  have e := Dk (ρ := r) (i := n) (d := d) h
  simpa using e
def aE (i : Nat) : FE := fun ρ S => match lk ρ i with
 | some d => .ok d S
 | none => .stuck
def mC (d : D) : FE := fun _ S => .ok (.dat d) S
def aR (f : Vl -> Vl -> aM -> Res Vl) (a b : FE) : FE := fun ρ S => (a ρ S).bind fun x S1 => (b ρ S1).bind fun y S2 => f x y S2
def m1 (f : Vl -> aM -> Res Vl) (a : FE) : FE := fun ρ S => (a ρ S).bind fun x S1 => f x S1
def cN (K : aA) (r : R2) (f : Vl -> Vl -> aM -> Res Vl) : Prop := ∀ {W : WX} {σ : L2.St} {B : Addr -> Prop} {φ : List Addr} {S : aM} {H : Hp} {x y : V} {d e : Vl} {Q : VK}, GInv K B φ S H -> RepV K B φ S H d x -> RepV K B φ S H e y -> Fin K W σ (RepV K) B φ S H (f d e S) Q -> r x y H Q
def uU (K : aA) (r : V -> Hp -> VK -> Prop) (f : Vl -> aM -> Res Vl) : Prop := ∀ {W : WX} {σ : L2.St} {B : Addr -> Prop} {φ : List Addr} {S : aM} {H : Hp} {x : V} {d : Vl} {Q : VK}, GInv K B φ S H -> RepV K B φ S H d x -> Fin K W σ (RepV K) B φ S H (f d S) Q -> r x H Q
section
variable {X : Cx} {W : WX} {e a b c : Expr} {pos p : Pos} {x : Str}
theorem fv (i : Nat) (hN : X.N[i]? = some x := by rfl) (hv : Vis X.env.scope x := by first | exact qQ rfl | exact lJ (qQ rfl) | exact lJ (lJ rfl)) (hd : (x == ("__debug__" : Str)) = false := by decide)
  (hcd : (x == ("__classdict__" : Str)) = false := by decide) : PE X (.Name x pos) (bV X.K W (aE i)) := bM (pe_var hN hv hd hcd) fun σ H Q h => by
 obtain ⟨B, φ, S, ρ, I, E, f⟩ := h;unfold aE at f;cases q : lk ρ i with
 | none => rw [q] at f; exact f.elim
 | some d =>
  rw [q] at f;obtain ⟨v, h1, h2⟩ := E.2 i d (Dk q);exact ⟨v, h1, f.now I h2⟩
theorem D6 {v : V} {d : D} (h : PE X e (tC v)) (r : ∀ Bk H, Rep X.K Bk H d v) : PE X e (bV X.K W (mC d)) := bM h fun σ H Q h => by
 obtain ⟨B, φ, S, ρ, I, E, f⟩ := h;exact Fin.now (v := v) f I (r _ _)
theorem nU {K : aA} {r : R2} {f : Vl -> Vl -> aM -> Res Vl} {ma mb : FE} {σ : L2.St} {H : Hp} {Q : VK} (s : cN K r f) (h : bV K W (aR f ma mb) σ H Q) : tOp r (bV K W ma) (bV K W mb) σ H Q :=
 bE (k := fun x ρ S => (mb ρ S).bind fun y S2 => f x y S2) h fun B φ S ρ d v H1 I E r1 f' => eJ I E f' fun φ' S' e w H2 I2 X2 E2 r2 f2 => s I2 (r1.ext X2 I) r2 f2
theorem eK {op : Operator} {r : R2} {f : Vl -> Vl -> aM -> Res Vl} {ma mb : FE} (o : OpR X (binaryOp op) r) (s : cN X.K r f) (ha : PE X a (bV X.K W ma)) (hb : PE X b (bV X.K W mb)) : PE X (.BinOp a op b pos) (bV X.K W (aR f ma mb)) :=
 bM (pe_op o ha hb) fun σ H Q h => nU s h
theorem iO {op : CmpOp} {r : R2} {f : Vl -> Vl -> aM -> Res Vl} {ma mb : FE} (o : OpR X (compareOp op) r) (s : cN X.K r f) (ha : PE X a (bV X.K W ma)) (hb : PE X b (bV X.K W mb)) (hm : behindInMarks op b = false := by rfl) : PE X (.Compare a [op] [b] pos) (bV X.K W (aR f ma mb)) :=
 bM (e_cmp o ha hb hm) fun σ H Q h => nU s h
theorem A9 {K : aA} {r : V -> Hp -> VK -> Prop} {f : Vl -> aM -> Res Vl} {ma : FE} {σ : L2.St} {H : Hp} {Q : VK} (s : uU K r f) (h : bV K W (m1 f ma) σ H Q) : bV K W ma σ H fun x H1 => r x H1 Q :=
 bE (k := fun x ρ S => f x S) h fun B φ S ρ d v H1 I E r1 f' => s I r1 f'
def uN : Vl -> Vl -> aM -> Res Vl
 | .dat (.int i), .dat (.int j), S => .ok (.dat (.int (i - j))) S
 | _, _, _ => .stuck
def pH : Vl -> Vl -> aM -> Res Vl
 | .dat (.int i), .dat (.int j), S => if IntMulOk i j then .ok (.dat (.int (i * j))) S else .stuck
 | _, _, _ => .stuck
def qG : Vl -> Vl -> aM -> Res Vl
 | .dat (.int i), .dat (.int j), S => if 0 < j then .ok (.dat (.int (i % j))) S else .stuck
 | _, _, _ => .stuck
def mT : Vl -> Vl -> aM -> Res Vl
 | .dat (.int i), .dat (.int j), S => if CDiv i j then .ok (.dat (.int (i / j))) S else .stuck
 | _, _, _ => .stuck
def DC : Vl -> Vl -> aM -> Res Vl
 | .dat (.int i), .dat (.int j), S => if CPow i j then .ok (.dat (.int (i ^ j.toNat))) S else .stuck
 | _, _, _ => .stuck
def E5 : Vl -> Vl -> aM -> Res Vl
 | .dat (.int i), .dat (.int j), S => .ok (.dat (.bl (decide (i < j)))) S
 | _, _, _ => .stuck
def BL : Vl -> Vl -> aM -> Res Vl
 | .dat (.int i), .dat (.int j), S => .ok (.dat (.bl (decide (i <= j)))) S
 | _, _, _ => .stuck
def fGt : Vl -> Vl -> aM -> Res Vl
 | .dat (.int i), .dat (.int j), S => .ok (.dat (.bl (decide (j < i)))) S
 | _, _, _ => .stuck
def fGe : Vl -> Vl -> aM -> Res Vl
 | .dat (.int i), .dat (.int j), S => .ok (.dat (.bl (decide (j <= i)))) S
 | _, _, _ => .stuck
variable {K : aA}
theorem AC : cN K DV uN := fun {W σ B φ S H x y d e Q} I r1 r2 f => by
 unfold uN at f;split at f
 ·cases r1; cases r2; exact Fin.now f I rfl
 ·exact f.elim
theorem wL : cN K DX pH := fun {W σ B φ S H x y d e Q} I r1 r2 f => by
 unfold pH at f;split at f
 ·cases r1; cases r2
  split at f
  ·rename_i h; exact ⟨h, Fin.now f I rfl⟩
  ·exact f.elim
 ·exact f.elim
theorem oE : cN K DY qG := fun {W σ B φ S H x y d e Q} I r1 r2 f => by
 unfold qG at f;split at f
 ·cases r1; cases r2
  split at f
  ·rename_i h; exact ⟨h, Fin.now f I rfl⟩
  ·exact f.elim
 ·exact f.elim
theorem sA : cN K AI mT := fun {W σ B φ S H x y d e Q} I r1 r2 f => by
 unfold mT at f;split at f
 ·cases r1; cases r2
  split at f
  ·rename_i h; exact ⟨h, Fin.now f I rfl⟩
  ·exact f.elim
 ·exact f.elim
theorem s_pow : cN K DW DC := fun {W σ B φ S H x y d e Q} I r1 r2 f => by
 unfold DC at f;split at f
 ·cases r1; cases r2
  split at f
  ·rename_i h; exact ⟨h, Fin.now f I rfl⟩
  ·exact f.elim
 ·exact f.elim
theorem AF : cN K rLtC E5 := fun {W σ B φ S H x y d e Q} I r1 r2 f => by
 unfold E5 at f;split at f
 ·cases r1; cases r2; exact Fin.now f I rfl
 ·exact f.elim
theorem yC : cN K rLeC BL := fun {W σ B φ S H x y d e Q} I r1 r2 f => by
 unfold BL at f;split at f
 ·cases r1; cases r2; exact Fin.now f I rfl
 ·exact f.elim
theorem s_gt : cN K rGtC fGt := fun {W σ B φ S H x y d e Q} I r1 r2 f => by
 unfold fGt at f;split at f
 ·cases r1; cases r2; exact Fin.now f I rfl
 ·exact f.elim
theorem s_ge : cN K rGeC fGe := fun {W σ B φ S H x y d e Q} I r1 r2 f => by
 unfold fGe at f;split at f
 ·cases r1; cases r2; exact Fin.now f I rfl
 ·exact f.elim
def uO : Vl -> aM -> Res Vl
 | .dat (.int i), S => .ok (.dat (.int (-i))) S
 | _, _ => .stuck
theorem BI {ma : FE} (ha : PE X a (bV X.K W ma)) : PE X (.UnaryOp .USub a pos) (bV X.K W (m1 uO ma)) :=
 bM (pe_un Br ha) fun σ H Q h => A9 (r := cNeg) (fun {W σ B φ S H x d Q} I r f => by
  unfold uO at f;split at f
  ·cases r; exact Fin.now f I rfl
  ·exact f.elim) h
theorem RepL.len {Bk : Addr -> Prop} {H : Hp} : ∀ {ds : List D} {vs : List V}, RepL K Bk H ds vs -> vs.length = ds.length
 | [], vs, h => by cases h; rfl
 | d :: ds, vs, ⟨v, ws, e, _, h2⟩ => by subst e; simp [RepL.len h2]
theorem RepL.get {Bk : Addr -> Prop} {H : Hp} : ∀ {ds : List D} {vs : List V} {i : Nat} {d : D}, RepL K Bk H ds vs -> ds[i]? = some d -> ∃ v, vs[i]? = some v /\ Rep K Bk H d v
 | [], vs, i, d, h, q => by simp at q
 | d :: ds, vs, 0, d', ⟨v, ws, e, h1, h2⟩, q => by simp at q; subst q e; exact ⟨v, rfl, h1⟩
 | d :: ds, vs, i + 1, d', ⟨v, ws, e, h1, h2⟩, q => by
  subst e;obtain ⟨v', h3, h4⟩ := RepL.get (i := i) (d := d') h2 (by simpa using q)
  exact ⟨v', by simpa using h3, h4⟩
theorem RepL.append {Bk : Addr -> Prop} {H : Hp} : ∀ {ds es : List D} {vs ws : List V}, RepL K Bk H ds vs -> RepL K Bk H es ws -> RepL K Bk H (ds ++ es) (vs ++ ws)
 | [], es, vs, ws, h, h' => by cases h; exact h'
 | d :: ds, es, vs, ws, ⟨v, us, e, h1, h2⟩, h' => by subst e; exact ⟨v, us ++ ws, rfl, h1, RepL.append h2 h'⟩
theorem RepL.take {Bk : Addr -> Prop} {H : Hp} : ∀ {ds : List D} {vs : List V} (n : Nat), RepL K Bk H ds vs -> RepL K Bk H (ds.take n) (vs.take n)
 | ds, vs, 0, h => by simp [RepL]
 | [], vs, n + 1, h => by cases h; rfl
 | d :: ds, vs, n + 1, ⟨v, us, e, h1, h2⟩ => by subst e; exact ⟨v, us.take n, rfl, h1, RepL.take n h2⟩
theorem RepL.drop {Bk : Addr -> Prop} {H : Hp} : ∀ {ds : List D} {vs : List V} (n : Nat), RepL K Bk H ds vs -> RepL K Bk H (ds.drop n) (vs.drop n)
 | ds, vs, 0, h => h
 | [], vs, n + 1, h => by cases h; rfl
 | d :: ds, vs, n + 1, ⟨v, us, e, h1, h2⟩ => by subst e; exact RepL.drop n h2
theorem RepL.set {Bk : Addr -> Prop} {H : Hp} {d : D} {v : V} (r : Rep K Bk H d v) : ∀ {ds : List D} {vs : List V} (n : Nat), RepL K Bk H ds vs -> RepL K Bk H (ds.set n d) (vs.set n v)
 | [], vs, n, h => by cases h; rfl
 | _ :: ds, vs, 0, ⟨_, us, e, h1, h2⟩ => by subst e; exact ⟨v, us, rfl, r, h2⟩
 | d' :: ds, vs, n + 1, ⟨v', us, e, h1, h2⟩ => by subst e; exact ⟨v', us.set n v, rfl, h1, RepL.set r n h2⟩
theorem RepL.snoc {Bk : Addr -> Prop} {H : Hp} {ds : List D} {vs : List V} {d : D} {v : V} (h : RepL K Bk H ds vs) (r : Rep K Bk H d v) : RepL K Bk H (ds ++ [d]) (vs ++ [v]) := h.append ⟨v, [], rfl, r, rfl⟩
theorem RepL.atI {Bk : Addr -> Prop} {H : Hp} {ds : List D} {vs : List V} {i : Int} {d : D} (h : RepL K Bk H ds vs) (q : L2.atI ds i = some d) : ∃ v, L2.atI vs i = some v /\ Rep K Bk H d v := by
 unfold L2.atI at q ⊢;rw [h.len];cases e : ixN ds.length i with
 | none => rw [e] at q; cases q
 | some j =>
  rw [e] at q;exact h.get (i := j) q
theorem RepVs.len {B : Addr -> Prop} {φ : List Addr} {S : aM} {H : Hp} : ∀ {ds : List Vl} {vs : List V}, RepVs K B φ S H ds vs -> vs.length = ds.length
 | [], vs, h => by cases h; rfl
 | d :: ds, vs, ⟨v, ws, e, _, h2⟩ => by subst e; simp [RepVs.len h2]
def kH : List Vl -> Option (List D)
 | [] => some []
 | .dat d :: r => match kH r with
  | some ds => some (d :: ds)
  | none => none
 | _ :: _ => none
theorem nM {B : Addr -> Prop} {φ : List Addr} {S : aM} {H : Hp} : ∀ {xs : List Vl} {vs : List V} {ds : List D}, kH xs = some ds -> RepVs K B φ S H xs vs -> RepL K (dW B φ S) H ds vs
 | [], vs, ds, h, r => by cases h; exact r
 | .dat d :: xs, vs, ds, h, ⟨v, ws, e, h1, h2⟩ => by
  unfold kH at h;cases q : kH xs with
  | none => rw [q] at h; cases h
  | some es => rw [q] at h; cases h; exact ⟨v, ws, e, h1, nM q h2⟩
 | .cel _ :: xs, vs, ds, h, _ => by cases h
 | .cels _ :: xs, vs, ds, h, _ => by cases h
 | .scr _ :: xs, vs, ds, h, _ => by cases h
 | .tc _ :: xs, vs, ds, h, _ => by cases h
def eD (S : aM) : Vl -> Option (List D)
 | .dat (.lst xs) => some xs
 | .cel n => match S[n]? with
  | some (.lst xs) => some xs
  | _ => none
 | _ => none
theorem eC {B : Addr -> Prop} {φ : List Addr} {S : aM} {H : Hp} {d : Vl} {v : V} {xs : List D} (I : GInv K B φ S H) (h : eD S d = some xs) (r : RepV K B φ S H d v) : ∃ a vs, v = .ref a /\ H a = some (.lst vs) /\ RepL K (dW B φ S) H xs vs := by
 unfold eD at h;split at h
 ·cases h
  obtain ⟨a, vs, e, _, h1, h2⟩ := r;exact ⟨a, vs, e, h1, h2⟩
 ·rename_i n
  obtain ⟨a, e, h1⟩ := r;split at h
  ·rename_i ys q
   cases h;obtain ⟨vs, h2, h3⟩ := I.ok n _ a q h1;exact ⟨a, vs, e, h2, h3⟩
  ·cases h
 ·cases h
end
section
variable {X : Cx} {W : WX} {e a b c : Expr} {es rest : List Expr} {pos p : Pos} {x : Str} {K : aA} {ma mb mc : FE} {mt mu : FT} {mas : FA} {B : Addr -> Prop} {φ : List Addr} {S : aM} {H : Hp} {σ : L2.St} {Q : VK}
def gK (cl : Bool) (x y : Vl) (S : aM) : Res Vl := match x, y with
 | .dat (.int i), .dat (.int j) => .ok (.dat (.int (i + j))) S
 | .dat (.str a), .dat (.str b) => if a.length + b.length <= sizeLine then .ok (.dat (.str (a ++ b))) S else .stuck
 | .dat (.tup xs), .dat (.tup ys) => if xs.length + ys.length <= sizeLine then .ok (.dat (.tup (xs ++ ys))) S else .stuck
 | x, y => match eD S x, eD S y with
  | some xs, some ys => if xs.length + ys.length <= sizeLine then newL cl (xs ++ ys) S else .stuck
  | _, _ => .stuck
theorem jS {cl : Bool} : cN K (cAdd K) (gK cl) := fun {W σ B φ S H x y d e Q} I r1 r2 f => by
 unfold gK at f;split at f
 ·cases r1; cases r2; exact Fin.now f I rfl
 ·cases r1; cases r2
  split at f
  ·rename_i h; exact ⟨h, Fin.now f I rfl⟩
  ·exact f.elim
 ·rename_i xs ys
  obtain ⟨a, vs, rfl, h1, l1⟩ := r1;obtain ⟨b, ws, rfl, h2, l2⟩ := r2;split at f
  ·rename_i h
   refine lJ ⟨a, b, vs, ws, rfl, rfl, h1, h2, by rw [l1.len, l2.len]; exact h, fun e => ?_, fun e1 e2 => ?_, fun _ _ p hp => Fin.newT f I (l1.append l2) hp⟩
   ·have l := l1.append l2
    rw [e, bW] at l;exact Fin.now f I ⟨b, ws, rfl, h2, l⟩
   ·have l := l1.append l2
    rw [e2, List.append_nil] at l;exact Fin.now f I ⟨a, vs, rfl, h1, l⟩
  ·exact f.elim
 ·split at f
  ·rename_i xs ys q1 q2
   obtain ⟨a, vs, rfl, h1, l1⟩ := eC I q1 r1;obtain ⟨b, ws, rfl, h2, l2⟩ := eC I q2 r2;split at f
   ·rename_i h
    exact qQ ⟨a, b, vs, ws, rfl, rfl, h1, h2, by rw [l1.len, l2.len]; exact h, fun p hp => Fin.newL f I (l1.append l2) hp⟩
   ·exact f.elim
  ·exact f.elim
def bS (x y : Vl) (S : aM) : Res Vl := match x, y with
 | .dat (.tup xs), .dat (.int i) => match atI xs i with
  | some d => .ok (.dat d) S
  | none => .stuck
 | .dat (.str z), .dat (.int i) => if z.length <= sizeLine then (match atI z.cps.toList i with
  | some c => .ok (.dat (.str ⟨#[c]⟩)) S
  | none => .stuck) else .stuck
 | .cels ns, .dat (.int i) => match atI ns i with
  | some n => .ok (.cel n) S
  | none => .stuck
 | x, .dat (.int i) => match eD S x with
  | some xs => (match atI xs i with
   | some d => .ok (.dat d) S
   | none => .stuck)
  | none => .stuck
 | _, _ => .stuck
theorem tD {α β : Type} {f : α -> β} {xs : List α} {i : Int} : atI (xs.map f) i = (atI xs i).map f := by
 unfold atI;rw [bR];cases ixN xs.length i with
 | none => rfl
 | some j => simp
theorem s_ix : cN K (cIx K) bS := fun {W σ B φ S H x y d e Q} I r1 r2 f => by
 unfold bS at f;split at f
 ·cases r2
  obtain ⟨a, vs, rfl, h1, l1⟩ := r1;split at f
  ·rename_i q
   obtain ⟨v, h2, h3⟩ := l1.atI q;exact ⟨vs, v, .inr h1, h2, Fin.now f I h3⟩
  ·exact f.elim
 ·cases r1; cases r2
  split at f
  ·rename_i h
   split at f
   ·rename_i c q
    exact ⟨h, c, q, Fin.now f I rfl⟩
   ·exact f.elim
  ·exact f.elim
 ·rename_i ns i
  cases r2;obtain ⟨a, as, rfl, h1, h2, h3⟩ := r1;split at f
  ·rename_i n q
   have q2 : atI (ns.map fun n => φ[n]?) i = some φ[n]? := by rw [tD, q]; rfl
   rw [h3, tD] at q2;cases q3 : atI as i with
   | none => rw [q3] at q2; cases q2
   | some b =>
    rw [q3] at q2;refine ⟨as.map V.ref, .ref b, .inl (SqL.of h2), by rw [tD, q3]; rfl, Fin.now f I ⟨b, rfl, ?_⟩⟩
    simpa using q2.symm
  ·exact f.elim
 ·cases r2
  split at f
  ·rename_i xs q1
   obtain ⟨a, vs, rfl, h1, l1⟩ := eC I q1 r1;split at f
   ·rename_i q
    obtain ⟨v, h2, h3⟩ := l1.atI q;exact ⟨vs, v, .inl (SqL.of h1), h2, Fin.now f I h3⟩
   ·exact f.elim
  ·exact f.elim
 ·exact f.elim
theorem dG (ha : PE X a (bV X.K W ma)) (hb : PE X b (bV X.K W mb)) (hs : PlainIx b := by intro _ _; rfl) : PE X (.Subscript a b pos) (bV X.K W (aR bS ma mb)) := bM (e_ix ha hb hs) fun σ H Q h => nU s_ix h
mutual
def D.py : D -> Option PyData
 | .non => some .none
 | .bl b => some (.bool b)
 | .int i => some (.int i)
 | .str x => some (.str x)
 | .lst xs => match D.pys xs with
  | some ys => some (.list ys)
  | none => none
 | .tup xs => match D.pys xs with
  | some ys => some (.tuple ys)
  | none => none
 | .ins _ _ _ => none
 | .dct => none
 | .opq _ => none
def D.pys : List D -> Option (List PyData)
 | [] => some []
 | d :: ds => match D.py d, D.pys ds with
  | some x, some xs => some (x :: xs)
  | _, _ => none
end
mutual
theorem Rep.dp {Bk : Addr -> Prop} {H : Hp} : ∀ (d : D) (v : V) (p : PyData), d.py = some p -> Rep K Bk H d v -> Dp K H v p
 | .non, v, p, h, r => by cases h; cases r; exact .non
 | .bl b, v, p, h, r => by cases h; cases r; exact .bl b
 | .int b, v, p, h, r => by cases h; cases r; exact .int b
 | .str b, v, p, h, r => by cases h; cases r; exact .str b
 | .lst xs, v, p, h, ⟨a, vs, e, _, h1, h2⟩ => by
  subst e;unfold D.py at h;cases q : D.pys xs with
  | none => rw [q] at h; cases h
  | some ys => rw [q] at h; cases h; exact .lst (SqL.of h1) (RepL.dp xs vs ys q h2)
 | .tup xs, v, p, h, ⟨a, vs, e, h1, h2⟩ => by
  subst e;unfold D.py at h;cases q : D.pys xs with
  | none => rw [q] at h; cases h
  | some ys => rw [q] at h; cases h; exact .tup h1 (RepL.dp xs vs ys q h2)
 | .ins _ _ _, v, p, h, r => by cases h
 | .dct, v, p, h, r => by cases h
 | .opq _, v, p, h, r => by cases h
theorem RepL.dp {Bk : Addr -> Prop} {H : Hp} : ∀ (ds : List D) (vs : List V) (ps : List PyData), D.pys ds = some ps -> RepL K Bk H ds vs -> DpAll K H vs ps
 | [], vs, ps, h, r => by cases h; cases r; exact .nil
 | d :: ds, vs, ps, h, ⟨v, ws, e, h1, h2⟩ => by
  subst e;unfold D.pys at h;cases q1 : D.py d with
  | none => rw [q1] at h; cases h
  | some x =>
   cases q2 : D.pys ds with
   | none => rw [q1, q2] at h; cases h
   | some xs => rw [q1, q2] at h; cases h; exact .cons (Rep.dp d v x q1 h1) (RepL.dp ds ws xs q2 h2)
end
def wN (S : aM) : Vl -> Option PyData
 | .dat d => d.py
 | .cel n => match S[n]? with
  | some (.lst xs) => D.py (.lst xs)
  | _ => none
 | _ => none
def yF (S : aM) : List Vl -> Option (List PyData)
 | [] => some []
 | x :: r => match wN S x, yF S r with
  | some p, some ps => some (p :: ps)
  | _, _ => none
def jY (S : aM) : Vl -> Option PyData
 | .dat d => d.py
 | .cel n => match S[n]? with
  | some (.lst xs) => D.py (.lst xs)
  | some (.lv xs) => (match yF S xs with
   | some ps => some (.list ps)
   | none => none)
  | _ => none
 | _ => none
theorem AJ {d : Vl} {v : V} {p : PyData} (I : GInv K B φ S H) (h : wN S d = some p) (r : RepV K B φ S H d v) : Dp K H v p := by
 unfold wN at h;split at h
 ·exact Rep.dp _ _ _ h r
 ·rename_i n
  obtain ⟨a, rfl, h1⟩ := r;split at h
  ·rename_i xs q
   obtain ⟨vs, h2, h3⟩ := I.ok n _ a q h1;unfold D.py at h;cases q : D.pys xs with
   | none => rw [q] at h; cases h
   | some ys => rw [q] at h; cases h; exact .lst (SqL.of h2) (RepL.dp xs vs ys q h3)
  ·cases h
 ·cases h
theorem wM (I : GInv K B φ S H) : ∀ {xs : List Vl} {vs : List V} {ps : List PyData}, yF S xs = some ps -> RepVs K B φ S H xs vs -> DpAll K H vs ps
 | [], vs, ps, h, r => by cases h; cases r; exact .nil
 | x :: xs, vs, ps, h, ⟨v, ws, e, h1, h2⟩ => by
  subst e;unfold yF at h;cases q1 : wN S x with
  | none => rw [q1] at h; cases h
  | some p =>
   cases q2 : yF S xs with
   | none => rw [q1, q2] at h; cases h
   | some qs => rw [q1, q2] at h; cases h; exact .cons (AJ I q1 h1) (wM I q2 h2)
theorem eY {d : Vl} {v : V} {p : PyData} (I : GInv K B φ S H) (h : jY S d = some p) (r : RepV K B φ S H d v) : Dp K H v p := by
 unfold jY at h;split at h
 ·exact Rep.dp _ _ _ h r
 ·rename_i n
  obtain ⟨a, rfl, h1⟩ := r;split at h
  ·rename_i xs q
   obtain ⟨vs, h2, h3⟩ := I.ok n _ a q h1;unfold D.py at h;cases q : D.pys xs with
   | none => rw [q] at h; cases h
   | some ys => rw [q] at h; cases h; exact .lst (SqL.of h2) (RepL.dp xs vs ys q h3)
  ·rename_i xs q
   obtain ⟨vs, h2, h3⟩ := I.ok n _ a q h1;cases q : yF S xs with
   | none => rw [q] at h; cases h
   | some ys => rw [q] at h; cases h; exact .lst (SqL.of h2) (wM I q h3)
  ·cases h
 ·cases h
def shp (p q : PyData) : Bool := SeqAt.shaped p && SeqAt.shaped q
def iP (x y : Vl) (S : aM) : Res Vl := match x, y with
 | .dat (.int i), .dat (.int j) => .ok (.dat (.bl (decide (i = j)))) S
 | .dat (.str i), .dat (.str j) => .ok (.dat (.bl (decide (i = j)))) S
 | x, y => match jY S x, jY S y with
  | some p, some q => if shp p q = true then .ok (.dat (.bl (PyData.eqv p q))) S else .stuck
  | _, _ => .stuck
def zE (x y : Vl) (S : aM) : Res Vl := match x, y with
 | .dat (.int i), .dat (.int j) => .ok (.dat (.bl (!decide (i = j)))) S
 | .dat (.str i), .dat (.str j) => .ok (.dat (.bl (!decide (i = j)))) S
 | x, y => match jY S x, jY S y with
  | some p, some q => if shp p q = true then .ok (.dat (.bl (!PyData.eqv p q))) S else .stuck
  | _, _ => .stuck
theorem DK {x y : V} (h : rEqD K x y H Q) : cEq K x y H Q := by
 unfold cEq;split
 ·obtain ⟨d, e, h1, h2, _, _, q⟩ := h
  cases h1; cases h2;exact q
 ·obtain ⟨d, e, h1, h2, _, _, q⟩ := h
  cases h1; cases h2;exact q
 ·exact h
theorem DJ {x y : V} (h : rNeD K x y H Q) : cNe K x y H Q := by
 unfold cNe;split
 ·obtain ⟨d, e, h1, h2, _, _, q⟩ := h
  cases h1; cases h2;exact q
 ·obtain ⟨d, e, h1, h2, _, _, q⟩ := h
  cases h1; cases h2;exact q
 ·exact h
theorem s_eq : cN K (cEq K) iP := fun {W σ B φ S H x y d e Q} I r1 r2 f => by
 unfold iP at f;split at f
 ·cases r1; cases r2; exact Fin.now f I rfl
 ·cases r1; cases r2; exact Fin.now f I rfl
 ·split at f
  ·rename_i p q h1 h2
   split at f
   ·rename_i h
    obtain ⟨h3, h4⟩ := He.ba h;exact DK ⟨p, q, eY I h1 r1, eY I h2 r2, h3, h4, Fin.now f I rfl⟩
   ·exact f.elim
  ·exact f.elim
theorem AE : cN K (cNe K) zE := fun {W σ B φ S H x y d e Q} I r1 r2 f => by
 unfold zE at f;split at f
 ·cases r1; cases r2; exact Fin.now f I rfl
 ·cases r1; cases r2; exact Fin.now f I rfl
 ·split at f
  ·rename_i p q h1 h2
   split at f
   ·rename_i h
    obtain ⟨h3, h4⟩ := He.ba h;exact DJ ⟨p, q, eY I h1 r1, eY I h2 r2, h3, h4, Fin.now f I rfl⟩
   ·exact f.elim
  ·exact f.elim
def vX (neg : Bool) (x y : Vl) (S : aM) : Res Vl := match jY S x, jY S y with
 | some p, some (.list qs) => if shp p (.list qs) = true then .ok (.dat (.bl (if neg then !(qs.any fun z => PyData.eqv z p) else (qs.any fun z => PyData.eqv z p)))) S else .stuck
 | _, _ => .stuck
theorem s_in : cN K (rInD K) (vX false) := fun {W σ B φ S H x y d e Q} I r1 r2 f => by
 unfold vX at f;split at f
 ·rename_i p qs h1 h2
  split at f
  ·rename_i h
   obtain ⟨h3, h4⟩ := He.ba h;exact ⟨p, qs, eY I h1 r1, eY I h2 r2, h3, h4, Fin.now f I rfl⟩
  ·exact f.elim
 ·exact f.elim
theorem C0 : cN K (rNotInD K) (vX true) := fun {W σ B φ S H x y d e Q} I r1 r2 f => by
 unfold vX at f;split at f
 ·rename_i p qs h1 h2
  split at f
  ·rename_i h
   obtain ⟨h3, h4⟩ := He.ba h;exact ⟨p, qs, eY I h1 r1, eY I h2 r2, h3, h4, Fin.now f I rfl⟩
  ·exact f.elim
 ·exact f.elim
def isNon : Vl -> Bool
 | .dat .non => true
 | _ => false
def eV (neg : Bool) (x y : Vl) (S : aM) : Res Vl := match y with
 | .dat .non => .ok (.dat (.bl (if neg then !(isNon x) else isNon x))) S
 | _ => .stuck
theorem uE {d : Vl} {v : V} (r : RepV K B φ S H d v) : decide (v = .non) = isNon d := by
 cases d with
 | dat d =>
  cases d with
  | non => cases r; rfl
  | bl b => cases r; rfl
  | int b => cases r; rfl
  | str b => cases r; rfl
  | lst xs => obtain ⟨a, vs, rfl, _⟩ := r; rfl
  | tup xs => obtain ⟨a, vs, rfl, _⟩ := r; rfl
  | ins C ns xs => obtain ⟨a, dx, vs, rfl, _⟩ := r; rfl
  | dct => obtain ⟨a, rfl, _⟩ := r; rfl
  | opq k => cases k with
   | none => obtain ⟨a, rfl⟩ := r; rfl
   | some k => obtain ⟨a, rfl, _⟩ := r; rfl
 | cel n => obtain ⟨a, rfl, _⟩ := r; rfl
 | cels ns => obtain ⟨a, as, rfl, _⟩ := r; rfl
 | scr ns => obtain ⟨a, rfl, _⟩ := r; rfl
 | tc xs => obtain ⟨a, vs, rfl, _⟩ := r; rfl
theorem tW : cN K DZ (eV false) := fun {W σ B φ S H x y d e Q} I r1 r2 f => by
 unfold eV at f;split at f
 ·cases r2
  show Q (.bl (decide (x = .non))) H
  rw [uE r1];exact Fin.now f I rfl
 ·exact f.elim
theorem AD : cN K AH (eV true) := fun {W σ B φ S H x y d e Q} I r1 r2 f => by
 unfold eV at f;split at f
 ·cases r2
  show Q (.bl (!decide (x = .non))) H
  rw [uE r1];exact Fin.now f I rfl
 ·exact f.elim
def unB : Vl -> aM -> Res Bool
 | .dat (.bl b), S => .ok b S
 | _, _ => .stuck
def mB (a : FE) : FT := fun ρ S => (a ρ S).bind unB
theorem A8 {Q : Bool -> Hp -> Prop} (h : nF K W (mB ma) σ H Q) : bV K W ma σ H fun x H' => (match x with | .bl k => Q k H' | _ => False) :=
 bE (k := fun x _ S => unB x S) h fun B φ S ρ d v H1 I E r f => by
  unfold unB at f;split at f
  ·cases r; exact Fin.now f I rfl
  ·exact f.elim
theorem bZ {op : CmpOp} {r : R2} {f : Vl -> Vl -> aM -> Res Vl} (o : OpR X (compareOp op) r) (s : cN X.K r f) (ha : PE X a (bV X.K W ma)) (hb : PE X b (bV X.K W mb)) (hm : behindInMarks op b = false := by rfl) : PT X (.Compare a [op] [b] pos) (nF X.K W (mB (aR f ma mb))) :=
 pQ (DQ o ha hb hm) fun σ H Q h => nU s (A8 h)
def mY (x : Vl) (S : aM) : Res Bool := match x with
 | .dat .non => .ok false S
 | .dat (.bl b) => .ok b S
 | .dat (.int i) => .ok (i != 0) S
 | .dat (.str y) => if y.length <= sizeLine then .ok ((y.length : Int) != 0) S else .stuck
 | .dat (.tup xs) => .ok (!xs.isEmpty) S
 | x => match eD S x with
  | some xs => .ok (!xs.isEmpty) S
  | none => .stuck
theorem RepL.emp {Bk : Addr -> Prop} {ds : List D} {vs : List V} (h : RepL K Bk H ds vs) : (!ds.isEmpty) = !vs.isEmpty := by
 have := h.len;cases ds <;> cases vs <;> simp at this ⊢
theorem rP {d : Vl} {v : V} {Q : Bool -> Hp -> Prop} (I : GInv K B φ S H) (r : RepV K B φ S H d v) (f : Fin K W σ RB B φ S H (mY d S) Q) : cT K v H Q := by
 unfold mY at f;split at f
 ·cases r; exact Fin.now f I rfl
 ·cases r; exact Fin.now f I rfl
 ·cases r; exact Fin.now f I rfl
 ·cases r
  split at f
  ·rename_i h; exact ⟨_, ⟨h, rfl⟩, Fin.now f I rfl⟩
  ·exact f.elim
 ·obtain ⟨a, vs, rfl, h1, l1⟩ := r
  exact ⟨_, .inr (.inl ⟨vs, h1, l1.emp⟩), Fin.now f I rfl⟩
 ·split at f
  ·rename_i xs q1
   obtain ⟨a, vs, rfl, h1, l1⟩ := eC I q1 r;exact ⟨_, .inl ⟨vs, SqL.of h1, l1.emp⟩, Fin.now f I rfl⟩
  ·exact f.elim
def aZ (a : FE) : FT := fun ρ S => (a ρ S).bind mY
theorem bJ (ha : PE X a (bV X.K W ma)) (he : ∀ whole, isTrue a X.env whole = (do let v <- whole; standAt a.pos; holding [v] (truthy v)) := by intro _; rfl) : PT X a (nF X.K W (aZ ma)) :=
 pQ (t_val ha he) fun σ H Q h => bE (k := fun x _ S => mY x S) h fun B φ S ρ d v H1 I E r f => rP I r f
def kS (a b : FT) : FT := fun ρ S => (a ρ S).bind fun c S1 => if c = true then b ρ S1 else .ok false S1
def oV (a b : FT) : FT := fun ρ S => (a ρ S).bind fun c S1 => if c = true then .ok true S1 else b ρ S1
def cU (a : FT) : FT := fun ρ S => (a ρ S).bind fun c S1 => .ok (!c) S1
theorem Bg {e : Expr} {t u : TT} (h : PW X e t) (i : ∀ σ H Q, u σ H Q -> t σ H Q) : PW X e u := ⟨fun whole pins s σ H Q I q => h.run whole pins s σ H Q I (i σ H Q q)⟩
theorem Bx {Q : Bool -> Hp -> Prop} (h : nF K W (kS mt mu) σ H Q) : tAnd (nF K W mt) (nF K W mu) σ H Q :=
 bE (k := fun c ρ S => if c = true then mu ρ S else .ok false S) h fun B φ S ρ d v H1 I E r f => by
  have r : v = d := r;subst r;cases v with
  | true => exact ⟨B, φ, S, ρ, I, E, f⟩
  | false => exact Fin.now f I rfl
theorem ES {Q : Bool -> Hp -> Prop} (h : nF K W (oV mt mu) σ H Q) : tOr (nF K W mt) (nF K W mu) σ H Q :=
 bE (k := fun c ρ S => if c = true then .ok true S else mu ρ S) h fun B φ S ρ d v H1 I E r f => by
  have r : v = d := r;subst r;cases v with
  | false => exact ⟨B, φ, S, ρ, I, E, f⟩
  | true => exact Fin.now f I rfl
theorem kB (ha : PT X a (nF X.K W mt)) (hb : PW X (.BoolOp .And (b :: rest) pos) (nF X.K W mu)) : PW X (.BoolOp .And (a :: b :: rest) pos) (nF X.K W (kS mt mu)) := Bg (pw_and ha hb) fun σ H Q h => Bx h
theorem gQ (ha : PT X a (nF X.K W mt)) (hb : PW X (.BoolOp .Or (b :: rest) pos) (nF X.K W mu)) : PW X (.BoolOp .Or (a :: b :: rest) pos) (nF X.K W (oV mt mu)) := Bg (pw_or ha hb) fun σ H Q h => ES h
theorem cD (ha : PT X a (nF X.K W mt)) : PT X (.UnaryOp .Not a pos) (nF X.K W (cU mt)) := pQ (pt_not ha) fun σ H Q h =>
 bE (k := fun c _ S => .ok (!c) S) h fun B φ S ρ d v H1 I E r f => by cases r; exact Fin.now f I rfl
def eI (a b : FE) : FE := fun ρ S => (a ρ S).bind fun x S1 => match x with
 | .dat (.bl c) => if c = true then b ρ S1 else .ok (.dat (.bl false)) S1
 | _ => .stuck
def mOrV (a b : FE) : FE := fun ρ S => (a ρ S).bind fun x S1 => match x with
 | .dat (.bl c) => if c = true then .ok (.dat (.bl true)) S1 else b ρ S1
 | _ => .stuck
def wU (a : FE) : FE := fun ρ S => (a ρ S).bind fun x S1 => (mY x S1).bind fun k S2 => .ok (.dat (.bl (!k))) S2
theorem fL (ha : PE X a (bV X.K W ma)) (hb : PE X (.BoolOp .And (b :: rest) pos) (bV X.K W mb)) : PE X (.BoolOp .And (a :: b :: rest) pos) (bV X.K W (eI ma mb)) := bM (E6 ha hb) fun σ H Q h =>
 bE (k := fun x ρ S1 => match x with | .dat (.bl c) => if c = true then mb ρ S1 else .ok (.dat (.bl false)) S1 | _ => .stuck) h fun B φ S ρ d v H1 I E r f => by
  split at f
  ·rename_i c
   cases r;cases c with
   | true => exact ⟨B, φ, S, ρ, I, E, f⟩
   | false => exact Fin.now f I rfl
  ·exact f.elim
def Ek (a b : FE) : FE := fun ρ S => (a ρ S).bind fun x S1 => (mY x S1).bind fun k S2 => if k = true then .ok x S2 else b ρ S2
theorem tR {x : Vl} {k : Bool} {S' : aM} (h : mY x S = .ok k S') : S' = S := by
 unfold mY at h;split at h
 ·cases h; rfl
 ·cases h; rfl
 ·cases h; rfl
 ·split at h <;> cases h; rfl
 ·cases h; rfl
 ·split at h <;> cases h; rfl
theorem tru_V {d : Vl} {v : V} {k : Bool} (I : GInv K B φ S H) (r : RepV K B φ S H d v) (h : mY d S = .ok k S) : TruV K v H k := by
 obtain ⟨k', h1, h2⟩ := BX v H (fun b _ => b = k) (rP (W := wNo) (σ := []) I r (by
  rw [h];exact fun φ' v' H' _ _ r => r))
 rw [<- h2]; exact h1
theorem G1 (ha : PE X a (bV X.K W ma)) (hb : PE X (.BoolOp .Or (b :: rest) pos) (bV X.K W mb)) : PE X (.BoolOp .Or (a :: b :: rest) pos) (bV X.K W (Ek ma mb)) := bM (pe_orT ha hb) fun σ H Q h =>
 bE (k := fun x ρ S1 => (mY x S1).bind fun k S2 => if k = true then .ok x S2 else mb ρ S2) h fun B φ S ρ d v H1 I E r f => by
  cases q : mY d S with
  | stuck => rw [q] at f; exact f.elim
  | err e S' =>
   exfalso
   unfold mY at q;split at q <;> first | cases q | (split at q <;> cases q)
  | ok k S' =>
   have e := tR q;subst e;rw [q] at f;refine ⟨k, tru_V I r q, ?_⟩
   cases k with
   | true => exact Fin.now f I r
   | false => exact ⟨B, φ, S', ρ, I, E, f⟩
theorem G2 (ha : PE X a (bV X.K W ma)) : PE X (.UnaryOp .Not a pos) (bV X.K W (wU ma)) := bM (e_not ha) fun σ H Q h =>
 bE (k := fun x _ S1 => (mY x S1).bind fun k S2 => Res.ok (Vl.dat (D.bl (!k))) S2) h fun B φ S ρ d v H1 I E r f => by
  cases q : mY d S with
  | stuck => rw [q] at f; exact f.elim
  | err e S' =>
   exfalso
   unfold mY at q;split at q <;> first | cases q | (split at q <;> cases q)
  | ok k S' =>
   have e := tR q;subst e;rw [q] at f;refine rP (W := W) (σ := σ) I r ?_
   rw [q];intro φ' v' H' I' X' r';cases r';exact Fin.now (Fin.ext f X') I' rfl
def fK (f g : Vl -> Vl -> aM -> Res Vl) (a b c : FE) : FE := fun ρ S => (a ρ S).bind fun x S1 => (b ρ S1).bind fun y S2 => (f x y S2).bind fun z S3 => match z with
 | .dat (.bl k) => if k = true then (c ρ S3).bind fun w S4 => g y w S4 else .ok (.dat (.bl false)) S3
 | _ => .stuck
theorem qS {r r' : R2} {f g : Vl -> Vl -> aM -> Res Vl} (s : cN K r f) (s' : cN K r' g) (h : bV K W (fK f g ma mb mc) σ H Q) : sY r r' (bV K W ma) (bV K W mb) (bV K W mc) σ H Q := by
 refine bE (k := fun x ρ S1 => (mb ρ S1).bind fun y S2 => (f x y S2).bind fun z S3 => match z with | .dat (.bl k) => if k = true then (mc ρ S3).bind fun w S4 => g y w S4 else .ok (.dat (.bl false)) S3 | _ => .stuck) h fun B φ S ρ d v H1 I E r1 f' => eJ I E f' fun φ' S' e w H2 I2 X2 E2 r2 f2 => ?_
 have r1' := r1.ext X2 I;refine s (W := W) (σ := σ) I2 r1' r2 ?_
 cases q : f d e S' with
 | stuck => rw [q] at f2; exact f2
 | err x S3 => rw [q] at f2; exact f2
 | ok z S3 =>
  rw [q] at f2;intro φ3 v3 H3 I3 X3 r3;have f3 := Fin.ext f2 X3;dsimp only [Res.bind] at f3;split at f3
  ·rename_i k
   cases r3;cases k with
   | false => exact Fin.now f3 I3 rfl
   | true => exact eJ I3 (E2.ext X3 I2) f3 fun φ4 S4 d4 v4 H4 I4 X4 E4 r4 f4 => s' I4 ((r2.ext X3 I2).ext X4 I3) r4 f4
  ·exact f3.elim
theorem D8 {op op' : CmpOp} {r r' : R2} {f g : Vl -> Vl -> aM -> Res Vl} (ho : OpR X (compareOp op) r) (s : cN X.K r f) (ho' : OpR X (compareOp op') r') (s' : cN X.K r' g) (ha : PE X a (bV X.K W ma)) (hb : PE X b (bV X.K W mb)) (hc : PE X c (bV X.K W mc))
  (hm : lastMarks [op, op'] [b, c] = false := by with_unfolding_all rfl) : PE X (.Compare a [op, op'] [b, c] pos) (bV X.K W (fK f g ma mb mc)) := bM (DF ho ho' ha hb hc hm) fun σ H Q h => qS s s' h
theorem BF {op op' : CmpOp} {r r' : R2} {f g : Vl -> Vl -> aM -> Res Vl} (ho : OpR X (compareOp op) r) (s : cN X.K r f) (ho' : OpR X (compareOp op') r') (s' : cN X.K r' g) (ha : PE X a (bV X.K W ma)) (hb : PE X b (bV X.K W mb)) (hc : PE X c (bV X.K W mc))
  (hm : lastMarks [op, op'] [b, c] = false := by with_unfolding_all rfl) : PT X (.Compare a [op, op'] [b, c] pos) (nF X.K W (mB (fK f g ma mb mc))) := pQ (Bt ho ho' ha hb hc hm) fun σ H Q h => qS s s' (A8 h)
def mIf (t : FT) (a b : FE) : FE := fun ρ S => (t ρ S).bind fun c S1 => if c = true then a ρ S1 else b ρ S1
def aJ : FA := fun _ S => .ok [] S
def aB (a : FE) (r : FA) : FA := fun ρ S => (a ρ S).bind fun x S1 => (r ρ S1).bind fun xs S2 => .ok (x :: xs) S2
theorem Bj {t u : TA} (h : PA X es t) (i : ∀ σ H Q, u σ H Q -> t σ H Q) : PA X es u := ⟨fun pos pins s σ H Q I q => h.run pos pins s σ H Q I (i σ H Q q)⟩
theorem aH : PA X [] (zU X.K W aJ) := Bj pa_nil fun σ H Q h => by
 obtain ⟨B, φ, S, ρ, I, E, f⟩ := h;exact Fin.now (v := []) f I rfl
theorem aC (ha : PE X a (bV X.K W ma)) (hr : PA X es (zU X.K W mas)) (hs : starEach (a :: es) X.env = (false, eval a X.env) :: starEach es X.env := by rfl) : PA X (a :: es) (zU X.K W (aB ma mas)) := Bj (pa_cons ha hr hs) fun σ H Q h =>
 bE (k := fun x ρ S1 => (mas ρ S1).bind fun xs S2 => .ok (x :: xs) S2) h fun B φ S ρ d v H1 I E r f => eJ I E f fun φ' S' ds vs H2 I2 X2 E2 r2 f2 => Fin.now f2 I2 ⟨v, vs, rfl, r.ext X2 I, r2⟩
def cF (cl : Bool) (r : FA) : FE := fun ρ S => (r ρ S).bind fun xs S1 => match kH xs with
 | some ds => if ds.length <= sizeLine then newL cl ds S1 else .stuck
 | none => .stuck
def cP (r : FA) : FE := fun ρ S => (r ρ S).bind fun xs S1 => match kH xs with
 | some ds => if ds.length <= sizeLine then .ok (.dat (.tup ds)) S1 else .stuck
 | none => .stuck
theorem bU {cl : Bool} (h : PA X es (zU X.K W mas)) : PE X (.List es pos) (bV X.K W (cF cl mas)) := bM (pe_lst h) fun σ H Q h =>
 bE (k := fun xs ρ S1 => match kH xs with | some ds => if ds.length <= sizeLine then newL cl ds S1 else .stuck | none => .stuck) h fun B φ S ρ d v H1 I E r f => by
  split at f
  ·rename_i ds q
   have l := nM q r;split at f
   ·rename_i hl
    exact ⟨by rw [l.len]; exact hl, fun p hp => Fin.newL f I l hp⟩
   ·exact f.elim
  ·exact f.elim
theorem hW (h : PA X es (zU X.K W mas)) : PE X (.Tuple es x1 pos) (bV X.K W (cP mas)) := bM (pe_tup h) fun σ H Q h =>
 bE (k := fun xs ρ S1 => match kH xs with | some ds => if ds.length <= sizeLine then Res.ok (Vl.dat (D.tup ds)) S1 else .stuck | none => .stuck) h fun B φ S ρ d v H1 I E r f => by
  split at f
  ·rename_i ds q
   have l := nM q r;split at f
   ·rename_i hl
    exact ⟨by rw [l.len]; exact hl, fun p hp => Fin.newT f I l hp⟩
   ·exact f.elim
  ·exact f.elim
end
section
variable {X : Cx} {W : WX} {e a b c : Expr} {es rest : List Expr} {pos p q p2 : Pos} {x y z : Str} {K : aA} {ma mb mc : FE} {mt mu : FT} {mas : FA} {B : Addr -> Prop} {φ : List Addr} {S : aM} {H : Hp} {σ : L2.St} {Q : VK}
theorem nV {r : V -> Hp -> VK -> Prop} {f : Vl -> aM -> Res Vl} (s : uU K r f) (h : bV K W (m1 f ma) σ H Q) : tCB (c1 r) (tCons (bV K W ma) tNil) σ H Q := A9 s h
def dJ (x : Vl) (S : aM) : Res Vl := match x with
 | .dat (.tup xs) => .ok (.dat (.int xs.length)) S
 | .dat (.str z) => if z.length <= sizeLine then .ok (.dat (.int z.length)) S else .stuck
 | .cels ns => .ok (.dat (.int ns.length)) S
 | x => match eD S x with
  | some xs => .ok (.dat (.int xs.length)) S
  | none => .stuck
theorem s_len : uU K (cLen K) dJ := fun {W σ B φ S H x d Q} I r f => by
 unfold dJ at f;split at f
 ·obtain ⟨a, vs, rfl, h1, l1⟩ := r
  refine ⟨vs, .inr h1, ?_⟩
  rw [l1.len];exact Fin.now f I rfl
 ·cases r
  split at f
  ·rename_i h; exact ⟨h, Fin.now f I rfl⟩
  ·exact f.elim
 ·rename_i ns
  obtain ⟨a, as, rfl, h1, h2, h3⟩ := r;refine ⟨as.map V.ref, .inl (SqL.of h2), ?_⟩
  have e : as.length = ns.length := by
   have := congrArg List.length h3
   simpa using this.symm
  rw [bR, e];exact Fin.now f I rfl
 ·split at f
  ·rename_i xs q1
   obtain ⟨a, vs, rfl, h1, l1⟩ := eC I q1 r;refine ⟨vs, .inl (SqL.of h1), ?_⟩
   rw [l1.len];exact Fin.now f I rfl
  ·exact f.elim
theorem iN (hm : X.mg "len" = none) (ha : PE X a (bV X.K W ma)) (hg : Gl X "len" := by rfl) (hs : starEach [a] X.env = [(false, eval a X.env)] := by rfl) : PE X (.Call (.Name "len" p) [a] [] pos) (bV X.K W (m1 dJ ma)) := bM (e_len hm ha hg hs) fun σ H Q h => nV s_len h
def qI (x : Vl) (S : aM) : Res Vl := match x with
 | .dat (.int i) => .ok (.dat (.int i)) S
 | .dat (.bl k) => .ok (.dat (.int (if k then 1 else 0))) S
 | _ => .stuck
theorem s_int : uU K cInt qI := fun {W σ B φ S H x d Q} I r f => by
 unfold qI at f;split at f
 ·cases r; exact Fin.now f I rfl
 ·cases r; exact Fin.now f I rfl
 ·exact f.elim
theorem sW (hm : X.mg "int" = none) (ha : PE X a (bV X.K W ma)) (hg : Gl X "int" := by rfl) (hs : starEach [a] X.env = [(false, eval a X.env)] := by rfl) : PE X (.Call (.Name "int" p) [a] [] pos) (bV X.K W (m1 qI ma)) := bM (e_int hm ha hg hs) fun σ H Q h => nV s_int h
def lH : List D -> Option (List Bool)
 | [] => some []
 | .bl b :: r => match lH r with
  | some bs => some (b :: bs)
  | none => none
 | _ :: _ => none
theorem uT {Bk : Addr -> Prop} : ∀ {ds : List D} {bs : List Bool} {vs : List V}, lH ds = some bs -> RepL K Bk H ds vs -> vs = bs.map V.bl
 | [], bs, vs, h, r => by cases h; exact r
 | d :: ds, bs, vs, h, ⟨v, ws, e, h1, h2⟩ => by
  subst e;cases d with
  | bl b =>
   unfold lH at h;cases q : lH ds with
   | none => rw [q] at h; cases h
   | some es => rw [q] at h; cases h; cases h1; rw [uT q h2]; rfl
  | _ => cases h
def G8 : List D -> Option (List Int)
 | [] => some []
 | .int b :: r => match G8 r with
  | some bs => some (b :: bs)
  | none => none
 | _ :: _ => none
def qK (x : Vl) (S : aM) : Res Vl := match eD S x with
 | some xs => (match lH xs with
  | some bs => .ok (.dat (.bl (bs.all id))) S
  | none => .stuck)
 | none => .stuck
theorem s_all : uU K (cAll K) qK := fun {W σ B φ S H x d Q} I r f => by
 unfold qK at f;split at f
 ·rename_i xs q1
  obtain ⟨a, vs, rfl, h1, l1⟩ := eC I q1 r;split at f
  ·rename_i bs q2
   rw [uT q2 l1] at h1;exact ⟨bs, SqL.of h1, Fin.now f I rfl⟩
  ·exact f.elim
 ·exact f.elim
theorem Dz (hm : X.mg "all" = none) (ha : PE X a (bV X.K W ma)) (hc : X.calm = true := by rfl) (hg : Gl X "all" := by rfl) (hs : starEach [a] X.env = [(false, eval a X.env)] := by rfl) : PE X (.Call (.Name "all" p) [a] [] pos) (bV X.K W (m1 qK ma)) := bM (e_all hm ha hc hg hs) fun σ H Q h => nV s_all h
def gE (cl : Bool) (x : Vl) (S : aM) : Res Vl := match x with
 | .dat (.tup xs) => newL cl xs S
 | x => match eD S x with
  | some xs => newL cl xs S
  | none => .stuck
theorem EU {cl : Bool} : uU K (E7 K) (gE cl) := fun {W σ B φ S H x d Q} I r f => by
 unfold gE at f;split at f
 ·obtain ⟨a, vs, rfl, h1, l1⟩ := r
  exact ⟨vs, .inr h1, fun l hl => Fin.newL f I l1 hl⟩
 ·split at f
  ·rename_i xs q1
   obtain ⟨a, vs, rfl, h1, l1⟩ := eC I q1 r;exact ⟨vs, .inl (SqL.of h1), fun l hl => Fin.newL f I l1 hl⟩
  ·exact f.elim
theorem pG {cl : Bool} (hm : X.mg "list" = none) (ha : PE X a (bV X.K W ma)) (hg : Gl X "list" := by rfl) (hs : starEach [a] X.env = [(false, eval a X.env)] := by rfl) : PE X (.Call (.Name "list" p) [a] [] pos) (bV X.K W (m1 (gE cl) ma)) := bM (G4 hm ha hg hs) fun σ H Q h => nV EU h
def fTuple (x : Vl) (S : aM) : Res Vl := match eD S x with
 | some xs => .ok (.dat (.tup xs)) S
 | none => .stuck
theorem Bz : uU K (BW K) fTuple := fun {W σ B φ S H x d Q} I r f => by
 unfold fTuple at f;split at f
 ·rename_i xs q1
  obtain ⟨a, vs, rfl, h1, l1⟩ := eC I q1 r;exact ⟨vs, SqL.of h1, fun l hl => Fin.newT f I l1 hl⟩
 ·exact f.elim
theorem xF (hm : X.mg "tuple" = none) (ha : PE X a (bV X.K W ma)) (hg : Gl X "tuple" := by rfl) (hs : starEach [a] X.env = [(false, eval a X.env)] := by rfl) : PE X (.Call (.Name "tuple" p) [a] [] pos) (bV X.K W (m1 fTuple ma)) := bM (DE hm ha hg hs) fun σ H Q h => nV Bz h
def fAbs (x : Vl) (S : aM) : Res Vl := match x with
 | .dat (.int i) => .ok (.dat (.int (if i < 0 then -i else i))) S
 | _ => .stuck
theorem uC {a : Addr} {xs : List V} (h : SqT K H a xs) : pR K H a "tuple" := by
 refine ⟨by decide, ?_⟩
 rcases h with (h | ⟨o, h⟩) | ⟨o, its, n, h, hc, _⟩
 ·exact .base (.tup h)
 ·exact .fTuple h
 ·exact .kTuple h hc
theorem jB {a : Addr} {xs : List V} (h : SqL K H a xs) : pR K H a "list" := by
 refine ⟨by decide, ?_⟩
 rcases h with (h | ⟨o, h⟩) | ⟨o, its, n, h, hc, _⟩
 ·exact .base (.lst h)
 ·exact .base (.frz h)
 ·exact .kList h hc
def kindOf (S : aM) : Vl -> Option String
 | .dat .non => some "NoneType"
 | .dat (.bl _) => some "bool"
 | .dat (.int _) => some "int"
 | .dat (.str _) => some "str"
 | .dat (.lst _) => some "list"
 | .dat (.tup _) => some "tuple"
 | .dat .dct => some "dict"
 | .dat (.opq _) => none
 | .dat (.ins _ _ _) => none
 | .cels _ => some "list"
 | .scr _ => some "list"
 | .tc _ => some "tuple"
 | .cel n => match S[n]? with
  | some (.lst _) => some "list"
  | some (.dct _) => some "dict"
  | some (.lv _) => some "list"
  | _ => none
def fIsi (T : String) (x : Vl) (S : aM) : Res Vl := match kindOf S x with
 | some n => .ok (.dat (.bl (isTy T n))) S
 | none => .stuck
theorem lV {d : Vl} {v : V} {n : String} (I : GInv K B φ S H) (r : RepV K B φ S H d v) (h : kindOf S d = some n) : (v = .non /\ n = "NoneType") \/ (∃ b, v = .bl b /\ n = "bool") \/ (∃ b, v = .int b /\ n = "int") \/ (∃ b, v = .str b /\ n = "str") \/ ∃ a, v = .ref a /\ pR K H a n := by
 cases d with
 | dat d =>
  cases d with
  | non => cases h; cases r; exact .inl ⟨rfl, rfl⟩
  | bl b => cases h; cases r; exact .inr (.inl ⟨b, rfl, rfl⟩)
  | int b => cases h; cases r; exact .inr (.inr (.inl ⟨b, rfl, rfl⟩))
  | str b => cases h; cases r; exact .inr (.inr (.inr (.inl ⟨b, rfl, rfl⟩)))
  | lst xs => cases h; obtain ⟨a, vs, rfl, _, h1, _⟩ := r; exact .inr (.inr (.inr (.inr ⟨a, rfl, jB (SqL.of h1)⟩)))
  | tup xs => cases h; obtain ⟨a, vs, rfl, h1, _⟩ := r; exact .inr (.inr (.inr (.inr ⟨a, rfl, uC h1⟩)))
  | ins C ns xs => cases h
  | opq _ => cases h
  | dct => cases h; obtain ⟨a, rfl, _, h1⟩ := r; exact .inr (.inr (.inr (.inr ⟨a, rfl, by decide, .base (.dK h1)⟩)))
 | cels ns => cases h; obtain ⟨a, as, rfl, _, h1, _⟩ := r; exact .inr (.inr (.inr (.inr ⟨a, rfl, jB (SqL.of h1)⟩)))
 | scr ns => cases h; obtain ⟨a, rfl, h1⟩ := r; exact .inr (.inr (.inr (.inr ⟨a, rfl, jB h1.sq⟩)))
 | tc xs => cases h; obtain ⟨a, vs, rfl, h1, _⟩ := r; exact .inr (.inr (.inr (.inr ⟨a, rfl, uC h1⟩)))
 | cel n =>
  obtain ⟨a, rfl, h1⟩ := r;have h : (match S[n]? with | some (.lst _) => some "list" | some (.dct _) => some "dict" | some (.lv _) => some "list" | _ => none) = some _ := h
  split at h
  ·rename_i q
   cases h;obtain ⟨vs, h2, _⟩ := I.ok n _ a q h1;exact .inr (.inr (.inr (.inr ⟨a, rfl, jB (SqL.of h2)⟩)))
  ·rename_i q
   cases h;obtain ⟨vs, h2, _⟩ := I.ok n _ a q h1;exact .inr (.inr (.inr (.inr ⟨a, rfl, by decide, .base (.dK h2)⟩)))
  ·rename_i q
   cases h;obtain ⟨vs, h2, _⟩ := I.ok n _ a q h1;exact .inr (.inr (.inr (.inr ⟨a, rfl, jB (SqL.of h2)⟩)))
  ·cases h
theorem s_isi {T : String} (hT : T ∈ targets) : uU K (BZ K T) (fIsi T) := fun {W σ B φ S H x d Q} I r f => by
 unfold fIsi at f;have h6 : T = "int" \/ T = "bool" \/ T = "str" \/ T = "list" \/ T = "tuple" \/ T = "dict" := by simpa [targets] using hT
 split at f
 ·rename_i n h
  have q : ∀ b, b = isTy T n -> Q (.bl b) H := fun b e => by rw [e]; exact Fin.now f I rfl
  rcases lV I r h with ⟨rfl, rfl⟩ | ⟨b, rfl, rfl⟩ | ⟨b, rfl, rfl⟩ | ⟨b, rfl, rfl⟩ | ⟨a, rfl, hk⟩
  ·exact q false (by rcases h6 with e | e | e | e | e | e <;> subst e <;> decide)
  ·exact q _ (by rcases h6 with e | e | e | e | e | e <;> subst e <;> decide)
  ·exact q _ (by rcases h6 with e | e | e | e | e | e <;> subst e <;> decide)
  ·exact q _ (by rcases h6 with e | e | e | e | e | e <;> subst e <;> decide)
  ·have h3 : n = "list" \/ n = "tuple" \/ n = "dict" := by simpa using hk.1
   exact ⟨n, hk, q _ (by rcases h6 with e | e | e | e | e | e <;> rcases h3 with e' | e' | e' <;> subst e <;> subst e' <;> decide)⟩
 ·exact f.elim
theorem cX {T : String} (hm : X.mg "isinstance" = none) (hmT : X.mg y = none) (ha : PE X a (bV X.K W ma)) (hT : T ∈ targets := by decide) (hv : bootBuiltins y = some (.type T) := by decide +kernel)
  (hg : Gl X "isinstance" := by rfl) (hgT : Gl X y := by rfl) (hn : y ≠ "__name__" := by decide) (hd : (y == ("__debug__" : Str)) = false := by decide) (hs : starEach [a, .Name y q] X.env = (false, eval a X.env) :: starEach [.Name y q] X.env := by rfl) :
  PE X (.Call (.Name "isinstance" p) [a, .Name y q] [] pos) (bV X.K W (m1 (fIsi T) ma)) := bM (e_isi hm hmT ha hT hv hg hgT hn hd hs) fun σ H Q h => A9 (s_isi hT) h
def fIsi2 (T U : String) (x : Vl) (S : aM) : Res Vl := match kindOf S x with
 | some n => .ok (.dat (.bl (isTy T n || isTy U n))) S
 | none => .stuck
theorem EW {T U : String} (hT : T ∈ targets) (hU : U ∈ targets) {x : V} {d : Vl} (I : GInv K B φ S H) (r : RepV K B φ S H d x) (f : Fin K W σ (RepV K) B φ S H (fIsi2 T U d S) Q) {tp : Addr} {H' : Hp} (ntp : H tp = none) (hH : H' = upd H tp (.tup [.ty T, .ty U])) : E8 K T U x H' fun b => Q (.bl b) H' := by
 unfold fIsi2 at f;split at f
 ·rename_i n h
  have X1 := Ext.new (o := .tup [.ty T, .ty U]) I ntp;have I1 := I.new (o := .tup [.ty T, .ty U]) ntp;have hq : Q (.bl (isTy T n || isTy U n)) H' := by subst hH; exact f φ _ _ I1 X1 rfl
  have r' : RepV K B φ S H' d x := by subst hH; exact r.ext X1 I
  rcases lV I r h with ⟨rfl, rfl⟩ | ⟨b, rfl, rfl⟩ | ⟨b, rfl, rfl⟩ | ⟨b, rfl, rfl⟩ | ⟨a, rfl, hk⟩
  ·have : ∀ T ∈ targets, isTy T "NoneType" = false := by decide
   rw [this T hT, this U hU] at hq;exact hq
  ·exact hq
  ·exact hq
  ·exact hq
  ·have I1' : GInv K B φ S H' := by subst hH; exact I1
   rcases lV I1' r' h with ⟨z, _⟩ | ⟨b, z, _⟩ | ⟨b, z, _⟩ | ⟨b, z, _⟩ | ⟨a', z, hk'⟩ <;> cases z
   exact ⟨n, hk', hq⟩
 ·exact f.elim
theorem BK {q1 q2 tpos : Pos} {j : Nat} {T U : String} (hm : X.mg "isinstance" = none) (hmT : X.mg y = none) (hmU : X.mg z = none) (ha : PE X a (bV X.K W ma)) (hT : T ∈ targets := by decide) (hU : U ∈ targets := by decide)
  (hv : bootBuiltins y = some (.type T) := by decide +kernel) (hw : bootBuiltins z = some (.type U) := by decide +kernel) (hg : Gl X "isinstance" := by rfl) (hgT : Gl X y := by rfl) (hgU : Gl X z := by rfl) (hn : y ≠ "__name__" := by decide) (hd : (y == ("__debug__" : Str)) = false := by decide) (hn2 : z ≠ "__name__" := by decide) (hd2 : (z == ("__debug__" : Str)) = false := by decide)
  (hs : starEach [a, .Tuple [.Name y q1, .Name z q2] j tpos] X.env = (false, eval a X.env) :: starEach [.Tuple [.Name y q1, .Name z q2] j tpos] X.env := by rfl) :
  PE X (.Call (.Name "isinstance" p) [a, .Tuple [.Name y q1, .Name z q2] j tpos] [] pos) (bV X.K W (m1 (fIsi2 T U) ma)) :=
 bM (G5 hm hmT hmU ha hT hU hv hw hg hgT hgU hn hd hn2 hd2 hs) fun σ H Q h => bE (k := fun x _ S => fIsi2 T U x S) h fun B φ S ρ d v H1 I E r f => by
  show _ /\ _
  exact ⟨(by show 2 <= sizeLine; decide), fun tp htp => ⟨upd_same, EW hT hU I r f htp rfl⟩⟩
def cutD (xs : List D) (lo hi : Option Int) : List D := (xs.drop (HT.sIx xs.length 0 lo)).take (HT.sIx xs.length xs.length hi - HT.sIx xs.length 0 lo)
theorem RepL.cut {Bk : Addr -> Prop} {ds : List D} {vs : List V} {lo hi : Option Int} (h : RepL K Bk H ds vs) : RepL K Bk H (cutD ds lo hi) (cutV vs lo hi) := by
 unfold cutD cutV;rw [h.len];exact (h.drop _).take _
def DB (cl : Bool) (x : Vl) (lo hi : Option Int) (S : aM) : Res Vl := match x with
 | .dat (.tup xs) => .ok (.dat (.tup (cutD xs lo hi))) S
 | .dat (.str z) => if z.length <= sizeLine then .ok (.dat (.str (cutS z lo hi))) S else .stuck
 | .scr ns => newL cl (cutD (ns.map D.int) lo hi) S
 | x => match eD S x with
  | some xs => newL cl (cutD xs lo hi) S
  | none => .stuck
def yJ : FO := fun _ S => .ok none S
def qZ (a : FE) : FO := fun ρ S => (a ρ S).bind fun x S1 => match x with
 | .dat (.int i) => .ok (some i) S1
 | _ => .stuck
theorem Bh {e : Option Expr} {t u : TO} (h : PO X e t) (i : ∀ σ H Q, u σ H Q -> t σ H Q) : PO X e u := ⟨fun pins s σ H Q I q => h.run pins s σ H Q I (i σ H Q q)⟩
theorem xD : PO X none (rdO X.K W yJ) := Bh po_none fun σ H Q h => by
 obtain ⟨B, φ, S, ρ, I, E, f⟩ := h;exact Fin.now (v := none) f I rfl
theorem xC (ha : PE X a (bV X.K W ma)) : PO X (some a) (rdO X.K W (qZ ma)) := Bh (AK ha) fun σ H Q h =>
 bE (k := fun x _ S1 => match x with | .dat (.int i) => .ok (some i) S1 | _ => .stuck) h fun B φ S ρ d v H1 I E r f => by
  split at f
  ·cases r; exact Fin.now f I rfl
  ·exact f.elim
theorem qW {Bk : Addr -> Prop} : ∀ ns : List Int, RepL K Bk H (ns.map D.int) (ns.map V.int)
 | [] => rfl
 | n :: ns => ⟨_, _, rfl, rfl, qW ns⟩
theorem zG {xs : List D} {lo hi : Option Int} (h : HT.sIx xs.length 0 lo = 0 /\ HT.sIx xs.length xs.length hi = xs.length) : cutD xs lo hi = xs := by
 unfold cutD;rw [h.1, h.2];simp
def mSl (cl : Bool) (a : FE) (l h : FO) : FE := fun ρ S => (a ρ S).bind fun x S1 => (l ρ S1).bind fun lo S2 => (h ρ S2).bind fun hi S3 => DB cl x lo hi S3
theorem f_sl {cl : Bool} {lo hi : Option Expr} {ml mh : FO} (ha : PE X a (bV X.K W ma)) (hl : PO X lo (rdO X.K W ml)) (hh : PO X hi (rdO X.K W mh)) : PE X (.Subscript a (.Slice lo hi none p2) pos) (bV X.K W (mSl cl ma ml mh)) := bM (pe_slice sl_C ha hl hh) fun σ H Q h =>
 bE (k := fun x ρ S1 => (ml ρ S1).bind fun lo S2 => (mh ρ S2).bind fun hi S3 => DB cl x lo hi S3) h fun B φ S ρ d v H1 I E r f => eJ I E f fun φ1 S1 d1 v1 H2 I1 X1 E1 r1 f1 => eJ I1 E1 f1 fun φ2 S2 d2 v2 H3 I2 X2 E2 r2 f2 => by
  cases r1;cases r2
  replace r := (r.ext X1 I).ext X2 I1
  unfold DB at f2;split at f2
  ·rename_i xs
   obtain ⟨a, vs, rfl, h1, l1⟩ := r;refine lJ ⟨vs, h1, fun hw => ?_, fun hw p hp => Fin.newT f2 I2 l1.cut hp⟩
   rw [l1.len] at hw;have e := zG (xs := xs) hw;rw [e] at f2;exact Fin.now f2 I2 ⟨a, vs, rfl, h1, l1⟩
  ·cases r
   split at f2
   ·rename_i hz; exact ⟨hz, Fin.now f2 I2 rfl⟩
   ·exact f2.elim
  ·obtain ⟨a, rfl, h1⟩ := r
   exact qQ ⟨_, h1.sq, fun p hp => Fin.newL f2 I2 (qW _).cut hp⟩
  ·split at f2
   ·rename_i xs q1
    obtain ⟨a, vs, rfl, h1, l1⟩ := eC I2 q1 r;exact qQ ⟨vs, SqL.of h1, fun p hp => Fin.newL f2 I2 l1.cut hp⟩
   ·exact f2.elim
def El (a : FE) : FE := fun ρ S => (a ρ S).bind fun x S1 => match x with
 | .cel n => (match S1[n]? with
  | some (.lst ds) => .ok (.dat (.lst ds)) (S1.set n .dead)
  | _ => .stuck)
 | _ => .stuck
theorem f_frz (ha : PE X a (bV X.K W ma)) : PE X a (bV X.K W (El ma)) := bM ha fun σ H Q h =>
 bE (k := fun x _ S1 => match x with | .cel n => (match S1[n]? with | some (Cell.lst ds) => Res.ok (Vl.dat (D.lst ds)) (S1.set n Cell.dead) | _ => Res.stuck) | _ => Res.stuck) h fun B φ S ρ d v H1 I E r f => by
  split at f
  ·rename_i n
   obtain ⟨a, rfl, h1⟩ := r;split at f
   ·rename_i ds q
    obtain ⟨vs, h2, l⟩ := I.ok n _ a q h1;have X1 := Ext.kill (φ := φ) (S := S) (H := H1) (n := n);exact f φ _ H1 I.kill X1 ⟨a, vs, rfl, I.killed q (by simp) h1, h2, X1.repL I l⟩
   ·exact f.elim
  ·exact f.elim
def mStar (a : FE) (r : FA) : FA := fun ρ S => (a ρ S).bind fun x S1 => match (match x with | .dat (.tup xs) => some xs | x => eD S1 x) with
 | some xs => (r ρ S1).bind fun ys S2 => .ok (xs.map Vl.dat ++ ys) S2
 | none => .stuck
end
inductive Out where
 | next (ρ : Ev) (S : aM) | ret (d : Vl) (S : aM) | brk (ρ : Ev) (S : aM) | cnt (ρ : Ev) (S : aM) | err (e : Er) (ρ : Ev) (S : aM) | stuck
abbrev FS := Ev -> aM -> Out
def Res.toS {α : Type} (r : Res α) (ρ : Ev) (k : α -> aM -> Out) : Out := match r with
 | .ok a S => k a S
 | .err e S => .err e ρ S
 | .stuck => .stuck
def FinS (K : aA) (W : WX) (D : Ends) (B : Addr -> Prop) (φ : List Addr) (S : aM) (H : Hp) (o : Out) : Prop := match o with
 | .next ρ' S' => ∀ φ' σ' H', GInv K B φ' S' H' -> Ext φ S H φ' S' H' -> RepE K B φ' S' H' ρ' σ' -> D.nx σ' H'
 | .ret d S' => ∀ φ' v H', GInv K B φ' S' H' -> Ext φ S H φ' S' H' -> RepV K B φ' S' H' d v -> D.rt v H'
 | .brk ρ' S' => ∀ φ' σ' H', GInv K B φ' S' H' -> Ext φ S H φ' S' H' -> RepE K B φ' S' H' ρ' σ' -> D.bk σ' H'
 | .cnt ρ' S' => ∀ φ' σ' H', GInv K B φ' S' H' -> Ext φ S H φ' S' H' -> RepE K B φ' S' H' ρ' σ' -> D.ct σ' H'
 | .err e ρ' S' => ∀ φ' σ' c x H', GInv K B φ' S' H' -> Ext φ S H φ' S' H' -> RepE K B φ' S' H' ρ' σ' -> zL K B φ' S' H' e c x -> W c x σ' H'
 | .stuck => False
def gM (K : aA) (W : WX) (m : FS) : TS := fun D σ H => ∃ B φ S ρ, GInv K B φ S H /\ RepE K B φ S H ρ σ /\ FinS K W D B φ S H (m ρ S)
section
variable {X : Cx} {W : WX} {e a b c : Expr} {es rest : List Expr} {pos p q p2 : Pos} {x y z : Str} {K : aA} {ma mb mc : FE} {mt mu : FT} {mas : FA} {B : Addr -> Prop} {φ φ' : List Addr} {S S' : aM} {H H' : Hp} {σ : L2.St} {Q : VK} {m n : FS} {st : Stmt} {sts : List Stmt} {D : Ends}
theorem fM {t u : TS} (h : PS X st t) (i : ∀ D σ H, u D σ H -> t D σ H) : PS X st u := ⟨fun pins s σ H D I q => h.run pins s σ H D I (i D σ H q)⟩
theorem tE {t u : TS} (h : PSs X sts t) (i : ∀ D σ H, u D σ H -> t D σ H) : PSs X sts u := ⟨fun pins s σ H D I q => h.run pins s σ H D I (i D σ H q)⟩
theorem FinS.ext {o : Out} (f : FinS K W D B φ S H o) (e : Ext φ S H φ' S' H') : FinS K W D B φ' S' H' o := by
 cases o with
 | next ρ S1 => exact fun φ1 v H1 I1 X r => f φ1 v H1 I1 (e.trans X) r
 | ret d S1 => exact fun φ1 v H1 I1 X r => f φ1 v H1 I1 (e.trans X) r
 | brk ρ S1 => exact fun φ1 v H1 I1 X r => f φ1 v H1 I1 (e.trans X) r
 | cnt ρ S1 => exact fun φ1 v H1 I1 X r => f φ1 v H1 I1 (e.trans X) r
 | err x ρ S1 => exact fun φ1 σ1 c x H1 I1 X r => f φ1 σ1 c x H1 I1 (e.trans X) r
 | stuck => exact f
theorem cG {α β : Type} {R : Rl α β} {ρ : Ev} {m : Ev -> aM -> Res α} {k : α -> aM -> Out} {Q1 : β -> Hp -> Prop} (I : GInv K B φ S H) (E : RepE K B φ S H ρ σ) (f : FinS K W D B φ S H ((m ρ S).toS ρ k))
  (hk : ∀ φ' S' d v H1, GInv K B φ' S' H1 -> Ext φ S H φ' S' H1 -> RepE K B φ' S' H1 ρ σ -> R B φ' S' H1 d v -> FinS K W D B φ' S' H1 (k d S') -> Q1 v H1) : rd K W R m σ H Q1 := by
 refine ⟨B, φ, S, ρ, I, E, ?_⟩
 cases e : m ρ S with
 | stuck => rw [e] at f; exact f
 | err x S' =>
  rw [e] at f;exact fun φ' c d H' I' X r => f φ' σ c d H' I' X (E.ext X I) r
 | ok d S' =>
  rw [e] at f;exact fun φ' v H' I' X r => hk φ' S' d v H' I' X (E.ext X I) r (FinS.ext f X)
def aO (m n : FS) : FS := fun ρ S => match m ρ S with
 | .next ρ' S' => n ρ' S'
 | o => o
def aV : FS := fun ρ S => .next ρ S
def aX (a : FE) : FS := fun ρ S => (a ρ S).toS ρ fun d S1 => .ret d S1
def fP (a : FE) : FS := fun ρ S => (a ρ S).toS ρ fun _ S1 => .next ρ S1
def bG (t : FT) (m n : FS) : FS := fun ρ S => (t ρ S).toS ρ fun c S1 => if c = true then m ρ S1 else n ρ S1
theorem Bv (h : gM K W (aO m n) D σ H) : tSeq (gM K W m) (gM K W n) D σ H := by
 obtain ⟨B, φ, S, ρ, I, E, f⟩ := h;refine ⟨B, φ, S, ρ, I, E, ?_⟩
 unfold aO at f;cases e : m ρ S with
 | next ρ' S' =>
  rw [e] at f;exact fun φ' σ' H' I' X r => ⟨B, φ', S', ρ', I', r, FinS.ext f X⟩
 | ret d S' => rw [e] at f; exact f
 | brk d S' => rw [e] at f; exact f
 | cnt d S' => rw [e] at f; exact f
 | err x d S' => rw [e] at f; exact f
 | stuck => rw [e] at f; exact f
theorem aT : PSs X [] (gM X.K W aV) := tE pss_nil fun D σ H h => by
 obtain ⟨B, φ, S, ρ, I, E, f⟩ := h;exact f φ σ H I Ext.refl E
theorem aL (h : PS X st (gM X.K W m)) : PSs X [st] (gM X.K W m) := pss_one h
theorem aG (h : PS X st (gM X.K W m)) (hr : PSs X sts (gM X.K W n)) : PSs X (st :: sts) (gM X.K W (aO m n)) := tE (pss_cons h hr) fun D σ H h => Bv h
theorem aP (ha : PE X a (bV X.K W ma)) : PS X (.Return (some a) pos) (gM X.K W (aX ma)) := fM (ps_ret ha) fun D σ H h => by
 obtain ⟨B, φ, S, ρ, I, E, f⟩ := h;exact cG I E f fun φ' S' d v H1 I1 X1 E1 r f1 => f1 φ' v H1 I1 Ext.refl r
theorem xB (ha : PE X a (bV X.K W ma)) (hs : swapsWith a none pos.line X.env = pure false := by rfl) : PS X (.Expr a pos) (gM X.K W (fP ma)) := fM (ps_expr ha hs) fun D σ H h => by
 obtain ⟨B, φ, S, ρ, I, E, f⟩ := h;exact cG I E f fun φ' S' d v H1 I1 X1 E1 r f1 => f1 φ' σ H1 I1 Ext.refl E1
theorem bQ {s1 s2 : List Stmt} (ht : PT X c (nF X.K W mt)) (ha : PSs X s1 (gM X.K W m)) (hb : PSs X s2 (gM X.K W n)) : PS X (.If c s1 s2 pos) (gM X.K W (bG mt m n)) := fM (ps_if ht ha hb) fun D σ H h => by
 obtain ⟨B, φ, S, ρ, I, E, f⟩ := h;refine cG I E f fun φ' S' d v H1 I1 X1 E1 r f1 => ?_
 have r : v = d := r;subst r;cases v with
 | true => exact ⟨B, φ', S', ρ, I1, E1, f1⟩
 | false => exact ⟨B, φ', S', ρ, I1, E1, f1⟩
inductive Tg where
 | nm (i : Nat) | tp (is : List Nat) | tn (i : Nat) (is : List Nat)
def sU : List Nat -> TGs
 | [] => gNil
 | i :: r => gCons (gName i) (sU r)
def Bs (K : aA) : Tg -> TG
 | .nm i => gName i
 | .tp is => gTup K is.length (sU is)
 | .tn i is => gTup K 2 (gCons (gName i) (gCons (gTup K is.length (sU is)) gNil))
def putAll : List Nat -> List L2.V -> L2.St -> L2.St
 | i :: r, v :: vs, σ => putAll r vs (σ.set i (some v))
 | _, _, σ => σ
def mN : List Nat -> List PH.D -> Ev -> Ev
 | i :: r, v :: vs, σ => mN r vs (σ.set i (some (.dat v)))
 | _, _, σ => σ
def tJ : Tg -> Vl -> Ev -> Option Ev
 | .nm i, d, ρ => some (ρ.set i (some d))
 | .tp is, .dat (.tup ds), ρ => if ds.length = is.length then some (mN is ds ρ) else none
 | .tp _, _, _ => none
 | .tn i is, .dat (.tup [d, .tup ds]), ρ => if ds.length = is.length then some (mN is ds (ρ.set i (some (.dat d)))) else none
 | .tn _ _, _, _ => none
def tgS : Tg -> List Nat
 | .nm i => [i]
 | .tp is => is
 | .tn i is => i :: is
theorem lY {Q : L2.St -> Hp -> Prop} : ∀ {is : List Nat} {vs : List L2.V} {σ : L2.St} {H : Hp}, vs.length = is.length -> Q (putAll is vs σ) H -> sU is vs σ H Q
 | [], [], σ, H, _, q => ⟨rfl, q⟩
 | i :: is, v :: vs, σ, H, h, q => ⟨v, vs, rfl, lY (is := is) (by simpa using h) q⟩
 | [], _ :: _, _, _, h, _ => by simp at h
 | _ :: _, [], _, _, h, _ => by simp at h
theorem oH : ∀ {is : List Nat} {ds : List PH.D} {vs : List L2.V} {ρ : Ev} {σ : L2.St}, RepL K (dW B φ S) H ds vs -> RepE K B φ S H ρ σ -> RepE K B φ S H (mN is ds ρ) (putAll is vs σ)
 | [], ds, vs, ρ, σ, h, E => by cases ds <;> cases vs <;> exact E
 | i :: is, [], vs, ρ, σ, h, E => by cases h; exact E
 | i :: is, d :: ds, vs, ρ, σ, ⟨v, ws, e, h1, h2⟩, E => by subst e; exact oH (is := is) h2 (E.set (d := .dat d) h1 i)
def EO : Tg -> L2.V -> List L2.V -> L2.St -> L2.St
 | .nm i, v, _, σ => σ.set i (some v)
 | .tp is, _, vs, σ => putAll is vs σ
 | .tn i is, _, v :: vs, σ => putAll is vs (σ.set i (some v))
 | .tn _ _, _, [], σ => σ
theorem rQ {t : Tg} {d : Vl} {v : L2.V} {ρ ρ' : Ev} {Q : L2.St -> Hp -> Prop} (E : RepE K B φ S H ρ σ) (r : RepV K B φ S H d v) (h : tJ t d ρ = some ρ') (q : ∀ vs, RepE K B φ S H ρ' (EO t v vs σ) -> Q (EO t v vs σ) H) : Bs K t v σ H Q := by
 cases t with
 | nm i => cases h; exact q [] (E.set r i)
 | tp is =>
  cases d with
  | dat d =>
   cases d with
   | tup ds =>
    have h : (if ds.length = is.length then some (mN is ds ρ) else none) = some ρ' := h
    split at h
    ·rename_i hl
     cases h;obtain ⟨a, vs, rfl, h1, l⟩ := r;exact ⟨a, vs, rfl, h1, by rw [l.len, hl], lY (by rw [l.len, hl]) (q vs (oH l E))⟩
    ·cases h
   | _ => cases h
  | _ => cases h
 | tn i is =>
  cases d with
  | dat d =>
   cases d with
   | tup xs =>
    cases xs with
    | nil => cases h
    | cons d0 xs =>
     cases xs with
     | nil => cases h
     | cons d1 xs =>
      cases xs with
      | cons _ _ => cases d1 <;> cases h
      | nil =>
       cases d1 with
       | tup ds =>
        have h : (if ds.length = is.length then some (mN is ds (ρ.set i (some (.dat d0)))) else none) = some ρ' := h
        split at h
        ·rename_i hl
         cases h;obtain ⟨a, vs, rfl, h1, v0, ws, rfl, r0, v1, us, rfl, ⟨b, zs, rfl, h2, l⟩, rfl⟩ := r;refine ⟨a, [v0, .ref b], rfl, h1, rfl, v0, _, rfl, .ref b, _, rfl, b, zs, rfl, h2, by rw [l.len, hl], ?_⟩
         refine lY (Q := fun σ' H' => gNil [] σ' H' Q) (by rw [l.len, hl]) ⟨rfl, ?_⟩
         exact q (v0 :: zs) (oH l (E.set (d := .dat d0) r0 i))
        ·cases h
       | _ => cases h
   | _ => cases h
  | _ => cases h
def bO (a : FE) (t : Tg) : FS := fun ρ S => (a ρ S).toS ρ fun d S1 => match tJ t d ρ with
 | some ρ' => .next ρ' S1
 | none => .stuck
theorem wH {t : Tg} (h : gM K W (bO ma t) D σ H) : tAsg (bV K W ma) (Bs K t) D σ H := by
 obtain ⟨B, φ, S, ρ, I, E, f⟩ := h;refine cG I E f fun φ' S' d v H1 I1 X1 E1 r f1 => ?_
 split at f1
 ·rename_i ρ' q
  exact rQ E1 r q fun vs E2 => f1 φ' _ H1 I1 Ext.refl E2
 ·exact f1.elim
theorem G0 {tg e : Expr} {t : Tg} (he : PE X e (bV X.K W ma)) (hg : PG X tg (Bs X.K t)) (hs : swapsWithSole [tg] e pos.line X.env = pure false := by rfl) (hw : swappedStores [tg] e X.env = pure none := by rfl)
  (h1 : (assignEach [tg] X.env).map (·.2) = [assign tg X.env] := by rfl) : PS X (.Assign [tg] e pos) (gM X.K W (bO ma t)) := fM (ps_asg he hg hs hw h1) fun D σ H h => wH h
theorem bF {i : Nat} {x : Str} {e : Expr} {pos' : Pos} (hN : X.N.Nodup) (hi : X.N[i]? = some x) (hx : Loc X.env.scope x) (he : PE X e (bV X.K W ma)) (hs : swapsWith e (some (.Name x pos')) pos.line X.env = pure false := by rfl) (hf : X.fn x = true \/ X.env.scope.names.lookup x = some .local := by first | exact .inl rfl | exact .inr rfl | assumption) :
  PS X (.Assign [.Name x pos'] e pos) (gM X.K W (bO ma (.nm i))) := fM (ps_set hN hi hx he hs hf) fun D σ H h => wH (t := .nm i) h
def wipeE (ρ : Ev) : List Nat -> Ev
 | [] => ρ
 | v :: vs => (wipeE ρ vs).set v none
theorem RepE.wipeE {ρ : Ev} (E : RepE K B φ S H ρ σ) : ∀ is : List Nat, RepE K B φ S H (wipeE ρ is) σ
 | [] => E
 | i :: is => (RepE.wipeE E is).forget i
def fJ (is : List Nat) (m : FS) : FS := fun ρ S => match m ρ S with
 | .next ρ' S' => .next (wipeE ρ' is) S'
 | .cnt ρ' S' => .cnt (wipeE ρ' is) S'
 | .brk ρ' S' => .brk (wipeE ρ' is) S'
 | o => o
theorem A5 {is : List Nat} (h : gM K W (fJ is m) D σ H) : gM K W m D σ H := by
 obtain ⟨B, φ, S, ρ, I, E, f⟩ := h;refine ⟨B, φ, S, ρ, I, E, ?_⟩
 unfold fJ at f;cases e : m ρ S with
 | next ρ' S' => rw [e] at f; exact fun φ' σ' H' I' X r => f φ' σ' H' I' X (r.wipeE is)
 | ret d S' => rw [e] at f; exact f
 | brk ρ' S' => rw [e] at f; exact fun φ' σ' H' I' X r => f φ' σ' H' I' X (r.wipeE is)
 | cnt ρ' S' => rw [e] at f; exact fun φ' σ' H' I' X r => f φ' σ' H' I' X (r.wipeE is)
 | err x d S' => rw [e] at f; exact f
 | stuck => rw [e] at f; exact f
theorem hR (is : List Nat) (h : PSs X sts (gM X.K W m)) : PSs X sts (gM X.K W (fJ is m)) := tE h fun D σ H h => A5 h
abbrev FI := Ev -> aM -> Res (List PH.D)
def DN (K : aA) (B : Addr -> Prop) (φ : List Addr) (S : aM) (H : Hp) (J : It) (ds : List PH.D) : Prop := ∀ φ1 S1 H1 B1, GInv K B1 φ1 S1 H1 -> Kp (dW B φ S) H (dW B1 φ1 S1) H1 ->
 (∀ i, i < ds.length -> J.go i H1) /\ J.stop ds.length H1 /\ ∀ i x H2 d, ds[i]? = some d -> J.yld i H1 x H2 -> GInv K B1 φ1 S1 H2 /\ Ext φ1 S1 H1 φ1 S1 H2 /\ Rep K (dW B1 φ1 S1) H2 d x
def RI (K : aA) : Rl (List PH.D) It := fun B φ S H ds J => DN K B φ S H J ds
abbrev rdI (K : aA) (W : WX) (m : FI) : TI := rd K W (RI K) m
theorem Bi {tg iter : Expr} {t u : TI} (h : PI X tg iter t) (i : ∀ σ H R, u σ H R -> t σ H R) : PI X tg iter u := ⟨fun pins s σ H R I q => h.run pins s σ H R I (i σ H R q)⟩
theorem Ext.kpB {B1 : Addr -> Prop} {φ1 : List Addr} {S1 : aM} {H1 : Hp} (h1 : ∀ a, B a -> B1 a) (h2 : ∀ a, H a ≠ none -> B1 a -> B a) (I : GInv K B φ S H) (x : Ext φ S H φ1 S1 H1) : Kp (dW B φ S) H (dW B1 φ1 S1) H1 where
 old := fun b o h n => by
  obtain ⟨h3, h4⟩ := x.old b o h (fun q => n (.inr q))
  exact ⟨h3, fun q => by
   rcases q with q | q
   ·exact n (.inl (h2 b (by rw [h]; simp) q))
   ·exact h4 q⟩
 tup := (x.kp I).tup
theorem CM {v : L2.V} {ds : List PH.D} (I : GInv K B φ S H) (r : Rep K (dW B φ S) H (.lst ds) v) : ∃ a, v = .ref a /\ (∃ xs, SqL K H a xs) /\ DN K B φ S H (Itl K a) ds := by
 obtain ⟨a, vs, rfl, nb, h1, l⟩ := r;refine ⟨a, rfl, ⟨vs, SqL.of h1⟩, fun φ1 S1 H1 B1 I1 X1 => ?_⟩
 have h2 := (X1.old a _ h1 nb).1;have l2 := RepL.kp X1 ds vs l;have hl := l.len;refine ⟨fun i hi => ⟨vs, vs[i], SqL.of h2, by simp [hl, hi]⟩, ⟨vs, SqL.of h2, by omega⟩, fun i x H2 d hd y => ?_⟩
 obtain ⟨rfl, y⟩ := y;obtain ⟨v', h3, h4⟩ := l2.get hd;rw [y vs (SqL.of h2)] at h3;cases h3;exact ⟨I1, Ext.refl, h4⟩
theorem FC {v : L2.V} {ds : List PH.D} (I : GInv K B φ S H) (r : Rep K (dW B φ S) H (.tup ds) v) : ∃ a, v = .ref a /\ (∃ xs, SqT K H a xs) /\ DN K B φ S H (Itt K a) ds := by
 obtain ⟨a, vs, rfl, h1, l⟩ := r;refine ⟨a, rfl, ⟨vs, h1⟩, fun φ1 S1 H1 B1 I1 X1 => ?_⟩
 have h2 : SqT K H1 a vs := SqT.kp X1.tup h1;have l2 := RepL.kp X1 ds vs l;have hl := l.len;refine ⟨fun i hi => ⟨vs, vs[i], h2, by simp [hl, hi]⟩, ⟨vs, h2, by omega⟩, fun i x H2 d hd y => ?_⟩
 obtain ⟨rfl, y⟩ := y;obtain ⟨v', h3, h4⟩ := l2.get hd;rw [y vs h2] at h3;cases h3;exact ⟨I1, Ext.refl, h4⟩
def itemsOf : Vl -> aM -> Res (List PH.D)
 | .dat (.lst ds), S => .ok ds S
 | .dat (.tup ds), S => .ok ds S
 | _, _ => .stuck
def jA (a : FE) : FI := fun ρ S => (a ρ S).bind itemsOf
theorem mD {tg : Expr} (ha : PE X a (bV X.K W ma)) : PI X tg a (rdI X.K W (jA ma)) := Bi (AL ha) fun σ H R h =>
 bE (k := fun x _ S => itemsOf x S) h fun B φ S ρ d v H1 I E r f => by
  unfold itemsOf at f;split at f
  ·obtain ⟨a, rfl, h1, h2⟩ := CM I r
   exact qQ ⟨h1, Fin.now f I h2⟩
  ·obtain ⟨a, rfl, h1, h2⟩ := FC I r
   exact lJ ⟨h1, Fin.now f I h2⟩
  ·exact f.elim
def eS (lo : Int) (n : Nat) : List PH.D := (cL n).map fun (k : Nat) => PH.D.int (lo + (k : Int))
theorem FF {lo : Int} {n : Nat} : DN K B φ S H (Itr lo n) (eS lo n) := fun φ1 S1 H1 B1 I1 X1 => by
 refine ⟨fun i hi => by show i < n; simpa [eS] using hi, by show n <= _; simp [eS], fun i x H2 d hd y => ?_⟩
 obtain ⟨rfl, rfl⟩ := y;have : d = .int (lo + (i : Int)) := by
  unfold eS at hd;rw [eX] at hd;cases q : (cL n)[i]? with
  | none => rw [q] at hd; cases hd
  | some k =>
   rw [q] at hd;have := aF.mp q;obtain ⟨_, e⟩ := this;simp at e;subst e;cases hd;rfl
 subst this;exact ⟨I1, Ext.refl, rfl⟩
def gP (a : FE) : FI := fun ρ S => (a ρ S).bind fun x S1 => match x with
 | .dat (.int j) => if -(2 ^ 62) <= j /\ j < 2 ^ 62 then .ok (eS 0 j.toNat) S1 else .stuck
 | _ => .stuck
theorem kX {tg : Expr} (hg : Gl X "range") (hm : X.mg "range" = none) (ha : PE X a (bV X.K W ma)) (hs : starEach [a] X.env = [(false, eval a X.env)] := by rfl) : PI X tg (.Call (.Name "range" p) [a] [] pos) (rdI X.K W (gP ma)) := Bi (pi_range1 hg hm (pa_cons ha pa_nil hs) hs) fun σ H R h =>
 bE (k := fun x _ S1 => match x with | Vl.dat (PH.D.int j) => if -(2 ^ 62) <= j /\ j < 2 ^ 62 then Res.ok (eS 0 j.toNat) S1 else .stuck | _ => .stuck) h fun B φ S ρ d v H1 I E r f => by
  split at f
  ·rename_i j
   cases r;split at f
   ·rename_i hj
    exact ⟨j, rfl, hj.1, hj.2, Fin.now f I FF⟩
   ·exact f.elim
  ·exact f.elim
def pI : Nat -> List PH.D -> List PH.D
 | _, [] => []
 | n, d :: r => .tup [.int (n : Nat), d] :: pI (n + 1) r
def mEnum (a : FE) : FI := fun ρ S => (a ρ S).bind fun x S1 => match x with
 | .dat (.lst ds) => .ok (pI 0 ds) S1
 | _ => .stuck
def zipD : List PH.D -> List PH.D -> List PH.D
 | a :: r, b :: s => .tup [a, b] :: zipD r s
 | _, _ => []
end
section
variable {X : Cx} {W : WX} {e a b c : Expr} {es rest : List Expr} {pos p q p2 : Pos} {x y z : Str} {K : aA} {ma mb mc : FE} {mt mu : FT} {mas : FA} {mi : FI} {B : Addr -> Prop} {φ φ' : List Addr} {S S' : aM} {H H' : Hp} {σ : L2.St} {Q : VK} {m n : FS} {st : Stmt} {sts : List Stmt} {D : Ends} {t : Tg}
def loop (t : Tg) (mb : FS) : List PH.D -> Ev -> aM -> Out
 | [], ρ, S => .next ρ S
 | d :: r, ρ, S => match tJ t (.dat d) ρ with
  | none => .stuck
  | some ρ1 => match mb ρ1 S with
   | .next ρ2 S2 => loop t mb r ρ2 S2
   | .cnt ρ2 S2 => loop t mb r ρ2 S2
   | .brk ρ2 S2 => .next ρ2 S2
   | .ret d S2 => .ret d S2
   | .err e ρ2 S2 => .err e ρ2 S2
   | .stuck => .stuck
def kR (mi : FI) (t : Tg) (mb : FS) : FS := fun ρ S => (mi ρ S).toS ρ fun ds S1 => loop t mb ds ρ S1
theorem Bw (h : gM K W (kR mi t m) D σ H) : tFor (rdI K W mi) (Bs K t) (gM K W m) D σ H := by
 obtain ⟨B, φ, S, ρ, I, E, f⟩ := h;refine cG I E f fun φ0 S0 ds J H0 I0 X0 E0 r f0 => ?_
 refine ⟨fun i k σ' H' => i <= ds.length /\ k = ds.length - i /\ ∃ φ1 S1 ρ1, GInv K B φ1 S1 H' /\ Ext φ0 S0 H0 φ1 S1 H' /\ RepE K B φ1 S1 H' ρ1 σ' /\ FinS K W D B φ1 S1 H' (loop t m (ds.drop i) ρ1 S1), ⟨_, eQ _, rfl, φ0, S0, ρ, I0, Ext.refl, E0, f0⟩, ?_⟩
 rintro i k σ' H' ⟨hi, rfl, φ1, S1, ρ1, I1, X1, E1, f1⟩
 obtain ⟨hgo, hstop, hyld⟩ := r φ1 S1 H' B I1 (X1.kp I0)
 by_cases hlt : i < ds.length
 ·refine .inr ⟨hgo i hlt, fun σ2 H2 => i + 1 <= ds.length /\ ∃ φ2 S2 ρ2, GInv K B φ2 S2 H2 /\ Ext φ0 S0 H0 φ2 S2 H2 /\ RepE K B φ2 S2 H2 ρ2 σ2 /\ FinS K W D B φ2 S2 H2 (loop t m (ds.drop (i + 1)) ρ2 S2), fun σ2 H2 ⟨h1, h2⟩ => ⟨ds.length - (i + 1), by omega, h1, rfl, h2⟩, fun x H2 y => ?_⟩
  have hd : ds[i]? = some ds[i] := by simp [hlt]
  obtain ⟨I2, X2, r2⟩ := hyld i x H2 ds[i] hd y;rw [cO hlt] at f1;unfold loop at f1;have E2 := E1.ext X2 I1;have f2 := FinS.ext f1 X2;split at f2
  ·exact f2.elim
  ·rename_i ρ2 q2
   refine rQ E2 (d := .dat ds[i]) r2 q2 fun vs E3 => ⟨B, φ1, S1, ρ2, I2, E3, ?_⟩
   cases q3 : m ρ2 S1 with
   | next ρ3 S3 =>
    rw [q3] at f2;exact fun φ3 σ3 H3 I3 X3 E4 => ⟨hlt, φ3, S3, ρ3, I3, X1.trans (X2.trans X3), E4, FinS.ext f2 X3⟩
   | cnt ρ3 S3 =>
    rw [q3] at f2;exact fun φ3 σ3 H3 I3 X3 E4 => ⟨hlt, φ3, S3, ρ3, I3, X1.trans (X2.trans X3), E4, FinS.ext f2 X3⟩
   | brk ρ3 S3 => rw [q3] at f2; exact f2
   | ret d S3 => rw [q3] at f2; exact f2
   | err e ρ3 S3 => rw [q3] at f2; exact f2
   | stuck => rw [q3] at f2; exact f2
 ·have e : i = ds.length := by omega
  subst e;rw [pT] at f1;exact .inl ⟨hstop, f1 φ1 σ' H' I1 Ext.refl E1⟩
theorem pF {tg iter : Expr} (hp : PassesOwn (model X.prog X.w) X.A X.env X.xe) (hc : X.calm = true) (hi : PI X tg iter (rdI X.K W mi)) (hg : PG X tg (Bs X.K t)) (hb : PSs X sts (gM X.K W m))
  (hs : ∀ x, foldedSetIterable iter X.env x = pure x := by intro _; rfl) : PS X (.For tg iter sts [] pos) (gM X.K W (kR mi t m)) := fM (ps_for hp hc hi hg hb hs) fun D σ H h => Bw h
theorem jI : ∀ (vs : List Nat) (σ : L2.St) (j : Nat), (wipe σ vs)[j]? = if j ∈ vs then (σ[j]?).map (fun _ => none) else σ[j]?
 | [], σ, j => by simp [wipe]
 | v :: vs, σ, j => by
  unfold wipe;rw [aK, jI vs σ j, wipe_length]
  by_cases e : v = j
  ·subst e
   rw [if_pos rfl, if_pos (aY ..)]
   by_cases hl : v < σ.length
   ·rw [if_pos hl]; simp [hl]
   ·rw [if_neg hl]; simp [iR hl]
  ·rw [if_neg e]
   by_cases hm : j ∈ vs
   ·rw [if_pos hm, if_pos (bD _ hm)]
   ·rw [if_neg hm, if_neg]
    intro h;rcases aQ.mp h with h | h
    ·exact e h.symm
    ·exact hm h
theorem nQ {vs : List Nat} {σ : L2.St} {i : Nat} {v : Option L2.V} (hi : i ∈ vs) : wipe (σ.set i v) vs = wipe σ vs := by
 apply nE
 intro j;rw [jI, jI]
 by_cases hj : j ∈ vs
 ·rw [if_pos hj, if_pos hj, aK]
  by_cases e : i = j
  ·subst e
   rw [if_pos rfl]
   by_cases hl : i < σ.length
   ·rw [if_pos hl]; simp [hl]
   ·rw [if_neg hl]; simp [iR hl]
  ·rw [if_neg e]
 ·rw [if_neg hj, if_neg hj, aK, if_neg]
  intro e;subst e;exact hj hi
theorem xU {vs : List Nat} {σ : L2.St} : wipe (wipe σ vs) vs = wipe σ vs := by
 apply nE
 intro j;rw [jI]
 by_cases hj : j ∈ vs
 ·rw [if_pos hj, jI, if_pos hj]
  cases σ[j]? <;> rfl
 ·rw [if_neg hj]
theorem iS {vs : List Nat} : ∀ {is : List Nat} {ws : List L2.V} {σ : L2.St}, (∀ i ∈ is, i ∈ vs) -> wipe (putAll is ws σ) vs = wipe σ vs
 | [], ws, σ, _ => by cases ws <;> rfl
 | i :: is, [], σ, _ => rfl
 | i :: is, w :: ws, σ, h => by
  unfold putAll;rw [iS (is := is) fun j hj => h j (bD _ hj), nQ (h i (aY ..))]
theorem xV {vs : List Nat} {v : L2.V} {ws : List L2.V} (h : ∀ i ∈ tgS t, i ∈ vs) : wipe (EO t v ws σ) vs = wipe σ vs := by
 cases t with
 | nm i => exact nQ (h i (by simp [tgS]))
 | tp is => exact iS h
 | tn i is =>
  cases ws with
  | nil => rfl
  | cons w ws =>
   show wipe (putAll is ws (σ.set i (some w))) vs = _
   rw [iS fun j hj => h j (bD _ hj), nQ (h i (aY ..))]
theorem RepE.wipes {ρ : Ev} (E : RepE K B φ S H ρ σ) (vs : List Nat) : RepE K B φ S H (PH.wipeE ρ vs) (wipe σ vs) := by
 have hl : ∀ vs : List Nat, (PH.wipeE ρ vs).length = ρ.length := fun vs => by
  induction vs with
  | nil => rfl
  | cons v vs ih => simp [PH.wipeE, ih]
 have hg : ∀ (vs : List Nat) (i : Nat) (d : Vl), (PH.wipeE ρ vs)[i]? = some (some d) -> i ∉ vs /\ ρ[i]? = some (some d) := fun vs => by
  induction vs with
  | nil => intro i d h; exact ⟨by simp, h⟩
  | cons v vs ih =>
   intro i d h;unfold PH.wipeE at h;rw [aK] at h
   by_cases e : v = i
   ·rw [if_pos e] at h
    by_cases hv : v < (PH.wipeE ρ vs).length
    ·rw [if_pos hv] at h; cases h
    ·rw [if_neg hv] at h; cases h
   ·rw [if_neg e] at h
    obtain ⟨h1, h2⟩ := ih i d h;exact ⟨fun q => by
     rcases aQ.mp q with q | q
     ·exact e q.symm
     ·exact h1 q, h2⟩
 refine ⟨by rw [hl, wipe_length]; exact E.1, fun i d h => ?_⟩
 obtain ⟨h1, h2⟩ := hg vs i d h;obtain ⟨v, h3, h4⟩ := E.2 i d h2;exact ⟨v, by rw [jI, if_neg h1]; exact h3, h4⟩
def hI (B : Addr -> Prop) (a : Addr) : Addr -> Prop := fun b => B b \/ b = a
theorem GInv.plus {a : Addr} {o : HO} (I : GInv K B φ S H) (ha : H a = none) : GInv K (hI B a) φ S (upd H a o) where
 len := I.len
 ok := fun n c b h1 h2 => by
  have q := I.ok n c b h1 h2;have k : Kp (dW B φ S) H (dW (hI B a) φ S) (upd H a o) := Ext.kpB (B1 := hI B a) (fun _ h => .inl h) (fun b hb h => by
   rcases h with h | h
   ·exact h
   ·exact absurd (by rw [h]; exact ha) hb) I (Ext.new I ha)
  have hb : c ≠ .dead -> upd H a o b = H b := fun hc => upd_ne fun e => by
   subst e;exact I.fresh ha ⟨n, c, h1, hc, h2⟩
  have hV : ∀ {d : Vl} {v : L2.V}, RepV K B φ S H d v -> RepV K (hI B a) φ S (upd H a o) d v := fun {d v} r => by
   cases d with
   | dat d => exact Rep.kp k d v r
   | cel n => exact r
   | cels ns => obtain ⟨a', as, e1, e2, e3, e4⟩ := r; exact ⟨a', as, e1, (k.old _ _ e3 e2).2, (k.old _ _ e3 e2).1, e4⟩
   | scr ns => obtain ⟨a', e1, e2⟩ := r; exact ⟨a', e1, e2.keep fun o u h => by rw [upd_ne (ne_of_none h ha)]; exact h⟩
   | tc xs => obtain ⟨a', vs, e1, e2, e3⟩ := r; exact ⟨a', vs, e1, SqT.kp k.tup e2, e3.kp k (fun _ _ h => h)⟩
  have hF : ∀ {fs : List (Str × Vl)} {vs : List (Str × L2.V)}, RepF K B φ S H fs vs -> RepF K (hI B a) φ S (upd H a o) fs vs := fun {fs} => by
   induction fs with
   | nil => intro vs r; exact r
   | cons f fs ih => rintro vs ⟨v, ws, e, h1, h2⟩; exact ⟨v, ws, e, hV h1, ih h2⟩
  cases c with
  | dead => trivial
  | lst ds => obtain ⟨vs, e, r⟩ := q; exact ⟨vs, by rw [hb (by simp)]; exact e, RepL.kp k ds vs r⟩
  | ins C fs => obtain ⟨dx, vs, e, r⟩ := q; exact ⟨dx, vs, by rw [hb (by simp)]; exact e, hF r⟩
  | dct fs => obtain ⟨vs, e, r⟩ := q; exact ⟨vs, by rw [hb (by simp)]; exact e, hF r⟩
  | lv xs => obtain ⟨vs, e, r⟩ := q; exact ⟨vs, by rw [hb (by simp)]; exact e, cE hV r⟩
  | dki ks xs => obtain ⟨vs, e, r⟩ := q; exact ⟨vs, by rw [hb (by simp)]; exact e, cE hV r⟩
  | dkt ks xs => obtain ⟨vs, e, r⟩ := q; exact ⟨vs, by rw [hb (by simp)]; exact e, cE hV r⟩
 inj := I.inj
 blk := fun b h q => by
  rcases q with q | q
  ·exact I.blk b h q
  ·subst q; exact I.fresh ha h
 btr := fun b h => by
  rcases h with h | h
  ·obtain ⟨u, e⟩ := I.btr b h
   exact ⟨u, by rw [upd_ne (ne_of_none e ha)]; exact e⟩
  ·subst h; exact ⟨o, upd_same⟩
theorem RepV.less {a : Addr} {d : Vl} {v : L2.V} (r : RepV K (hI B a) φ S H d v) : RepV K B φ S H d v := by
 have k : Kp (dW (hI B a) φ S) H (dW B φ S) H := ⟨fun b o h n => ⟨h, fun q => n (by
  rcases q with q | q
  ·exact .inl (.inl q)
  ·exact .inr q)⟩, fun _ _ h => h⟩
 cases d with
 | dat d => exact Rep.kp k d v r
 | cel n => exact r
 | cels ns => obtain ⟨a', as, e1, e2, e3, e4⟩ := r; exact ⟨a', as, e1, (k.old _ _ e3 e2).2, e3, e4⟩
 | scr ns => exact r
 | tc xs => obtain ⟨a', vs, e1, e2, e3⟩ := r; exact ⟨a', vs, e1, SqT.kp k.tup e2, e3.kp k (fun _ _ h => h)⟩
theorem RepL.less {a : Addr} {ds : List PH.D} {vs : List L2.V} (r : RepL K (dW (hI B a) φ S) H ds vs) : RepL K (dW B φ S) H ds vs :=
 RepL.kp ⟨fun b o h n => ⟨h, fun q => n (by
  rcases q with q | q
  ·exact .inl (.inl q)
  ·exact .inr q)⟩, fun _ _ h => h⟩ ds vs r
theorem RepF.less {a : Addr} : ∀ {fs : List (Str × Vl)} {vs : List (Str × L2.V)}, RepF K (hI B a) φ S H fs vs -> RepF K B φ S H fs vs
 | [], vs, r => r
 | f :: fs, vs, ⟨v, ws, e, h1, h2⟩ => ⟨v, ws, e, h1.less, RepF.less h2⟩
theorem GInv.less {a : Addr} (I : GInv K (hI B a) φ S H) : GInv K B φ S H where
 len := I.len
 ok := fun n c b h1 h2 => by
  have q := I.ok n c b h1 h2;cases c with
  | dead => trivial
  | lst ds => obtain ⟨vs, e, r⟩ := q; exact ⟨vs, e, r.less⟩
  | ins C fs => obtain ⟨dx, vs, e, r⟩ := q; exact ⟨dx, vs, e, r.less⟩
  | dct fs => obtain ⟨vs, e, r⟩ := q; exact ⟨vs, e, r.less⟩
  | lv xs => obtain ⟨vs, e, r⟩ := q; exact ⟨vs, e, cE RepV.less r⟩
  | dki ks xs => obtain ⟨vs, e, r⟩ := q; exact ⟨vs, e, cE RepV.less r⟩
  | dkt ks xs => obtain ⟨vs, e, r⟩ := q; exact ⟨vs, e, cE RepV.less r⟩
 inj := I.inj
 blk := fun b h q => I.blk b h (.inl q)
 btr := fun b h => I.btr b (.inl h)
theorem Kp.plusPut {a : Addr} {acc : List L2.V} {o : HO} (ha : H a = some (.lst acc)) : Kp (dW (hI B a) φ S) H (dW (hI B a) φ S) (upd H a o) :=
 ⟨fun b o' h n => ⟨by
  rw [upd_ne]
  ·exact h
  ·intro e; subst e; exact n (.inl (.inr rfl)), n⟩, fun b w h => by
  have ne : b ≠ a := fun e => by
   subst e;rcases h with h | ⟨o', h⟩
   ·rw [ha] at h; cases h
   ·rw [ha] at h; cases h
  rcases h with h | ⟨o', h⟩
  ·exact .inl (by rw [upd_ne ne]; exact h)
  ·exact .inr ⟨o', by rw [upd_ne ne]; exact h⟩⟩
theorem RepV.plusPut {a : Addr} {acc : List L2.V} {o : HO} (ha : H a = some (.lst acc)) {d : Vl} {v : L2.V} (r : RepV K (hI B a) φ S H d v) : RepV K (hI B a) φ S (upd H a o) d v := by
 have k := Kp.plusPut (B := B) (φ := φ) (S := S) (o := o) ha;cases d with
 | dat d => exact Rep.kp k d v r
 | cel n => exact r
 | cels ns => obtain ⟨a', as, e1, e2, e3, e4⟩ := r; exact ⟨a', as, e1, (k.old _ _ e3 e2).2, (k.old _ _ e3 e2).1, e4⟩
 | scr ns =>
  obtain ⟨a', e1, e2⟩ := r;refine ⟨a', e1, e2.keep fun o u h => ?_⟩
  rw [upd_ne]
  ·exact h
  ·intro e; subst e; rw [ha] at h; cases h
 | tc xs => obtain ⟨a', vs, e1, e2, e3⟩ := r; exact ⟨a', vs, e1, SqT.kp k.tup e2, e3.kp k (fun _ _ h => h)⟩
theorem RepF.plusPut {a : Addr} {acc : List L2.V} {o : HO} (ha : H a = some (.lst acc)) : ∀ {fs : List (Str × Vl)} {vs : List (Str × L2.V)}, RepF K (hI B a) φ S H fs vs -> RepF K (hI B a) φ S (upd H a o) fs vs
 | [], vs, r => r
 | f :: fs, vs, ⟨v, ws, e, h1, h2⟩ => ⟨v, ws, e, h1.plusPut ha, RepF.plusPut ha h2⟩
theorem GInv.plusPut {a : Addr} {acc : List L2.V} {o : HO} (I : GInv K (hI B a) φ S H) (ha : H a = some (.lst acc)) : GInv K (hI B a) φ S (upd H a o) where
 len := I.len
 ok := fun n c b h1 h2 => by
  have q := I.ok n c b h1 h2;have k := Kp.plusPut (B := B) (φ := φ) (S := S) (o := o) ha;have hb : c ≠ .dead -> upd H a o b = H b := fun hc => upd_ne fun e => by
   subst e;exact I.blk b ⟨n, c, h1, hc, h2⟩ (.inr rfl)
  cases c with
  | dead => trivial
  | lst ds => obtain ⟨vs, e, r⟩ := q; exact ⟨vs, by rw [hb (by simp)]; exact e, RepL.kp k ds vs r⟩
  | ins C fs => obtain ⟨dx, vs, e, r⟩ := q; exact ⟨dx, vs, by rw [hb (by simp)]; exact e, r.plusPut ha⟩
  | dct fs => obtain ⟨vs, e, r⟩ := q; exact ⟨vs, by rw [hb (by simp)]; exact e, r.plusPut ha⟩
  | lv xs => obtain ⟨vs, e, r⟩ := q; exact ⟨vs, by rw [hb (by simp)]; exact e, cE (RepV.plusPut ha) r⟩
  | dki ks xs => obtain ⟨vs, e, r⟩ := q; exact ⟨vs, by rw [hb (by simp)]; exact e, cE (RepV.plusPut ha) r⟩
  | dkt ks xs => obtain ⟨vs, e, r⟩ := q; exact ⟨vs, by rw [hb (by simp)]; exact e, cE (RepV.plusPut ha) r⟩
 inj := I.inj
 blk := I.blk
 btr := fun b h => by
  by_cases e : b = a
  ·subst e; exact ⟨o, upd_same⟩
  ·obtain ⟨u, h1⟩ := I.btr b h
   exact ⟨u, by rw [upd_ne e]; exact h1⟩
theorem RepV.plus {a : Addr} {o : HO} (I : GInv K B φ S H) (ha : H a = none) {d : Vl} {v : L2.V} (r : RepV K B φ S H d v) : RepV K (hI B a) φ S (upd H a o) d v := by
 have k : Kp (dW B φ S) H (dW (hI B a) φ S) (upd H a o) := Ext.kpB (B1 := hI B a) (fun _ h => .inl h) (fun b hb h => by
  rcases h with h | h
  ·exact h
  ·exact absurd (by rw [h]; exact ha) hb) I (Ext.new I ha)
 cases d with
 | dat d => exact Rep.kp k d v r
 | cel n => exact r
 | cels ns => obtain ⟨a', as, e1, e2, e3, e4⟩ := r; exact ⟨a', as, e1, (k.old _ _ e3 e2).2, (k.old _ _ e3 e2).1, e4⟩
 | scr ns => obtain ⟨a', e1, e2⟩ := r; exact ⟨a', e1, e2.keep fun o u h => by rw [upd_ne (ne_of_none h ha)]; exact h⟩
 | tc xs => obtain ⟨a', vs, e1, e2, e3⟩ := r; exact ⟨a', vs, e1, SqT.kp k.tup e2, e3.kp k (fun _ _ h => h)⟩
theorem RepE.plus {a : Addr} {o : HO} {ρ : Ev} (I : GInv K B φ S H) (ha : H a = none) (E : RepE K B φ S H ρ σ) : RepE K (hI B a) φ S (upd H a o) ρ σ :=
 ⟨E.1, fun i d h => by
  obtain ⟨v, h1, h2⟩ := E.2 i d h;exact ⟨v, h1, h2.plus I ha⟩⟩
theorem RepE.plusPut {a : Addr} {acc : List L2.V} {o : HO} {ρ : Ev} (ha : H a = some (.lst acc)) (E : RepE K (hI B a) φ S H ρ σ) : RepE K (hI B a) φ S (upd H a o) ρ σ :=
 ⟨E.1, fun i d h => by
  obtain ⟨v, h1, h2⟩ := E.2 i d h;exact ⟨v, h1, h2.plusPut ha⟩⟩
theorem Fin.done {cl : Bool} {a : Addr} {ds : List PH.D} {vs : List L2.V} {H0 : Hp} {φ0 : List Addr} {S0 : aM} (f : Fin K W σ (RepV K) B φ0 S0 H0 (PH.newL cl ds S) Q) (I : GInv K (hI B a) φ S H) (X0 : Ext φ0 S0 H0 φ S H) (h0 : H0 a = none) (nB : ¬ B a) (ha : H a = some (.lst vs)) (l : RepL K (dW (hI B a) φ S) H ds vs) : Q (.ref a) H := by
 have na : ¬ dP φ S a := fun q => I.blk a q (.inr rfl)
 unfold PH.newL at f;cases cl with
 | false =>
  refine f φ _ H I.less X0 ⟨a, vs, rfl, fun q => ?_, ha, l.less⟩
  rcases q with q | q
  ·exact nB q
  ·exact na q
 | true =>
  have X1 : Ext φ0 S0 H0 (φ ++ [a]) (S ++ [.lst ds]) H := {
   old := fun b o h n => by
    obtain ⟨h1, h2⟩ := X0.old b o h n;refine ⟨h1, fun q => ?_⟩
    rcases (iE I.len).mp q with q | ⟨_, q⟩
    ·exact h2 q
    ·subst q; rw [h0] at h; cases h
   ids := fun n b h => by
    have := X0.ids n b h;rw [aI (aF.mp this).1]; exact this }
  have hS : ∀ b, dW B (φ ++ [a]) (S ++ [.lst ds]) b -> dW (hI B a) φ S b := fun b q => by
   rcases q with q | q
   ·exact .inl (.inl q)
   ·rcases (iE I.len).mp q with q | ⟨_, q⟩
    ·exact .inr q
    ·exact .inl (.inr q)
  have k : Kp (dW (hI B a) φ S) H (dW B (φ ++ [a]) (S ++ [.lst ds])) H := ⟨fun b o h n => ⟨h, fun q => n (hS b q)⟩, fun _ _ h => h⟩
  have hφ : ∀ (n : Nat) (b : Addr), φ[n]? = some b -> (φ ++ [a])[n]? = some b := fun n b h => by rw [aI (aF.mp h).1]; exact h
  have hV : ∀ {d : Vl} {v : L2.V}, RepV K (hI B a) φ S H d v -> RepV K B (φ ++ [a]) (S ++ [.lst ds]) H d v := fun {d v} r => by
   cases d with
   | dat d => exact Rep.kp k d v r
   | cel n => obtain ⟨b, e1, e2⟩ := r; exact ⟨b, e1, hφ _ _ e2⟩
   | cels ns => obtain ⟨a', as, e1, e2, e3, e4⟩ := r; exact ⟨a', as, e1, (k.old _ _ e3 e2).2, e3, sH hφ ns as e4⟩
   | scr ns => exact r
   | tc xs => obtain ⟨a', vs, e1, e2, e3⟩ := r; exact ⟨a', vs, e1, SqT.kp k.tup e2, e3.kp k hφ⟩
  have hF : ∀ {fs : List (Str × Vl)} {vs : List (Str × L2.V)}, RepF K (hI B a) φ S H fs vs -> RepF K B (φ ++ [a]) (S ++ [.lst ds]) H fs vs := fun {fs} => by
   induction fs with
   | nil => intro vs r; exact r
   | cons f fs ih => rintro vs ⟨v, ws, e, h1, h2⟩; exact ⟨v, ws, e, hV h1, ih h2⟩
  refine f (φ ++ [a]) _ H ?_ X1 ⟨a, rfl, by rw [<- I.len]; exact mS⟩
  exact {
   len := by simp [I.len]
   ok := fun n c b h1 h2 => by
    by_cases hn : n < S.length
    ·rw [aI hn] at h1
     rw [aI (by rw [I.len]; exact hn)] at h2
     have q := I.ok n c b h1 h2;cases c with
     | dead => trivial
     | lst es => obtain ⟨us, e, r⟩ := q; exact ⟨us, e, RepL.kp k es us r⟩
     | ins C fs => obtain ⟨dx, us, e, r⟩ := q; exact ⟨dx, us, e, hF r⟩
     | dct fs => obtain ⟨us, e, r⟩ := q; exact ⟨us, e, hF r⟩
     | lv xs => obtain ⟨us, e, r⟩ := q; exact ⟨us, e, cE hV r⟩
     | dki ks xs => obtain ⟨us, e, r⟩ := q; exact ⟨us, e, cE hV r⟩
     | dkt ks xs => obtain ⟨us, e, r⟩ := q; exact ⟨us, e, cE hV r⟩
    ·have e : n = S.length := by
      have := (aF.mp h1).1;simp at this;omega
     subst e;rw [aS (cC _)] at h1;rw [<- I.len, aS (cC _)] at h2;simp at h1 h2;subst h1 h2;exact ⟨vs, ha, RepL.kp k ds vs l⟩
   inj := fun n m c c' b h1 h2 h3 h4 h5 h6 => by
    have key : ∀ (n : Nat) (c : Cell), (S ++ [.lst ds])[n]? = some c -> (n < S.length /\ S[n]? = some c) \/ n = S.length := fun n c h => by
     by_cases hn : n < S.length
     ·rw [aI hn] at h; exact .inl ⟨hn, h⟩
     ·have := (aF.mp h).1
      simp at this;exact .inr (by omega)
    have kφ : ∀ n : Nat, n < S.length -> (φ ++ [a])[n]? = φ[n]? := fun n hn => aI (by rw [I.len]; exact hn)
    have kp : (φ ++ [a])[S.length]? = some a := by rw [<- I.len]; simp
    rcases key n c h1 with ⟨hn, e1⟩ | e1 <;> rcases key m c' h3 with ⟨hm, e2⟩ | e2
    ·rw [kφ n hn] at h5
     rw [kφ m hm] at h6;exact I.inj n m c c' b e1 h2 e2 h4 h5 h6
    ·subst e2
     rw [kp] at h6;cases h6;rw [kφ n hn] at h5;exact absurd ⟨n, c, e1, h2, h5⟩ na
    ·subst e1
     rw [kp] at h5;cases h5;rw [kφ m hm] at h6;exact absurd ⟨m, c', e2, h4, h6⟩ na
    ·omega
   blk := fun b h => by
    rcases (iE I.len).mp h with h | ⟨_, h⟩
    ·exact fun q => I.blk b h (.inl q)
    ·subst h; exact nB
   btr := fun b h => I.btr b (.inl h) }
end
section
variable {X : Cx} {W : WX} {e a b c : Expr} {es rest : List Expr} {pos p q p2 : Pos} {x y z : Str} {K : aA} {ma mb mc : FE} {mt mu : FT} {mas : FA} {mi mj : FI} {B : Addr -> Prop} {φ φ' : List Addr} {S S' : aM} {H H' : Hp} {σ : L2.St} {Q : VK} {m n : FS} {st : Stmt} {sts : List Stmt} {D : Ends} {t t1 : Tg}
def fT : FT := fun _ S => .ok true S
theorem Bu {Q : Bool -> Hp -> Prop} (h : nF K W fT σ H Q) : tYes σ H Q := by
 obtain ⟨B, φ, S, ρ, I, E, f⟩ := h;exact Fin.now (v := true) f I rfl
theorem DM {es : List Expr} {t u : TT} (h : PTs X es t) (i : ∀ σ H Q, u σ H Q -> t σ H Q) : PTs X es u := ⟨fun pins s σ H Q I q => h.run pins s σ H Q I (i σ H Q q)⟩
theorem jL : PTs X [] (nF X.K W fT) := DM pts_nil fun σ H Q h => Bu h
def jZ (t : Tg) (mt : FT) (me : FE) (ρ : Ev) : List PH.D -> aM -> Res (List PH.D)
 | [], S => .ok [] S
 | d :: r, S => match tJ t (.dat d) ρ with
  | none => .stuck
  | some ρ1 => match mt ρ1 S with
   | .ok b S1 => if b = true then (match me ρ1 S1 with
     | .ok (.dat e) S2 => (match jZ t mt me ρ r S2 with
      | .ok es S3 => .ok (e :: es) S3
      | _ => .stuck)
     | _ => .stuck) else jZ t mt me ρ r S1
   | _ => .stuck
def yK (cl : Bool) (mi : FI) (t : Tg) (mt : FT) (me : FE) (vs : List Nat) : FE := fun ρ S => (mi ρ S).bind fun ds S1 => if ds.length <= sizeLine then (match jZ t mt me (wipeE ρ vs) ds S1 with
 | .ok es S2 => newL cl es S2
 | _ => .stuck) else .stuck
theorem ET {cl : Bool} {me : FE} {vs : List Nat} (ht : ∀ i ∈ tgS t, i ∈ vs) (h : bV K W (yK cl mi t mt me vs) σ H Q) : tLc (rdI K W mi) (Bs K t) (nF K wNo mt) (bV K wNo me) vs σ H Q := by
 refine bE (k := fun ds ρ S1 => if ds.length <= sizeLine then (match jZ t mt me (wipeE ρ vs) ds S1 with | .ok es S2 => newL cl es S2 | _ => .stuck) else .stuck) h fun B φ0 S0 ρ ds J H0 I0 E0 r f0 => ?_
 intro A hA;split at f0
 case isFalse => exact f0.elim
 rename_i hsz;cases q0 : jZ t mt me (wipeE ρ vs) ds S0 with
 | stuck => rw [q0] at f0; exact f0.elim
 | err e S' => rw [q0] at f0; exact f0.elim
 | ok es0 Sz =>
 rw [q0] at f0;have nB : ¬ B A := fun q => by obtain ⟨u, e⟩ := I0.btr A q; rw [hA] at e; cases e
 have IA : GInv K (hI B A) φ0 S0 (upd H0 A (.lst [])) := I0.plus hA;have b2 : ∀ a, H0 a ≠ none -> hI B A a -> B a := fun b hb h => by
  rcases h with h | h
  ·exact h
  ·exact absurd (by rw [h]; exact hA) hb
 -- what is known at a turn
 refine ⟨fun i k H' => i <= ds.length /\ k = ds.length - i /\ ∃ φ1 S1 us acc rest, GInv K (hI B A) φ1 S1 H' /\ Ext φ0 S0 H0 φ1 S1 H' /\ RepE K (hI B A) φ1 S1 H' (wipeE ρ vs) (wipe σ vs) /\ H' A = some (.lst us) /\ us.length <= i /\ RepL K (dW (hI B A) φ1 S1) H' acc us /\ jZ t mt me (wipeE ρ vs) (ds.drop i) S1 = .ok rest Sz /\ acc ++ rest = es0,
  ⟨_, eQ _, rfl, φ0, S0, [], [], es0, IA, Ext.new I0 hA, (E0.wipes vs).plus I0 hA, upd_same, cC _, rfl, q0, rfl⟩, ?_⟩
 rintro i k H' ⟨hi, rfl, φ1, S1, us, acc, rs, I1, X1, E1, hA1, hul, l1, g1, ea⟩
 obtain ⟨hgo, hstop, hyld⟩ := r φ1 S1 H' (hI B A) I1 (X1.kpB (fun _ h => .inl h) b2 I0)
 by_cases hlt : i < ds.length
 ·refine .inr ⟨hgo i hlt, fun H2 => i + 1 <= ds.length /\ ∃ φ1 S1 us acc rest, GInv K (hI B A) φ1 S1 H2 /\ Ext φ0 S0 H0 φ1 S1 H2 /\ RepE K (hI B A) φ1 S1 H2 (wipeE ρ vs) (wipe σ vs) /\ H2 A = some (.lst us) /\ us.length <= i + 1 /\ RepL K (dW (hI B A) φ1 S1) H2 acc us /\ jZ t mt me (wipeE ρ vs) (ds.drop (i + 1)) S1 = .ok rest Sz /\ acc ++ rest = es0, fun H2 ⟨h1, h2⟩ => ⟨ds.length - (i + 1), by omega, h1, rfl, h2⟩, fun x H2 y => ?_⟩
  have hd : ds[i]? = some ds[i] := by simp [hlt]
  obtain ⟨I2, X2, r2⟩ := hyld i x H2 ds[i] hd y;rw [cO hlt] at g1;unfold jZ at g1;split at g1
  case h_1 => cases g1
  rename_i ρ2 q2;have hA2 := (X2.old A _ hA1 fun q => I1.blk A q (.inr rfl)).1
  refine rQ (E1.ext X2 I1) (d := .dat ds[i]) r2 q2 fun ws E3 => ⟨by rw [xV ht, xU], hI B A, φ1, S1, ρ2, I2, E3, ?_⟩
  split at g1
  case h_2 => cases g1
  rename_i b S3 q3;rw [q3];intro φ3 b' H3 I3 X3 rb;have rb : b' = b := rb;subst rb;have hA3 := (X3.old A _ hA2 fun q => I2.blk A q (.inr rfl)).1
  have Xa := X1.trans (X2.trans X3);cases b' with
  | false =>
   exact ⟨hlt, φ3, S3, us, acc, rs, I3, Xa, (E1.ext X2 I1).ext X3 I2, hA3, Nat.le_succ_of_le hul, X3.repL I2 (X2.repL I1 l1), g1, ea⟩
  | true =>
   rw [if_pos rfl];rw [if_pos rfl] at g1;refine ⟨hI B A, φ3, S3, ρ2, I3, E3.ext X3 I2, ?_⟩
   split at g1
   case h_2 => cases g1
   rename_i e S4 q4;rw [q4];intro φ4 v4 H4 I4 X4 r4;have hA4 := (X4.old A _ hA3 fun q => I3.blk A q (.inr rfl)).1
   split at g1
   case h_2 => cases g1
   rename_i es S5 q5;cases g1;have l4 : RepL K (dW (hI B A) φ4 S4) H4 (acc ++ [e]) (us ++ [v4]) := (X4.repL I3 (X3.repL I2 (X2.repL I1 l1))).snoc r4;refine ⟨us, hA4, by omega, hlt, φ4, S4, us ++ [v4], acc ++ [e], es, I4.plusPut hA4, ?_, (((E1.ext X2 I1).ext X3 I2).ext X4 I3).plusPut hA4, upd_same, by simp; omega, RepL.kp (Kp.plusPut hA4) _ _ l4, q5, by rw [<- ea]; simp⟩
   exact ⟨fun b o h nb => by
    obtain ⟨h1, h2⟩ := (Xa.trans X4).old b o h nb;exact ⟨by rw [upd_ne (fun e => by subst e; rw [hA] at h; cases h)]; exact h1, h2⟩, (Xa.trans X4).ids⟩
 ·have e : i = ds.length := by omega
  subst e;rw [pT] at g1;cases g1;rw [List.append_nil] at ea;subst ea;exact .inl ⟨hstop, Fin.done f0 I1 X1 hA nB hA1 l1⟩
theorem zC {cl : Bool} {me : FE} {elt tg iter : Expr} {ifs : List Expr} {scope : Scope} {own : List (Str × Nat)} (hc : X.calm = true) (hN : X.N.Nodup) (hi : PI X tg iter (rdI X.K W mi)) (ok : BlkOk X.N X.env.scope scope own)
  (hg : ∀ (s : Shared) (H : Hp) (C : Addr) (cl : List (Str × Addr)) (fp : List Addr), PG (X.blk s H scope (compEnvC scope cl C X.env) fp) tg (Bs X.K t)) (ht : ∀ (s : Shared) (H : Hp) (C : Addr) (cl : List (Str × Addr)) (fp : List Addr), PTs (X.blk s H scope (compEnvC scope cl C X.env) fp) ifs (nF X.K wNo mt))
  (he : ∀ (s : Shared) (H : Hp) (C : Addr) (cl : List (Str × Addr)) (fp : List Addr), PE (X.blk s H scope (compEnvC scope cl C X.env) fp) elt (bV X.K wNo me)) (hs : ∀ x, foldedSetIterable iter X.env x = pure x := by intro _; rfl) (hv : ∀ i ∈ tgS t, i ∈ own.map (·.2) := by decide) :
  PE X (.ListComp elt [⟨tg, iter, ifs, 0⟩] scope pos) (bV X.K W (yK cl mi t mt me (own.map (·.2)))) := bM (pe_lc hc hN hi ok hg ht he hs) fun σ H Q h => ET hv h
end
section
variable {X : Cx} {W : WX} {e a b c o i : Expr} {es rest : List Expr} {pos p q p2 tpos apos cpos : Pos} {x y z : Str} {K : aA} {ma mb mc mo mx : FE} {mt mt1 mu : FT} {mas : FA} {mi mj : FI} {B : Addr -> Prop} {φ φ' : List Addr} {S S' : aM} {H H' : Hp} {σ : L2.St} {Q : VK} {m n : FS} {st : Stmt} {sts : List Stmt} {D : Ends} {t t1 : Tg}
def AV (t : Tg) (mt : FT) (mj : FI) (t1 : Tg) (mt1 : FT) (me : FE) (vs1 : List Nat) (ρ : Ev) : List PH.D -> aM -> Res (List PH.D)
 | [], S => .ok [] S
 | d :: r, S => match tJ t (.dat d) ρ with
  | none => .stuck
  | some ρ1 => match mt ρ1 S with
   | .ok b S1 => if b = true then (match mj ρ1 S1 with
     | .ok ds1 S2 => (match jZ t1 mt1 me (wipeE ρ1 vs1) ds1 S2 with
      | .ok xs S3 => (match AV t mt mj t1 mt1 me vs1 ρ r S3 with
       | .ok ys S4 => .ok (xs ++ ys) S4
       | _ => .stuck)
      | _ => .stuck)
     | _ => .stuck) else AV t mt mj t1 mt1 me vs1 ρ r S1
   | _ => .stuck
def mLc2 (cl : Bool) (mi : FI) (t : Tg) (mt : FT) (mj : FI) (t1 : Tg) (mt1 : FT) (me : FE) (vs vs1 : List Nat) : FE := fun ρ S => (mi ρ S).bind fun ds S1 => match AV t mt mj t1 mt1 me vs1 (wipeE ρ vs) ds S1 with
 | .ok es S2 => if es.length <= sizeLine then newL cl es S2 else .stuck
 | _ => .stuck
def qJ (x y : Vl) (S : aM) : Res Vl := match x, y with
 | .cel n, .dat d => (match S[n]? with
  | some (.lst ds) => if ds.length < sizeLine then .ok (.dat .non) (S.set n (.lst (ds ++ [d]))) else .stuck
  | _ => .stuck)
 | _, _ => .stuck
theorem BS {n : Nat} {ds ds' : List PH.D} {v v' : L2.V} {d' : Vl} {vs vs' : List L2.V} {a : Addr} (I : GInv K B φ S H) (hn : S[n]? = some (.lst ds)) (ha : φ[n]? = some a) (l : RepL K (dW B φ S) H ds' vs') (r : RepV K B φ S H d' v')
  (f : Fin K W σ (RepV K) B φ S H (.ok d' (S.set n (.lst ds'))) Q) : Q v' (upd H a (.lst vs')) := by
 have X1 := Ext.put (H := H) (o := .lst vs') (x := .lst ds') hn (by simp) ha (by simp)
 have I1 : GInv K B φ (S.set n (.lst ds')) (upd H a (.lst vs')) := I.put hn (by simp) ha (by simp) ⟨vs', upd_same, X1.repL I l⟩
 exact f φ v' _ I1 X1 (r.ext X1 I)
theorem Ei : ∀ {x : L2.V} {y : L2.V} {d e : Vl}, GInv K B φ S H -> RepV K B φ S H d x -> RepV K B φ S H e y -> Fin K W σ (RepV K) B φ S H (qJ d e S) Q -> xO x [y] H Q := fun {x y d e} I r1 r2 f => by
 unfold qJ at f;split at f
 ·rename_i n d
  obtain ⟨a, rfl, h1⟩ := r1;split at f
  ·rename_i ds q
   obtain ⟨vs, h2, l⟩ := I.ok n _ a q h1;split at f
   ·rename_i hl
    exact ⟨vs, h2, by rw [l.len]; exact hl, BS (v := .non) (v' := .non) (d' := .dat .non) (vs := vs) I q h1 (l.snoc r2) rfl f⟩
   ·exact f.elim
  ·exact f.elim
 ·exact f.elim
theorem Be {d e : Vl} {v : L2.V} (I : GInv K B φ S H) (r : RepV K B φ S H d v) (h : ∃ ds, eD S d = some ds) : tyV K "list" v H := by
 obtain ⟨ds, q⟩ := h;obtain ⟨a, vs, rfl, h1, l⟩ := eC I q r;exact .inl ⟨rfl, vs, SqL.of h1⟩
def nA (a b : FE) : FE := fun ρ S => (a ρ S).bind fun x S1 => match eD S1 x with
 | some _ => (b ρ S1).bind fun y S2 => qJ x y S2
 | none => .stuck
theorem Dy (ha : PE X a (bV X.K W ma)) (hb : PE X b (bV X.K W mb)) (hs : starEach [b] X.env = (false, eval b X.env) :: starEach [] X.env := by rfl) (hbase : attributeBase a "append" X.env (eval a X.env) = eval a X.env := by rfl) (hline : (apos.endLine == cpos.line) = true := by rfl)
  (hfew : ((backTo cpos (starEach [b] X.env)).all (fun x => !x.1) && (backToKw cpos (keywordEach [] X.env)).all (fun x => x.1.isSome)
   && decide ([b].length + ([] : List Keyword).length + (if ([] : List Keyword).isEmpty then 0 else 1) < 30)) = true := by rfl)
  (hpl : (backTo cpos (starEach ([] : List Expr) X.env)).any (·.1) = false := by rfl) : PE X (.Call (.Attribute a "append" apos) [b] [] cpos) (bV X.K W (nA ma mb)) :=
 bM (pe_bm PySem.F.plainAttrs_list PySem.F.slot_list_append PySem.F.type_list_append vJ ha (pa_cons hb pa_nil hs) hbase hfew hline hs hpl) fun σ H Q h =>
  bE (k := fun x ρ S1 => match eD S1 x with | some _ => (mb ρ S1).bind fun y S2 => qJ x y S2 | none => .stuck) h fun B φ S ρ d v H1 I E r f => by
   split at f
   ·rename_i ds q
    exact ⟨Be (e := d) I r ⟨ds, q⟩, eJ I E f fun φ' S' d2 v2 H2 I2 X2 E2 r2 f2 => Ei I2 (r.ext X2 I) r2 f2⟩
   ·exact f.elim
def fPop (x : Vl) (S : aM) : Res Vl := match x with
 | .cel n => (match S[n]? with
  | some (.lst ds) => (match ds[ds.length - 1]? with
   | some d => .ok (.dat d) (S.set n (.lst ds.dropLast))
   | none => .stuck)
  | _ => .stuck)
 | _ => .stuck
def setC (x : Vl) (k : Int) (d : PH.D) (S : aM) : Option aM := match x with
 | .cel n => (match S[n]? with
  | some (.lst ds) => if 0 <= k /\ k.toNat < ds.length then some (S.set n (.lst (ds.set k.toNat d))) else none
  | _ => none)
 | _ => none
theorem wK {x : Vl} {k : Int} {d : PH.D} {v u : L2.V} {Qh : Hp -> Prop} (I : GInv K B φ S H) (r : RepV K B φ S H x v) (rd' : Rep K (dW B φ S) H d u) (h : setC x k d S = some S') (q : ∀ H', GInv K B φ S' H' -> Ext φ S H φ S' H' -> Qh H') : xK v (.int k) u H Qh := by
 unfold setC at h;split at h
 ·rename_i n
  obtain ⟨a, rfl, h1⟩ := r;split at h
  ·rename_i ds q1
   split at h
   ·rename_i hk
    cases h;obtain ⟨vs, h2, l⟩ := I.ok n _ a q1 h1;have X1 := Ext.put (H := H) (o := .lst (vs.set k.toNat u)) (x := .lst (ds.set k.toNat d)) q1 (by simp) h1 (by simp)
    exact ⟨vs, h2, hk.1, by rw [l.len]; exact hk.2, q _ (I.put q1 (by simp) h1 (by simp) ⟨_, upd_same, X1.repL I (l.set rd' _)⟩) X1⟩
   ·cases h
  ·cases h
 ·cases h
def oU (a o i : FE) : FS := fun ρ S => (a ρ S).toS ρ fun v S1 => (o ρ S1).toS ρ fun x S2 => (i ρ S2).toS ρ fun k S3 => match v, k with
 | .dat d, .dat (.int k) => (match setC x k d S3 with
  | some S4 => .next ρ S4
  | none => .stuck)
 | _, _ => .stuck
theorem xA (ha : PE X a (bV X.K W ma)) (ho : PE X o (bV X.K W mo)) (hi : PE X i (bV X.K W mx)) (hs : swapsWithSole [.Subscript o i tpos] a pos.line X.env = pure false := by rfl) (hw : swappedStores [.Subscript o i tpos] a X.env = pure none := by rfl)
  (h1 : (assignEach [.Subscript o i tpos] X.env).map (·.2) = [assign (.Subscript o i tpos) X.env] := by rfl)
  (hz : ∀ v, assign (.Subscript o i tpos) X.env v = (do
   let ov <- holding [v] (eval o X.env)
   let iv <- holding [v, ov] (eval i X.env)
   standAt tpos
   holding [v, ov, iv] (setItem ov iv v)
   release [v, ov, iv] []) := by intro _; rfl) : PS X (.Assign [.Subscript o i tpos] a pos) (gM X.K W (oU ma mo mx)) := fM (ps_asg ha (pg_sub ho hi qT hz) hs hw h1) fun D σ H h => by
 obtain ⟨B, φ, S, ρ, I, E, f⟩ := h;refine cG I E f fun φ1 S1 d1 v1 H1 I1 X1 E1 r1 f1 => cG I1 E1 f1 fun φ2 S2 d2 v2 H2 I2 X2 E2 r2 f2 => cG I2 E2 f2 fun φ3 S3 d3 v3 H3 I3 X3 E3 r3 f3 => ?_
 split at f3
 ·rename_i d k
  cases r3;split at f3
  ·rename_i S4 q
   exact wK I3 (r2.ext X3 I2) ((r1.ext X2 I1).ext X3 I2) q fun H' I' X' => f3 φ3 σ H' I' X' (E3.ext X' I3)
  ·exact f3.elim
 ·exact f3.elim
def Aj (x : Vl) (k : Int) (S : aM) : Option PH.D := match x with
 | .cel n => (match S[n]? with
  | some (.lst ds) => if 0 <= k then ds[k.toNat]? else none
  | _ => none)
 | _ => none
theorem CQ {x : Vl} {k : Int} {d : PH.D} {v : L2.V} {Q' : VK} (I : GInv K B φ S H) (r : RepV K B φ S H x v) (h : Aj x k S = some d) (q : ∀ u, Rep K (dW B φ S) H d u -> Q' u H) : xN v (.int k) H Q' := by
 unfold Aj at h;split at h
 ·rename_i n
  obtain ⟨a, rfl, h1⟩ := r;split at h
  ·rename_i ds q1
   split at h
   ·rename_i hk
    obtain ⟨vs, h2, l⟩ := I.ok n _ a q1 h1;obtain ⟨u, h3, h4⟩ := l.get h;exact ⟨vs, u, h2, hk, h3, q u h4⟩
   ·cases h
  ·cases h
 ·cases h
def rA (g : Int -> Int -> Int) (o i e : FE) : FS := fun ρ S => (o ρ S).toS ρ fun x S1 => (i ρ S1).toS ρ fun k S2 => match k with
 | .dat (.int k) => (match Aj x k S2 with
  | some (.int u) => (e ρ S2).toS ρ fun w S3 => (match w with
   | .dat (.int w) => (match setC x k (.int (g u w)) S3 with
    | some S4 => .next ρ S4
    | none => .stuck)
   | _ => .stuck)
  | _ => .stuck)
 | _ => .stuck
theorem A7 {g : Int -> Int -> Int} {r : R2} {me : FE} (hr : ∀ i j H Q, Q (.int (g i j)) H -> r (.int i) (.int j) H Q) (h : gM K W (rA g mo mx me) D σ H) : tAugS (bV K W mo) (bV K W mx) (bV K W me) xN (cIp r) xK D σ H := by
 obtain ⟨B, φ, S, ρ, I, E, f⟩ := h;refine cG I E f fun φ1 S1 d1 v1 H1 I1 X1 E1 r1 f1 => cG I1 E1 f1 fun φ2 S2 d2 v2 H2 I2 X2 E2 r2 f2 => ?_
 split at f2
 ·rename_i k
  cases r2;split at f2
  ·rename_i u q
   refine CQ I2 (r1.ext X2 I1) q fun u' ru => ?_
   cases ru;refine cG I2 E2 f2 fun φ3 S3 d3 v3 H3 I3 X3 E3 r3 f3 => ?_
   split at f3
   ·rename_i w
    cases r3;split at f3
    ·rename_i S4 q4
     refine hr _ _ _ _ ?_
     exact wK I3 ((r1.ext X2 I1).ext X3 I2) (d := .int (g u w)) rfl q4 fun H' I' X' => f3 φ3 σ H' I' X' (E3.ext X' I3)
    ·exact f3.elim
   ·exact f3.elim
  ·exact f2.elim
 ·exact f2.elim
theorem vW {me : FE} (ho : PE X o (bV X.K W mo)) (hi : PE X i (bV X.K W mx)) (he : PE X e (bV X.K W me)) (ha : ∀ ov iv new, augStore i ov iv new = (do holding [new, ov, iv] (setItem ov iv new); release [new, ov, iv] []; pure .next) := by intros; rfl) : PS X (.AugAssign (.Subscript o i tpos) .Add e pos) (gM X.K W (rA (fun x y => x + y) mo mx me)) :=
 fM (EX ho hi he CN ha) fun D σ H h => A7 (fun _ _ _ _ q => q) h
def mPar (i j : Nat) (a b : FE) : FS := fun ρ S => (a ρ S).toS ρ fun x S1 => (b ρ S1).toS ρ fun y S2 => .next ((ρ.set i (some x)).set j (some y)) S2
end
abbrev FD := List Vl -> aM -> Res Vl
def spF (K : aA) (m : FD) : Sp := fun vs H Q E => ∃ B φ S ds, GInv K B φ S H /\ RepVs K B φ S H ds vs /\ Fin K (fun c x _ H => E c x H) [] (RepV K) B φ S H (m ds S) Q
section
variable {X : Cx} {W : WX} {e a b c o i : Expr} {es rest : List Expr} {pos p q p2 tpos apos cpos : Pos} {x y z : Str} {K : aA} {ma mb mc mo mx : FE} {mt mt1 mu : FT} {mas : FA} {mi mj : FI} {B : Addr -> Prop} {φ φ' : List Addr} {S S' : aM} {H H' : Hp} {σ : L2.St} {Q : VK} {m n : FS} {st : Stmt} {sts : List Stmt} {D : Ends} {t t1 : Tg} {ps : List Str} {md : FD} {j k : Nat}
theorem Fin.toE {r : Res Vl} (f : Fin K W σ (RepV K) B φ S H r Q) : Fin K (fun c x _ H => WE W σ c x H) [] (RepV K) B φ S H r Q := by
 cases r with
 | ok d S' => exact f
 | err e S' => exact f
 | stuck => exact f
def aN (md : FD) (as : FA) : FE := fun ρ S => (as ρ S).bind md
theorem aU (F : mX X.prog X.w X.K X.mg X.base j x ps (spF X.K md)) (hr : Room k X.A) (tk : Takes X W) (ha : PA X (e :: es) (zU X.K W mas)) (hjk : j <= k := by decide) (hg : Gl X x := by rfl) (hdb : (x == ("__debug__" : Str)) = false := by decide)
  (he : starEach (e :: es) X.env = (false, eval e X.env) :: starEach es X.env := by rfl) (hpl : (backTo pos (starEach es X.env)).any (·.1) = false := by rfl) : PE X (.Call (.Name x p) (e :: es) [] pos) (bV X.K W (aN md mas)) := by
 obtain ⟨fd, F, hm, hk, hb⟩ := F;refine bM (pe_callS (E := WE W) F (hr.mono hjk) hg hm hk hb (fun σ => passAt tk σ) ha hdb he hpl) fun σ H Q h => ?_
 exact bE (k := fun ds _ S => md ds S) h fun B φ S ρ d v H1 I E r f => ⟨B, φ, S, d, I, r, f.toE⟩
theorem kY (F : mX X.prog X.w X.K X.mg X.base j x ps (spF X.K md)) (hr : Room k X.A) (tk : Takes X W) (hjk : j <= k := by decide) (hg : Gl X x := by rfl) (hdb : (x == ("__debug__" : Str)) = false := by decide) : PE X (.Call (.Name x p) [] [] pos) (bV X.K W (aN md aJ)) := by
 obtain ⟨fd, F, hm, hk, hb⟩ := F;refine ⟨fun pins s σ H Q I h => ?_⟩
 refine wpAny_Call_Name_kw (ld_glob I hg hm ?_ hdb)
 refine PySem.W.callWith_K0 I.kIn hk (run_fnS (E := WE W) F (hr.mono hjk) hb (passAt tk σ) I .nil ?_)
 obtain ⟨B, φ, S, ρ, J, E, f⟩ := h;exact ⟨B, φ, S, [], J, rfl, Fin.toE f⟩
mutual
def FG (n : Nat) : TIt -> Bool
 | .inl _ => true
 | .inr m => decide (m < n)
 | .tup xs => vO n xs
def vO (n : Nat) : List TIt -> Bool
 | [] => true
 | x :: xs => FG n x && vO n xs
end
theorem uD {n : Nat} : ∀ xs : List TIt, vO n xs = xs.all (FG n)
 | [] => by simp [vO]
 | x :: xs => by rw [vO, uD xs, lK]
def Vl.below (n : Nat) : Vl -> Bool
 | .dat _ => true
 | .cel m => decide (m < n)
 | .cels ms => ms.all fun m => decide (m < n)
 | .scr _ => true
 | .tc xs => xs.all (FG n)
def Cell.below (n : Nat) : Cell -> Bool
 | .dead => true
 | .lst _ => true
 | .ins _ fs => fs.all fun f => f.2.below n
 | .dct fs => fs.all fun f => f.2.below n
 | .lv xs => xs.all fun x => x.below n
 | .dki _ xs => xs.all fun x => x.below n
 | .dkt _ xs => xs.all fun x => x.below n
def trunc (n : Nat) (r : Res Vl) : Res Vl := match r with
 | .ok d S => if d.below n && ((S.take n).all fun c => c.below n) then .ok d (S.take n) else .stuck
 | .err e S => if (S.take n).all fun c => c.below n then .err e (S.take n) else .stuck
 | .stuck => .stuck
def cM : Out -> Res Vl
 | .ret d S => .ok d S
 | .next _ S => .ok (.dat .non) S
 | .err e _ S => .err e S
 | _ => .stuck
def envOf (n : Nat) (ds : List Vl) : Ev := ds.map some ++ gZ (n - ds.length) none
def run (n np : Nat) (mb : FS) : FD := fun ds S => if ds.length = np then cM (mb (envOf n ds) S) else .stuck
def yD (n np : Nat) (mb : FS) : FD := fun ds S => if ds.length = np then trunc S.length (cM (mb (envOf n ds) S)) else .stuck
theorem kI {α : Type} {n m : Nat} {l : List α} (h : m < n) : (l.take n)[m]? = l[m]? := by
 rw [hG, if_pos h]
theorem gH {n : Nat} {a : Addr} (h : dP (φ.take n) (S.take n) a) : dP φ S a := by
 obtain ⟨m, c, h1, h2, h3⟩ := h;rw [hG] at h1 h3
 by_cases hm : m < n
 ·rw [if_pos hm] at h1 h3; exact ⟨m, c, h1, h2, h3⟩
 ·rw [if_neg hm] at h1; cases h1
mutual
theorem RepI.takeN {n : Nat} {K : aA} {Bk Bk' : Addr -> Prop} {φ : List Addr} {H : Hp} (k : Kp Bk H Bk' H) : ∀ {x : TIt} {v : L2.V}, RepI K Bk φ H x v -> FG n x = true -> RepI K Bk' (φ.take n) H x v
 | .inl d, v, r, _ => Rep.kp k d v r
 | .inr m, v, ⟨b, q1, q2⟩, h => ⟨b, q1, by rw [FG] at h; rw [kI (of_decide_eq_true h)]; exact q2⟩
 | .tup xs, v, ⟨a, vs, h1, h2, h3⟩, h => ⟨a, vs, h1, SqT.kp k.tup h2, RepIs.takeM k h3 (by rw [FG] at h; exact h)⟩
theorem RepIs.takeM {n : Nat} {K : aA} {Bk Bk' : Addr -> Prop} {φ : List Addr} {H : Hp} (k : Kp Bk H Bk' H) : ∀ {xs : List TIt} {vs : List L2.V}, RepIs K Bk φ H xs vs -> vO n xs = true -> RepIs K Bk' (φ.take n) H xs vs
 | [], vs, r, _ => r
 | x :: xs, vs, ⟨v, ws, e, h1, h2⟩, h => by
  rw [vO, fO] at h;exact ⟨v, ws, e, RepI.takeN k h1 h.1, RepIs.takeM k h2 h.2⟩
end
theorem RepIs.takeN {n : Nat} {K : aA} {Bk Bk' : Addr -> Prop} {φ : List Addr} {H : Hp} (k : Kp Bk H Bk' H) {xs : List TIt} {vs : List L2.V} (r : RepIs K Bk φ H xs vs) (h : xs.all (FG n) = true) : RepIs K Bk' (φ.take n) H xs vs := RepIs.takeM k r (by rw [uD]; exact h)
theorem RepV.take {n : Nat} {d : Vl} {v : L2.V} (r : RepV K B φ S H d v) (h : d.below n = true) : RepV K B (φ.take n) (S.take n) H d v := by
 have k : Kp (dW B φ S) H (dW B (φ.take n) (S.take n)) H := ⟨fun b o h nb => ⟨h, fun q => nb (by
  rcases q with q | q
  ·exact .inl q
  ·exact .inr (gH q))⟩, fun _ _ h => h⟩
 cases d with
 | dat d => exact Rep.kp k d v r
 | cel m =>
  obtain ⟨a, e, h1⟩ := r;exact ⟨a, e, by rw [kI (of_decide_eq_true h)]; exact h1⟩
 | cels ms =>
  obtain ⟨a, as, e1, e2, e3, e4⟩ := r;refine ⟨a, as, e1, (k.old _ _ e3 e2).2, e3, ?_⟩
  rw [<- e4]
  apply lI
  intro m hm;exact kI (of_decide_eq_true (bH.mp h m hm))
 | scr ns => exact r
 | tc xs => obtain ⟨a, vs, e1, e2, e3⟩ := r; exact ⟨a, vs, e1, SqT.kp k.tup e2, RepIs.takeN k e3 h⟩
theorem RepF.take {n : Nat} : ∀ {fs : List (Str × Vl)} {vs : List (Str × L2.V)}, RepF K B φ S H fs vs -> (fs.all fun f => f.2.below n) = true -> RepF K B (φ.take n) (S.take n) H fs vs
 | [], vs, r, _ => r
 | f :: fs, vs, ⟨v, ws, e, h1, h2⟩, h => by
  simp only [lK, fO] at h;exact ⟨v, ws, e, h1.take h.1, RepF.take h2 h.2⟩
theorem RepVs.take {n : Nat} : ∀ {fs : List Vl} {vs : List L2.V}, RepVs K B φ S H fs vs -> (fs.all fun f => f.below n) = true -> RepVs K B (φ.take n) (S.take n) H fs vs
 | [], vs, r, _ => r
 | f :: fs, vs, ⟨v, ws, e, h1, h2⟩, h => by
  simp only [lK, fO] at h;exact ⟨v, ws, e, h1.take h.1, RepVs.take h2 h.2⟩
theorem GInv.take {n : Nat} (I : GInv K B φ S H) (h : ((S.take n).all fun c => c.below n) = true) : GInv K B (φ.take n) (S.take n) H where
 len := by rw [List.length_take, List.length_take, I.len]
 ok := fun m c a h1 h2 => by
  have hc := bH.mp h c (fY h1);rw [hG] at h1 h2
  by_cases hm : m < n
  ·rw [if_pos hm] at h1 h2
   have q := I.ok m c a h1 h2;have k : Kp (dW B φ S) H (dW B (φ.take n) (S.take n)) H := ⟨fun b o h nb => ⟨h, fun q => nb (by
    rcases q with q | q
    ·exact .inl q
    ·exact .inr (gH q))⟩, fun _ _ h => h⟩
   cases c with
   | dead => trivial
   | lst ds => obtain ⟨vs, e, r⟩ := q; exact ⟨vs, e, RepL.kp k ds vs r⟩
   | ins C fs => obtain ⟨dx, vs, e, r⟩ := q; exact ⟨dx, vs, e, r.take hc⟩
   | dct fs => obtain ⟨vs, e, r⟩ := q; exact ⟨vs, e, r.take hc⟩
   | lv xs => obtain ⟨vs, e, r⟩ := q; exact ⟨vs, e, r.take hc⟩
   | dki ks xs => obtain ⟨vs, e, r⟩ := q; exact ⟨vs, e, r.take hc⟩
   | dkt ks xs => obtain ⟨vs, e, r⟩ := q; exact ⟨vs, e, r.take hc⟩
  ·rw [if_neg hm] at h1; cases h1
 inj := fun i j d d' b h1 h2 h3 h4 h5 h6 => by
  rw [hG] at h1 h3 h5 h6
  by_cases hi : i < n
  ·by_cases hj : j < n
   ·rw [if_pos hi] at h1 h5
    rw [if_pos hj] at h3 h6;exact I.inj i j d d' b h1 h2 h3 h4 h5 h6
   ·rw [if_neg hj] at h3; cases h3
  ·rw [if_neg hi] at h1; cases h1
 blk := fun b h => I.blk b (gH h)
 btr := I.btr
theorem Ext.take {n : Nat} {φ0 : List Addr} {S0 : aM} {H0 : Hp} (x : Ext φ0 S0 H0 φ S H) (hn : φ0.length <= n) : Ext φ0 S0 H0 (φ.take n) (S.take n) H :=
 ⟨fun b o h nb => ⟨(x.old b o h nb).1, fun q => (x.old b o h nb).2 (gH q)⟩, fun m a h => by
  have := (aF.mp h).1;rw [kI (by omega)]
  exact x.ids m a h⟩
theorem Fin.trunc {r : Res Vl} {n : Nat} (f : Fin K W σ (RepV K) B φ S H (PH.trunc n r) Q) (I : GInv K B φ S H) (hn : n = S.length) : Fin K W σ (RepV K) B φ S H r Q := by
 have hl : φ.length <= n := by rw [hn, I.len]; exact cC _
 cases r with
 | ok d S' =>
  unfold PH.trunc at f;dsimp only at f;split at f
  ·rename_i h
   obtain ⟨h1, h2⟩ := zS.mp h;exact fun φ' v H' I' X' r' => f (φ'.take n) v H' (I'.take h2) (X'.take hl) (r'.take h1)
  ·exact f.elim
 | err e S' =>
  unfold PH.trunc at f;dsimp only at f;split at f
  ·rename_i h
   refine fun φ' c x H' I' X' r' => f (φ'.take n) c x H' (I'.take h) (X'.take hl) ⟨r'.1, ?_⟩
   rcases r'.2 with h0 | ⟨d, vs, e1, e2, e3⟩
   ·exact .inl h0
   ·refine .inr ⟨d, vs, e1, e2, RepL.kp ⟨fun b o h nb => ⟨h, fun q => nb (by
     rcases q with q | q
     ·exact .inl q
     ·exact .inr (gH q))⟩, fun _ _ h => h⟩ _ _ e3⟩
  ·exact f.elim
 | stuck => exact f
theorem BM {ds : List Vl} {vs : List L2.V} {N : List Str} (r : RepVs K B φ S H ds vs) : RepE K B φ S H (envOf N.length ds) (start N vs) := by
 have hl := r.len;have hg : ∀ {ds : List Vl} {vs : List L2.V}, RepVs K B φ S H ds vs -> ∀ (i : Nat) (d : Vl), ds[i]? = some d -> ∃ v, vs[i]? = some v /\ RepV K B φ S H d v := fun {ds} => by
  induction ds with
  | nil => intro vs r i d h; simp at h
  | cons d ds ih =>
   rintro vs ⟨v, ws, e, h1, h2⟩ i d' h
   subst e;cases i with
   | zero => simp at h; subst h; exact ⟨v, rfl, h1⟩
   | succ i =>
    obtain ⟨v', h3, h4⟩ := ih h2 i d' (by simpa using h)
    exact ⟨v', by simpa using h3, h4⟩
 unfold envOf L2.start;refine ⟨by simp [hl], fun i d h => ?_⟩
 by_cases hi : i < ds.length
 ·rw [aI (by simpa using hi)] at h
  rw [aI (by simp [hl, hi])]
  rw [eX] at h ⊢;cases q : ds[i]? with
  | none => rw [q] at h; cases h
  | some d' =>
   rw [q] at h;have : d' = d := by simpa using h
   subst this;obtain ⟨v, h1, h2⟩ := hg r i d' q;exact ⟨v, by rw [h1]; rfl, h2⟩
 ·rw [aS (by simpa using iR hi)] at h
  rw [uY] at h;split at h <;> cases h
theorem uL {mb : FS} {E : XK} {ds : List Vl} {vs : List L2.V} {N : List Str} (I : GInv K B φ S H) (r : RepVs K B φ S H ds vs) (f : Fin K (fun c x _ H => E c x H) [] (RepV K) B φ S H (cM (mb (envOf N.length ds) S)) Q) : gM K (fun c x _ H => E c x H) mb { nx := fun _ H' => Q .non H', rt := Q } (start N vs) H := by
 refine ⟨B, φ, S, envOf N.length ds, I, BM r, ?_⟩
 unfold cM at f;cases q : mb (envOf N.length ds) S with
 | next ρ' S' => rw [q] at f; exact fun φ' σ' H' I' X' _ => f φ' _ H' I' X' rfl
 | ret d S' => rw [q] at f; exact f
 | brk ρ' S' => rw [q] at f; exact f.elim
 | cnt ρ' S' => rw [q] at f; exact f.elim
 | err e ρ' S' => rw [q] at f; exact fun φ' σ' c x H' I' X' _ r' => f φ' c x H' I' X' r'
 | stuck => rw [q] at f; exact f
end
section
variable {P : Program} {w : World} {K : aA} {mg : Str -> Option Value} {base : Heap}
structure Runs (md : FD) (n np : Nat) (mb : FS) : Prop where
 ok : ∀ ds S, ds.length = np -> md ds S = cM (mb (envOf n ds) S) \/ md ds S = trunc S.length (cM (mb (envOf n ds) S))
 no : ∀ ds S, ds.length ≠ np -> md ds S = .stuck
theorem Runs.plain {n np : Nat} {mb : FS} : Runs (run n np mb) n np mb := ⟨fun ds S h => .inl (by unfold run; rw [if_pos h]), fun ds S h => by unfold run; rw [if_neg h]⟩
theorem Runs.cut {n np : Nat} {mb : FS} : Runs (yD n np mb) n np mb := ⟨fun ds S h => .inr (by unfold yD; rw [if_pos h]), fun ds S h => by unfold yD; rw [if_neg h]⟩
theorem rS {md : FD} {n np : Nat} {mb : FS} (R : Runs md n np mb) : ∀ vs H Q E, spF K md vs H Q E -> vs.length = np := fun vs H Q E ⟨B, φ, S, ds, I, r, f⟩ => by
 rw [r.len]
 by_cases h : ds.length = np
 ·exact h
 ·rw [R.no ds S h] at f; exact f.elim
theorem nT {md : FD} {np : Nat} {mb : FS} {N : List Str} (R : Runs md N.length np mb) {vs : List L2.V} {H : Hp} {Q : VK} {E : XK} (h : spF K md vs H Q E) : gM K (fun c x _ H => E c x H) mb { nx := fun _ H' => Q .non H', rt := Q } (start N vs) H := by
 obtain ⟨B, φ, S, ds, I, r, f⟩ := h
 by_cases hl : ds.length = np
 ·rcases R.ok ds S hl with e | e
  ·rw [e] at f; exact uL I r f
  ·rw [e] at f; exact uL I r (Fin.trunc f I rfl)
 ·rw [R.no ds S hl] at f; exact f.elim
theorem okF {x : Str} {st : Stmt} {N ps : List Str} {k : Nat} {md : FD} {mb : FS} (F : nC K x st) (g : mg x = some (.ref (He.ga K x))) (S : FnScope N ps (defScope st)) (R : Runs md N.length ps.length mb)
  (bnd : ∀ (kV doc pm : Value) (an : Option Addr) (cdv ct : Value) (us : List Value), us.length = ps.length -> bindArgs (dH x x (defArgs st) (defBody st) (defScope st) .none kV doc pm an cdv ct) ⟨us, []⟩ = pure (ps.zip us))
  (hbody : ∀ (cdv : Value) (A : Around) (outer : List Env) (s : Shared) (H : Hp) (E : XK), Room k (A.deeper (envOfC x (defScope st) s.heap.objs.size (He.ga K x) cdv)) ->
   PSs (cxOf (L2.CX P w) P w K mg base N x (defScope st) (He.ga K x) cdv A outer s H E) (defBody st) (gM K (fun c x _ H => E c x H) mb)) : mX P w K mg base (k + 1) x ps (spF K md) :=
 AQ F g S (rS R) bnd fun cdv A outer s H vs Q E hr h => ⟨_, hbody cdv A outer s H E hr, nT R h⟩
end
section
variable {X : Cx} {W : WX} {e a b c o i : Expr} {es rest : List Expr} {pos p q p2 tpos apos cpos pos' : Pos} {x y z f C mn : Str} {K : aA} {ma mb mc mo mx : FE} {mt mt1 mu : FT} {mas : FA} {B : Addr -> Prop} {φ φ' : List Addr} {S S' : aM} {H H' : Hp} {σ : L2.St} {Q : VK} {m n : FS} {D : Ends} {ps : List Str} {md : FD} {j k : Nat}
def rD (S : aM) (C mn : Str) : Vl -> Bool
 | .cel n => match S[n]? with
  | some (.ins C' fs) => decide (C' = C) && fs.all fun f => decide (f.1 ≠ mn)
  | _ => false
 | .dat (.ins C' ns _) => decide (C' = C) && ns.all fun f => decide (f ≠ mn)
 | _ => false
def iM (C mn : Str) (md : FD) (o : FE) (as : FA) : FE := fun ρ S => (o ρ S).bind fun x S1 => if rD S1 C mn x = true then (as ρ S1).bind fun ds S2 => md (x :: ds) S2 else .stuck
def BH (S : aM) (C f : Str) : Vl -> Option Vl
 | .cel n => match S[n]? with
  | some (.ins C' fs) => if C' = C then fs.lookup f else none
  | _ => none
 | .dat (.ins C' ns xs) => if C' = C then ((ns.zip xs).lookup f).map Vl.dat else none
 | _ => none
theorem tL {Bk : Addr -> Prop} {d : PH.D} : ∀ {ns : List Str} {ds : List PH.D} {vs : List L2.V}, RepL K Bk H ds vs -> (ns.zip ds).lookup f = some d -> ∃ v, (ns.zip vs).lookup f = some v /\ Rep K Bk H d v
 | [], ds, vs, r, h => by simp at h
 | n :: ns, [], vs, r, h => by simp at h
 | n :: ns, d' :: ds, vs, ⟨v, ws, e, h1, h2⟩, h => by
  subst e;rw [List.zip_cons_cons, pU] at h ⊢;cases q : f == n with
  | true => rw [q] at h; cases h; exact ⟨v, rfl, h1⟩
  | false => rw [q] at h; exact tL h2 h
def mZ (C f : Str) (o : FE) : FE := fun ρ S => (o ρ S).bind fun x S1 => match BH S1 C f x with
 | some d => .ok d S1
 | none => .stuck
def Da (f : Str) (v : Vl) : List (Str × Vl) -> List (Str × Vl)
 | [] => [(f, v)]
 | (g, x) :: r => if g = f then (g, v) :: r else (g, x) :: Da f v r
def setF (S : aM) (C f : Str) (x d : Vl) : Option aM := match x with
 | .cel n => (match S[n]? with
  | some (.ins C' fs) => if C' = C /\ fs.length < 1000 then some (S.set n (.ins C (Da f d fs))) else none
  | _ => none)
 | _ => none
def mSetF (C f : Str) (o v : FE) : FS := fun ρ S => (v ρ S).toS ρ fun d S1 => (o ρ S1).toS ρ fun x S2 => match setF S2 C f x d with
 | some S3 => .next ρ S3
 | none => .stuck
end
section
variable {X : Cx} {W : WX} {e a b c o i : Expr} {es rest : List Expr} {pos p q p2 tpos apos cpos pos' : Pos} {x y z f mn : Str} {K : aA} {ma mb mc mo mx : FE} {mas : FA} {B : Addr -> Prop} {φ φ' : List Addr} {S S' : aM} {H H' : Hp} {σ : L2.St} {Q : VK} {m n : FS} {D : Ends} {ps : List Str} {md : FD} {j k : Nat}
def EB : List (Str × Vl) -> Option (List PH.D)
 | [] => some []
 | (_, .dat d) :: r => match EB r with
  | some ds => some (d :: ds)
  | none => none
 | _ :: _ => none
def made (kp : Bool) (n : Nat) (r : Res Vl) : Res Vl := match r with
 | .ok (.dat .non) S => if kp then .ok (.cel n) S else (match S[n]? with
  | some (.ins C fs) => (match EB fs with
   | some ds => if ((S.take n).all fun c => c.below n) then .ok (.dat (.ins C (fs.map (·.1)) ds)) (S.take n) else .stuck
   | none => .stuck)
  | _ => .stuck)
 | .err e S => if ((S.take n).all fun c => c.below n) then .err e (S.take n) else .stuck
 | _ => .stuck
def mMake (kp : Bool) (C : Str) (md : FD) (as : FA) : FE := fun ρ S => (as ρ S).bind fun ds S1 => made kp S1.length (md (.cel S1.length :: ds) (S1 ++ [.ins C []]))
def AS (cls : Str) : FS := fun ρ S => .err ⟨cls, [], []⟩ ρ S
end
def ER (C : Addr) (f : Str) : Sp := fun vs H Q _ => ∃ a y, vs = [.ref a, y] /\ H a = some (exo a C none) /\ ∀ dx, H dx = none -> dx ≠ a -> Q .non (upd (upd H dx (exd dx [(f, y)])) a (exo a C (some dx)))
structure XcA (P : Program) (w : World) (K : aA) (mg : Str -> Option Value) (base : Heap) (k : Nat) (x : Str) (ps : List Str) (sp : Sp) : Prop where
 cls : OexC K (He.ga K x)
 ini : bK K (.ref (He.ga K x)) "__init__" = some (some (.ref (He.ma K (He.ga K x) "__init__")))
 ty : jP K (.ref (He.ma K (He.ga K x) "__init__")) = some (.type "function")
 fn : ∃ fd, FnOk P w K mg base CX0 k (He.ma K (He.ga K x) "__init__") fd ps sp /\ Binds K fd ps []
 glo : mg x = some (.ref (He.ga K x))
section
variable {X : Cx} {W : WX} {e : Expr} {es : List Expr} {pos p pos' : Pos} {x f g : Str} {K : aA} {mas : FA} {B : Addr -> Prop} {φ φ' : List Addr} {S S' : aM} {H H' : Hp} {σ : L2.St} {ps : List Str} {j k : Nat}
def kQ (cls : Str) (ns : List Str) (as : FA) : FS := fun ρ S => (as ρ S).toS ρ fun xs S1 => match kH xs with
 | some ds => if ds.length = ns.length then .err ⟨cls, ns, ds.reverse⟩ ρ S1 else .stuck
 | none => .stuck
theorem lZ (F : XcA X.prog X.w X.K X.mg X.base j x ps (ER (He.ga X.K x) f)) (hr : Room k X.A) (tk : Takes X W) (ha : PA X (e :: es) (zU X.K W mas)) (hjk : j + 1 <= k := by decide) (hc : X.calm = true := by rfl) (hg : Gl X x := by rfl) (hdb : (x == ("__debug__" : Str)) = false := by decide)
  (he : starEach (e :: es) X.env = (false, eval e X.env) :: starEach es X.env := by rfl) (hpl : (backTo pos (starEach es X.env)).any (·.1) = false := by rfl) : PS X (.Raise (some (.Call (.Name x p) (e :: es) [] pos)) none pos') (gM X.K W (kQ x [f] mas)) := by
 obtain ⟨fd, F1, hb⟩ := F.fn;refine fM (ps_raise hc tk (pmk_oex F.cls F.ini F.ty F1 (hr.mono hjk) hb .nil (fun _ _ _ _ _ _ _ h => h.elim) hg F.glo ha hdb he hpl)) fun D σ H h => ?_
 obtain ⟨B, φ, S, ρ, I, E, f'⟩ := h;refine cG I E f' fun φ1 S1 ds vs H1 I1 X1 E1 r f1 => ?_
 split at f1
 ·rename_i xs q
  have l := nM q r;split at f1
  ·rename_i hl
   match xs, hl with
   | [d], _ =>
    obtain ⟨v, ws, rfl, h1, h2⟩ := l;cases h2;refine ⟨by simp, fun a na => ⟨a, v, rfl, upd_same, fun dx ndx ne => ⟨rfl, dx, [(f, v)], upd_same, ?_, ?_, ?_⟩⟩⟩
    ·rw [upd_ne ne, upd_same]
    ·rw [upd_ne ne] at ndx; exact ndx
    ·have n1 : H1 dx = none := by rw [upd_ne ne] at ndx; exact ndx
     have eH : (upd (del (upd (upd (upd H1 a (exo a (He.ga X.K x) none)) dx (exd dx [(f, v)])) a (exo a (He.ga X.K x) (some dx))) a) dx (.xd [(f, v)])) = upd H1 dx (.xd [(f, v)]) := by
      funext b
      unfold upd del
      by_cases hb : b = dx
      ·rw [if_pos hb, if_pos hb]
      ·rw [if_neg hb, if_neg hb]
       by_cases hba : b = a
       ·rw [if_pos hba, hba]; exact na.symm
       ·rw [if_neg hba]; simp only [if_neg hba, if_neg hb]
     rw [eH];have X2 := Ext.new (o := .xd [(f, v)]) I1 n1;exact f1 φ1 σ _ _ _ (I1.new n1) X2 (E1.ext X2 I1) ⟨rfl, .inr ⟨dx, [v], rfl, upd_same, v, [], rfl, Rep.kp (X2.kp I1) _ _ h1, rfl⟩⟩
  ·exact f1.elim
 ·exact f1.elim
end
def XMs (K : aA) (cs : List Str) : Prop := ∀ c ∈ cs, ∀ d ∈ cs, pV K (.ref (He.ga K c)) (.ref (He.ga K d)) = some (decide (c = d))
theorem EE {K : aA} {cs : List Str} (h : xmB K cs = true) : XMs K cs := fun c hc d hd => of_decide_eq_true (bH.mp (bH.mp h c hc) d hd)
section
variable {X : Cx} {W : WX} {e a b c o i : Expr} {es rest : List Expr} {pos p q p2 tpos apos cpos pos' np : Pos} {x y z f mn : Str} {K : aA} {ma mb mc mo mx : FE} {mas : FA} {B : Addr -> Prop} {φ φ' : List Addr} {S S' : aM} {H H' : Hp} {σ : L2.St} {Q : VK} {m n : FS} {D : Ends} {cs : List Str}
def handle (cs : List Str) : List (Str × FS) -> Er -> Ev -> aM -> Out
 | [], e, ρ, S => .err e ρ S
 | (c, m) :: r, e, ρ, S => if e.cls = c then (match m ρ S with
   | .err _ _ _ => .stuck
   | o => o) else handle cs r e ρ S
inductive XIt where
 | c (v : L2.V) (d : PH.D) | f (n : Str)
def itR (a : Addr) (cls : Value) (d : Option Addr) (C : Addr) (i : Nat) : List XIt -> TA
 | [] => tNil
 | .c v _ :: r => tCons (tC v) (itR a cls d C i r)
 | .f n :: r => tCons (tXf a cls d C n (kF i)) (itR a cls d C i r)
def itF (e : Er) : List XIt -> Option (List PH.D)
 | [] => some []
 | .c _ d :: r => match itF e r with
  | some ds => some (d :: ds)
  | none => none
 | .f n :: r => match (e.ns.zip e.xs).lookup n, itF e r with
  | some d, some ds => some (d :: ds)
  | _, _ => none
def Df (cs : List Str) (m : FS) (c : Str) (k : Nat) (its : List XIt) : FS := fun ρ S => match m ρ S with
 | .err e ρ' S' => if (e.cls ∈ cs /\ c ∈ cs) /\ k < ρ'.length then (if e.cls = c then (match itF e its with
   | some ds => if ds.length <= sizeLine then .ret (.dat (.tup ds)) S' else .stuck
   | none => .stuck) else .err e ρ' S') else .stuck
 | o => o
theorem DR : ∀ {σ : L2.St} {i : Nat} {v : L2.V}, σ[i]? = some (some v) -> sl σ i = some v
 | [], _, _, h => by simp at h
 | x :: _, 0, v, h => by simp at h; exact h
 | _ :: r, n + 1, v, h => DR (σ := r) (i := n) (by simpa using h)
end
def limits : List (Str × Nat × Int × Int) := [("go", 1, -9, 9), ("turn", 1, 1, 3), ("mirror", 0, 0, 0), ("scale", 1, -3, 3), ("aim", 2, -9, 9), ("place", 2, -9, 9), ("mark", 0, 0, 0), ("return", 0, 0, 0), ("exchange", 0, 0, 0)]
section
variable {X : Cx} {W : WX} {e a b c o i : Expr} {es rest : List Expr} {pos p q p2 tpos apos cpos pos' np : Pos} {x y z f mn C : Str} {K : aA} {ma mb mc mo mx : FE} {mas : FA} {B : Addr -> Prop} {φ φ' : List Addr} {S S' : aM} {H H' : Hp} {σ : L2.St} {Q : VK} {m n : FS} {D : Ends} {ps : List Str} {md : FD} {j k : Nat}
def G3 (neg : Bool) (x : Vl) (S : aM) : Res Vl := match x with
 | .dat (.str z) => .ok (.dat (.bl (if neg then (limits.lookup z).isNone else (limits.lookup z).isSome))) S
 | _ => .stuck
def fLim (x : Vl) (S : aM) : Res Vl := match x with
 | .dat (.str z) => (match limits.lookup z with
  | some (m, lo, hi) => .ok (.dat (.tup [.int (m : Nat), .int lo, .int hi])) S
  | none => .stuck)
 | _ => .stuck
def lenR (r : Res Vl) : Res Vl := match r with
 | .ok (.dat (.int n)) S => if 0 <= n /\ n < 2 ^ 62 then .ok (.dat (.int n)) S else .stuck
 | _ => .stuck
def Ba (r : Res Vl) : Res Vl := match r with
 | .ok (.dat (.bl n)) S => .ok (.dat (.bl n)) S
 | _ => .stuck
theorem Dx : PE X (.Dict [] [] pos) (bV X.K W (mC .dct)) := bM pe_dnewK fun σ H Q h => by
 obtain ⟨B, φ, S, ρ, I, E, f⟩ := h;exact fun p hp => f φ _ _ (I.new hp) (Ext.new I hp) ⟨p, rfl, I.nblk hp, upd_same⟩
end
section
variable {P : Program} {w : World} {K : aA} {mg : Str -> Option Value} {base : Heap}
def nS : FD := fun _ _ => .stuck
theorem wR {x : Str} {st : Stmt} {N ps : List Str} {k : Nat} (F : nC K x st) (g : mg x = some (.ref (He.ga K x))) (S : FnScope N ps (defScope st))
  (bnd : ∀ (kV doc pm : Value) (an : Option Addr) (cdv ct : Value) (us : List Value), us.length = ps.length -> bindArgs (dH x x (defArgs st) (defBody st) (defScope st) .none kV doc pm an cdv ct) ⟨us, []⟩ = pure (ps.zip us)) : mX P w K mg base (k + 1) x ps (spF K nS) :=
 AQ F g S (fun vs H Q E ⟨_, _, _, _, _, _, f⟩ => f.elim) bnd fun cdv A outer s H vs Q E hr ⟨_, _, _, _, _, _, f⟩ => f.elim
end
theorem zK {fa : List He.Fa} {fn : List He.DefD} {ts : List He.Tab} {w : World} {K : aA} (c : He.SaysT fa fn ts w K) (i : Nat) {t : He.Tab} (h : ts[i]? = some t := by rfl) : He.dicW K (t.1 K) = some (He.keysIn w.params t.2) := by
 have e : ts.map (fun t => He.dicW K (t.1 K)) = ts.map fun t => some (He.keysIn w.params t.2) := congrArg (fun z : He.AlT => z.2) c
 have e2 : (ts.map fun t => He.dicW K (t.1 K))[i]? = (ts.map fun t => some (He.keysIn w.params t.2))[i]? := by rw [e]
 rw [eX, eX, h] at e2;exact Option.some.inj e2
theorem rB {P : Params} {z : Str} : ∀ {l : List DictEntry} {ks : List Str}, l.map He.keyOf = He.keysIn P ks -> z ∉ ks -> (l.find? (·.key.isStr z) = none) /\ l.any (·.refKey) = false
 | [], _, _, _ => ⟨rfl, rfl⟩
 | e :: r, [], h, _ => by cases h
 | e :: r, k :: ks, h, hz => by
  have h1 : He.keyOf e :: r.map He.keyOf = some (k, PyData.keyHash P k) :: He.keysIn P ks := h
  injection h1 with h2 h3
  obtain ⟨i1, i2⟩ := rB h3 (fun m => hz (bD _ m))
  unfold He.keyOf at h2;split at h2
  ·rename_i x t q
   obtain ⟨h5, h6⟩ := Prod.mk.inj (Option.some.inj h2);have nz : e.key.isStr z = false := by
    rw [q]
    show decide (x = z) = false
    exact decide_eq_false fun e => hz (by rw [<- e, h5]; exact aY ..)
   constructor
   ·rw [List.find?_cons, nz]; exact i1
   ·rw [List.any_cons, i2, Bool.or_false]
    show e.refKey = false
    unfold DictEntry.refKey;rw [q]
  ·cases h2
theorem yI {K : aA} {P : Params} {a : Addr} {ks : List Str} {z : Str} (h : He.dicW K a = some (He.keysIn P ks)) (hz : z ∉ ks) : eN K a z = some none := by
 unfold He.dicW at h;cases q : K.lookup a with
 | none => rw [q] at h; cases h
 | some o =>
  obtain ⟨oc, od, dt, osl⟩ := o;rw [q] at h;cases oc with
  | type c =>
   cases od with
   | none =>
    cases dt with
    | dict es n =>
     have h1 : (match decide (c = "dict") && (osl.isEmpty && !(a == sysModules)) with
      | true => some (es.toList.map He.keyOf)
      | false => none) = some (He.keysIn P ks) := h
     cases y : decide (c = "dict") && (osl.isEmpty && !(a == sysModules)) with
     | false => rw [y] at h1; cases h1
     | true =>
      rw [y] at h1;obtain ⟨i1, i2⟩ := rB (Option.some.inj h1) hz;unfold eN;rw [q]
      show (match es.toList.find? (·.key.isStr z) with | some e => some (some e.val) | none => if es.toList.any (·.refKey) then none else some none) = some none
      rw [i1, i2];rfl
    | _ => cases h
   | some b => cases dt <;> cases h
  | _ => cases od <;> cases dt <;> cases h
theorem mR {κ β : Type} [BEq κ] [LawfulBEq κ] {z : κ} {v : β} : ∀ {l : List (κ × β)}, l.lookup z = some v -> (z, v) ∈ l
 | [], h => by cases h
 | (k, u) :: r, h => by
  rw [pU] at h;cases e : z == k with
  | true =>
   rw [e] at h;have e2 : z = k := eq_of_beq e;have e3 : u = v := Option.some.inj h;rw [e2, e3];exact aY ..
  | false =>
   rw [e] at h;exact bD _ (mR h)
theorem lookup_none {κ β : Type} [BEq κ] [LawfulBEq κ] {z : κ} : ∀ {l : List (κ × β)}, l.lookup z = none -> z ∉ l.map (·.1)
 | [], _ => by simp
 | (k, u) :: r, h => by
  rw [pU] at h;cases e : z == k with
  | true => rw [e] at h; cases h
  | false =>
   rw [e] at h;have ne : z ≠ k := by simpa using e
   intro m;rcases aQ.mp m with m | m
   ·exact ne m
   ·exact lookup_none h m
theorem AW {P : Program} {w : World} {K : aA} {mg : Str -> Option Value} {x : Str} {st : Stmt} {N ps : List Str} {k : Nat} {md : FD} {mb : FS} (F : nC K x st) (S : FnScope N ps (defScope st)) (R : Runs md N.length ps.length mb)
  (bnd : ∀ (kV doc pm : Value) (an : Option Addr) (cdv ct : Value) (us : List Value), us.length = ps.length -> bindArgs (dH x x (defArgs st) (defBody st) (defScope st) .none kV doc pm an cdv ct) ⟨us, []⟩ = pure (ps.zip us))
  (hbody : ∀ (base : Heap) (cdv : Value) (A : Around) (outer : List Env) (s : Shared) (H : Hp) (E : XK), Room k (A.deeper (envOfC x (defScope st) s.heap.objs.size (He.ga K x) cdv)) ->
   PSs (cxOf (L2.CX P w) P w K mg base N x (defScope st) (He.ga K x) cdv A outer s H E) (defBody st) (gM K (fun c x _ H => E c x H) mb)) :
  ∃ fd, (∀ (s : Shared) (us : List Value), us.length = ps.length -> BindsTo s fd ⟨us, []⟩ (ps.zip us)) /\ ∀ base, FnOk P w K mg base (L2.CX P w) (k + 1) (He.ga K x) fd ps (spF K md) := by
 obtain ⟨fd, F⟩ := F;refine ⟨fd, fun s us hl => F.bindsA bnd s us hl, fun base => ?_⟩
 obtain ⟨oc, od, dV, kV, doc, pm, an, cdv, ct, osl, e, lk, hc⟩ := F.ex;subst e;exact fn_of lk hc.1 S (rS R) fun A outer s H vs Q E hr hsp => ⟨_, hbody base cdv A outer s H E hr, nT R hsp⟩
theorem law_start {K : aA} {md : FD} {n : Nat} (h : ∀ ns : List Int, ns.length <= n -> ∃ S, md [.scr ns] [] = .ok (.dat (.bl true)) S) (H : Hp) (a : Addr) (ns : List Int) (hl : ns.length <= n) (hO : Only H) (hS : SqL K H a (ns.map V.int)) : spF K md [.ref a] H (fun v _ => v = .bl true) fun _ _ _ => False := by
 obtain ⟨S, e⟩ := h ns hl;refine ⟨fun _ => False, [], [], [.scr ns], ⟨rfl, fun n c a h => by simp at h, fun n m c c' a h => by simp at h, fun a ⟨n, c, h, _⟩ => by simp at h, fun a h => h.elim⟩, ⟨_, _, rfl, ⟨a, rfl, ?_⟩, rfl⟩, ?_⟩
 ·rcases hS with (h | ⟨o, h⟩) | h
  ·rcases hO a with q | ⟨o, xs, q⟩
   ·rw [h] at q; cases q
   ·rw [h] at q; cases q
  ·exact .inl ⟨o, h⟩
  ·exact .inr (.inr h)
 ·rw [e]
  exact fun φ' v H' _ _ r => r
theorem CC {K : aA} {C : Addr} (q : Ef K C = true) : ∃ nm q N bs bm sn sub ab col dd k0 k1 k2 k3 k5, K.lookup C = some (excClassObj nm q C N bs bm true sn sub ab col dd k0 k1 k2 k3 k5 "ValueError.__new__") /\ PySem.HandSPX.refsVE bm = true := by
 unfold Ef at q;split at q
 ·rename_i dd cd sl ho
  split at q
  ·rename_i C' bm k0 k1 k2 k3 n k5 hm hs
   simp only [fO, beq_iff_eq, Bool.not_eq_true'] at q;obtain ⟨⟨⟨⟨rfl, rfl⟩, hdel⟩, hdi⟩, hbm⟩ := q;obtain ⟨nm, bs, mro, ns, qn, hd, sn, sub, ab, col, del⟩ := cd;dsimp only at hm hdel hdi;subst hm hdel hdi;have hsl : sl = #[k0, k1, k2, k3, some (.builtin "ValueError.__new__"), k5] := by
    obtain ⟨l⟩ := sl;simp only at hs;rw [hs]
   subst hsl;exact ⟨nm, qn, ns, bs, bm, sn, sub, ab, col, dd, k0, k1, k2, k3, k5, ho, hbm⟩
  ·cases q
 ·cases q
structure XaF (K : aA) (mg : Str -> Option Value) (x : Str) (fs : List Str) : Prop where
 cls : OexC K (He.ga K x)
 ini : bK K (.ref (He.ga K x)) "__init__" = some (some (.ref (He.ma K (He.ga K x) "__init__")))
 ty : jP K (.ref (He.ma K (He.ga K x) "__init__")) = some (.type "function")
 glo : mg x = some (.ref (He.ga K x))
 rd : XfC K (He.ga K x)
 no : ∀ f ∈ fs, bK K (.ref (He.ga K x)) f = some none
theorem EH {K : aA} {mg : Str -> Option Value} {x : Str} {fs : List Str} (h : xaB K x fs = true) (g : mg x = some (.ref (He.ga K x))) : XaF K mg x fs := by
 obtain ⟨h1, h⟩ := He.ba h;obtain ⟨h2, h⟩ := He.ba h;obtain ⟨h3, h⟩ := He.ba h;obtain ⟨h4, h⟩ := He.ba h;obtain ⟨h5, h⟩ := He.ba h;obtain ⟨h6, h⟩ := He.ba h;obtain ⟨h7, h⟩ := He.ba h;obtain ⟨h8, h9⟩ := He.ba h;exact ⟨⟨CC h1, of_decide_eq_true h2, of_decide_eq_true h3, of_decide_eq_true h4, h5⟩, of_decide_eq_true h6, of_decide_eq_true h7, g, xfB_ok h8, fun f hf => of_decide_eq_true (bH.mp h9 f hf)⟩
section
variable {P : Program} {w : World} {K : aA} {mg : Str -> Option Value} {base : Heap}
theorem A4 {C : Addr} {f a b : Str} : ∀ vs H Q E, ER C f vs H Q E -> vs.length = [a, b].length := fun vs H Q E ⟨_, _, e, _⟩ => by rw [e]; rfl
theorem Ee {x m q : Str} {fs : List Str} {st : Stmt} {N ps : List Str} {k : Nat} {sp : Sp} (T : XaF K mg x fs) (F : FnM K x "__init__" q st) (S : FnScope N ps (defScope st)) (len : ∀ vs H Q E, sp vs H Q E -> vs.length = ps.length)
  (bnd : ∀ (kV doc pm : Value) (an : Option Addr) (cdv ct : Value) (us : List Value), us.length = ps.length -> bindArgs (dH "__init__" q (defArgs st) (defBody st) (defScope st) .none kV doc pm an cdv ct) ⟨us, []⟩ = pure (ps.zip us))
  (hbody : ∀ (cdv : Value) (A : Around) (outer : List Env) (s : Shared) (H : Hp) (vs : List V) (Q : VK) (E : XK), Room k (A.deeper (envOfC q (defScope st) s.heap.objs.size (He.ma K (He.ga K x) "__init__") cdv)) -> sp vs H Q E ->
   ∃ t, PSs (cxOf CX0 P w K mg base N q (defScope st) (He.ma K (He.ga K x) "__init__") cdv A outer s H E).nox (defBody st) t /\ t { nx := fun _ H' => Q .non H', rt := Q } (start N vs) H) : XcA P w K mg base (k + 1) x ps sp := by
 obtain ⟨fd, F⟩ := F;refine ⟨T.cls, T.ini, T.ty, ⟨fd, FunD.ok F S len fun cdv A outer s H vs Q E hr hsp => ?_, F.bindsN bnd⟩, T.glo⟩
 obtain ⟨t, h, q⟩ := hbody cdv A outer s H vs Q E hr hsp;exact ⟨t, h.nox, q⟩
end
section
variable {X : Cx} {W : WX} {e a b c o i : Expr} {es rest : List Expr} {pos p q p2 tpos apos cpos pos' np : Pos} {x y z f mn C : Str} {K : aA} {ma mb mc mo mx : FE} {mas : FA} {B : Addr -> Prop} {φ φ' : List Addr} {S S' : aM} {H H' : Hp} {σ : L2.St} {Q : VK} {m n : FS} {D : Ends} {ps : List Str} {md : FD} {j k : Nat}
def DU (n : Nat) : List PH.D := (cL n).map fun (k : Nat) => PH.D.int (((n : Nat) : Int) - 1 - (k : Int))
def Ej (a : FE) : FI := fun ρ S => (a ρ S).bind fun x S1 => match x with
 | .dat (.int j) => if -(2 ^ 62) <= j /\ j < 2 ^ 62 then .ok (DU j.toNat) S1 else .stuck
 | _ => .stuck
end
theorem rd_X1 {K : aA} {mg : Str -> Option Value} {x f : Str} {fs : List Str} {a : Addr} {y : V} {H : Hp} {Q : VK} {D : Ends} (T : XaF K mg x fs) (hf : f ∈ fs) (ha : H a = some (exo a (He.ga K x) none)) (hD : ∀ σ H, D.nx σ H = Q .non H) (h : ∀ dx, H dx = none -> dx ≠ a -> Q .non (upd (upd H dx (exd dx [(f, y)])) a (exo a (He.ga K x) (some dx)))) :
  tOst K f (kF 0) (kF 1) D [some (.ref a), some y] H := ⟨a, He.ga K x, rfl, T.cls, T.no f hf, .inl ⟨ha, fun dx n ne => by rw [hD]; exact h dx n ne⟩⟩
theorem wY {k : Nat} {A : Around} (r : Room k A) : A.units + 65 < cLine := by have := r.un; omega
section
variable {α β : Type} {a b c o i e : FE} {r : FA} {t u : FT} {m n : FS} {ρ : Ev} {S : aM} {x y z : Vl} {f g : Vl -> Vl -> aM -> Res Vl} {h : Vl -> aM -> Res Vl} {md : FD}
theorem yY {d : α} {k : α -> aM -> Res β} : (Res.ok d S).bind k = k d S := rfl
theorem vU {x : Er} {k : α -> aM -> Res β} : (Res.err x S : Res α).bind k = .err x S := rfl
theorem pC {d : α} {k : α -> aM -> Out} : (Res.ok d S).toS ρ k = k d S := rfl
theorem yO {x : Er} {k : α -> aM -> Out} : (Res.err x S : Res α).toS ρ k = .err x ρ S := rfl
theorem g_var {k : Nat} : aE k ρ S = (match lk ρ k with | some d => .ok d S | none => .stuck) := rfl
theorem g_c {d : D} : mC d ρ S = .ok (.dat d) S := rfl
def kOp1 (f : Vl -> Vl -> aM -> Res Vl) (b : FE) (ρ : Ev) (x : Vl) (S : aM) : Res Vl := (b ρ S).bind (f x)
theorem g_op : aR f a b ρ S = (a ρ S).bind (kOp1 f b ρ) := rfl
theorem g_op1 : kOp1 f b ρ x S = (b ρ S).bind (f x) := rfl
theorem g_1 : m1 h a ρ S = (a ρ S).bind h := rfl
theorem g_B : mB a ρ S = (a ρ S).bind unB := rfl
theorem g_unB {k : Bool} : unB (.dat (.bl k)) S = .ok k S := rfl
theorem FN : aZ a ρ S = (a ρ S).bind mY := rfl
def F8 (u : FT) (ρ : Ev) (c : Bool) (S : aM) : Res Bool := if c = true then u ρ S else .ok false S
def kOr (u : FT) (ρ : Ev) (c : Bool) (S : aM) : Res Bool := if c = true then .ok true S else u ρ S
def kNot (c : Bool) (S : aM) : Res Bool := .ok (!c) S
theorem g_and : kS t u ρ S = (t ρ S).bind (F8 u ρ) := rfl
theorem g_or : oV t u ρ S = (t ρ S).bind (kOr u ρ) := rfl
theorem g_not : cU t ρ S = (t ρ S).bind kNot := rfl
theorem Au : F8 u ρ true S = u ρ S := rfl
theorem Av : F8 u ρ false S = .ok false S := rfl
theorem CW : kOr u ρ true S = .ok true S := rfl
theorem CY : kOr u ρ false S = u ρ S := rfl
theorem Fi {c : Bool} : kNot c S = .ok (!c) S := rfl
def Af (b : FE) (ρ : Ev) (x : Vl) (S : aM) : Res Vl := match x with
 | .dat (.bl c) => if c = true then b ρ S else .ok (.dat (.bl false)) S
 | _ => .stuck
def F3 (b : FE) (ρ : Ev) (x : Vl) (S : aM) : Res Vl := match x with
 | .dat (.bl c) => if c = true then .ok (.dat (.bl true)) S else b ρ S
 | _ => .stuck
theorem Fy : eI a b ρ S = (a ρ S).bind (Af b ρ) := rfl
theorem g_orV : mOrV a b ρ S = (a ρ S).bind (F3 b ρ) := rfl
theorem yT : Af b ρ (.dat (.bl true)) S = b ρ S := rfl
theorem yU : Af b ρ (.dat (.bl false)) S = .ok (.dat (.bl false)) S := rfl
theorem Ar : F3 b ρ (.dat (.bl true)) S = .ok (.dat (.bl true)) S := rfl
theorem As : F3 b ρ (.dat (.bl false)) S = b ρ S := rfl
def kNV (k : Bool) (S : aM) : Res Vl := .ok (.dat (.bl (!k))) S
def Do (x : Vl) (S : aM) : Res Vl := (mY x S).bind kNV
theorem FY : wU a ρ S = (a ρ S).bind Do := rfl
theorem Ce : Do x S = (mY x S).bind kNV := rfl
theorem g_kNV {k : Bool} : kNV k S = .ok (.dat (.bl (!k))) S := rfl
def wW (b : FE) (ρ : Ev) (x : Vl) (k : Bool) (S : aM) : Res Vl := if k = true then .ok x S else b ρ S
def kOrT (b : FE) (ρ : Ev) (x : Vl) (S : aM) : Res Vl := (mY x S).bind (wW b ρ x)
theorem g_orT : Ek a b ρ S = (a ρ S).bind (kOrT b ρ) := rfl
theorem Fk : kOrT b ρ x S = (mY x S).bind (wW b ρ x) := rfl
theorem Aw : wW b ρ x true S = .ok x S := rfl
theorem Ax : wW b ρ x false S = b ρ S := rfl
theorem An {k : Bool} : mY (.dat (.bl k)) S = .ok k S := rfl
def CJ (g : Vl -> Vl -> aM -> Res Vl) (c : FE) (ρ : Ev) (y z : Vl) (S : aM) : Res Vl := match z with
 | .dat (.bl k) => if k = true then (c ρ S).bind (g y) else .ok (.dat (.bl false)) S
 | _ => .stuck
def F7 (f g : Vl -> Vl -> aM -> Res Vl) (c : FE) (ρ : Ev) (x y : Vl) (S : aM) : Res Vl := (f x y S).bind (CJ g c ρ y)
def kCh1 (f g : Vl -> Vl -> aM -> Res Vl) (b c : FE) (ρ : Ev) (x : Vl) (S : aM) : Res Vl := (b ρ S).bind (F7 f g c ρ x)
theorem Cq : fK f g a b c ρ S = (a ρ S).bind (kCh1 f g b c ρ) := rfl
theorem g_ch1 : kCh1 f g b c ρ x S = (b ρ S).bind (F7 f g c ρ x) := rfl
theorem g_ch2 : F7 f g c ρ x y S = (f x y S).bind (CJ g c ρ y) := rfl
theorem Cr : CJ g c ρ y (.dat (.bl true)) S = (c ρ S).bind (g y) := rfl
theorem Cs : CJ g c ρ y (.dat (.bl false)) S = .ok (.dat (.bl false)) S := rfl
def kIf (a b : FE) (ρ : Ev) (c : Bool) (S : aM) : Res Vl := if c = true then a ρ S else b ρ S
theorem g_if : mIf t a b ρ S = (t ρ S).bind (kIf a b ρ) := rfl
theorem CZ : kIf a b ρ true S = a ρ S := rfl
theorem Ca : kIf a b ρ false S = b ρ S := rfl
theorem g_nil : aJ ρ S = .ok [] S := rfl
def vM (x : Vl) (xs : List Vl) (S : aM) : Res (List Vl) := .ok (x :: xs) S
def Ad (r : FA) (ρ : Ev) (x : Vl) (S : aM) : Res (List Vl) := (r ρ S).bind (vM x)
theorem Fw : aB a r ρ S = (a ρ S).bind (Ad r ρ) := rfl
theorem Cp : Ad r ρ x S = (r ρ S).bind (vM x) := rfl
theorem Co {xs : List Vl} : vM x xs S = .ok (x :: xs) S := rfl
def oY (cl : Bool) (xs : List Vl) (S : aM) : Res Vl := match kH xs with
 | some ds => if ds.length <= sizeLine then newL cl ds S else .stuck
 | none => .stuck
def kTup (xs : List Vl) (S : aM) : Res Vl := match kH xs with
 | some ds => if ds.length <= sizeLine then .ok (.dat (.tup ds)) S else .stuck
 | none => .stuck
theorem g_lst {cl : Bool} : cF cl r ρ S = (r ρ S).bind (oY cl) := rfl
theorem g_tup : cP r ρ S = (r ρ S).bind kTup := rfl
theorem vV : kH [] = some [] := rfl
theorem uK {d : D} {xs : List Vl} : kH (.dat d :: xs) = (match kH xs with | some ds => some (d :: ds) | none => none) := rfl
theorem kTup0 : kTup [] S = .ok (.dat (.tup [])) S := rfl
theorem kTup1 {d : D} : kTup [.dat d] S = .ok (.dat (.tup [d])) S := rfl
theorem kTup2 {d e : D} : kTup [.dat d, .dat e] S = .ok (.dat (.tup [d, e])) S := rfl
theorem kTup3 {d e f : D} : kTup [.dat d, .dat e, .dat f] S = .ok (.dat (.tup [d, e, f])) S := rfl
theorem kTup4 {d e f g : D} : kTup [.dat d, .dat e, .dat f, .dat g] S = .ok (.dat (.tup [d, e, f, g])) S := rfl
theorem kLst0 {cl : Bool} : oY cl [] S = newL cl [] S := rfl
theorem kLst1 {cl : Bool} {d : D} : oY cl [.dat d] S = newL cl [d] S := rfl
theorem kLst2 {cl : Bool} {d e : D} : oY cl [.dat d, .dat e] S = newL cl [d, e] S := rfl
theorem kLst3 {cl : Bool} {d e f : D} : oY cl [.dat d, .dat e, .dat f] S = newL cl [d, e, f] S := rfl
theorem Fb {ds : List D} : newL false ds S = .ok (.dat (.lst ds)) S := rfl
theorem FZ {ds : List D} : newL true ds S = .ok (.cel S.length) (S ++ [.lst ds]) := rfl
theorem Fx : aN md r ρ S = (r ρ S).bind md := rfl
def Ey (cl : Bool) (x : Vl) (lo : Option Int) (hi : Option Int) (S : aM) : Res Vl := DB cl x lo hi S
def Ez (cl : Bool) (h : FO) (ρ : Ev) (x : Vl) (lo : Option Int) (S : aM) : Res Vl := (h ρ S).bind (Ey cl x lo)
def kSl0 (cl : Bool) (l h : FO) (ρ : Ev) (x : Vl) (S : aM) : Res Vl := (l ρ S).bind (Ez cl h ρ x)
theorem g_sl {cl : Bool} {l h : FO} : mSl cl a l h ρ S = (a ρ S).bind (kSl0 cl l h ρ) := rfl
theorem g_sl0 {cl : Bool} {l h : FO} : kSl0 cl l h ρ x S = (l ρ S).bind (Ez cl h ρ x) := rfl
theorem g_sl1 {cl : Bool} {h : FO} {lo : Option Int} : Ez cl h ρ x lo S = (h ρ S).bind (Ey cl x lo) := rfl
theorem g_sl2 {cl : Bool} {lo hi : Option Int} : Ey cl x lo hi S = DB cl x lo hi S := rfl
theorem g_noP : yJ ρ S = .ok none S := rfl
def Dm (x : Vl) (S : aM) : Res (Option Int) := match x with
 | .dat (.int i) => .ok (some i) S
 | _ => .stuck
theorem FX : qZ a ρ S = (a ρ S).bind Dm := rfl
theorem Cd {i : Int} : Dm (.dat (.int i)) S = .ok (some i) S := rfl
def CI (x : Vl) (S : aM) : Res Vl := match x with
 | .cel n => (match S[n]? with
  | some (.lst ds) => .ok (.dat (.lst ds)) (S.set n .dead)
  | _ => .stuck)
 | _ => .stuck
theorem wZ : El a ρ S = (a ρ S).bind CI := rfl
theorem Fm {n : Nat} {ds : List D} (h : S[n]? = some (.lst ds)) : CI (.cel n) S = .ok (.dat (.lst ds)) (S.set n .dead) := by simp only [CI, h]
def CL (b : FE) (ρ : Ev) (x : Vl) (S : aM) : Res Vl := match eD S x with
 | some _ => (b ρ S).bind (qJ x)
 | none => .stuck
theorem g_app : nA a b ρ S = (a ρ S).bind (CL b ρ) := rfl
theorem B4 {n : Nat} {ds : List D} (h : S[n]? = some (.lst ds)) : CL b ρ (.cel n) S = (b ρ S).bind (qJ (.cel n)) := by simp only [CL, eD, h]
theorem B9 {n : Nat} {ds : List D} {d : D} (h : S[n]? = some (.lst ds)) (hl : ds.length < sizeLine) : qJ (.cel n) (.dat d) S = .ok (.dat .non) (S.set n (.lst (ds ++ [d]))) := by simp only [qJ, h, hl, if_true]
def Out.seq (o : Out) (n : FS) : Out := match o with
 | .next ρ S => n ρ S
 | o => o
theorem Ao : aO m n ρ S = (m ρ S).seq n := rfl
theorem vS : (Out.next ρ S).seq n = n ρ S := rfl
theorem yP {d : Vl} : (Out.ret d S).seq n = .ret d S := rfl
theorem yQ {x : Er} : (Out.err x ρ S).seq n = .err x ρ S := rfl
theorem yS : (Out.brk ρ S).seq n = .brk ρ S := rfl
theorem yR : (Out.cnt ρ S).seq n = .cnt ρ S := rfl
theorem FQ : aV ρ S = .next ρ S := rfl
def kRet (d : Vl) (S : aM) : Out := .ret d S
theorem g_ret : aX a ρ S = (a ρ S).toS ρ kRet := rfl
theorem Fj {d : Vl} : kRet d S = .ret d S := rfl
def Ds (ρ : Ev) (d : Vl) (S : aM) : Out := .next ρ S
theorem Fv : fP a ρ S = (a ρ S).toS ρ (Ds ρ) := rfl
theorem Ci {d : Vl} : Ds ρ d S = .next ρ S := rfl
def F4 (m n : FS) (ρ : Ev) (c : Bool) (S : aM) : Out := if c = true then m ρ S else n ρ S
theorem g_ifS : bG t m n ρ S = (t ρ S).toS ρ (F4 m n ρ) := rfl
theorem Az : F4 m n ρ true S = m ρ S := rfl
theorem B0 : F4 m n ρ false S = n ρ S := rfl
def CK (t : Tg) (ρ : Ev) (d : Vl) (S : aM) : Out := match tJ t d ρ with
 | some ρ' => .next ρ' S
 | none => .stuck
theorem g_asg {t : Tg} : bO a t ρ S = (a ρ S).toS ρ (CK t ρ) := rfl
theorem Fo {k : Nat} {d : Vl} : CK (.nm k) ρ d S = .next (ρ.set k (some d)) S := rfl
theorem Ck {i j : Nat} {d e : D} : CK (.tp [i, j]) ρ (.dat (.tup [d, e])) S = .next ((ρ.set i (some (.dat d))).set j (some (.dat e))) S := rfl
theorem Cj {i j k : Nat} {d e f : D} : CK (.tp [i, j, k]) ρ (.dat (.tup [d, e, f])) S = .next (((ρ.set i (some (.dat d))).set j (some (.dat e))).set k (some (.dat f))) S := rfl
def kFor (t : Tg) (m : FS) (ρ : Ev) (ds : List D) (S : aM) : Out := loop t m ds ρ S
theorem g_for {mi : FI} {t : Tg} : kR mi t m ρ S = (mi ρ S).toS ρ (kFor t m ρ) := rfl
theorem Fn {t : Tg} {ds : List D} : kFor t m ρ ds S = loop t m ds ρ S := rfl
def Dq (cl : Bool) (t : Tg) (u : FT) (e : FE) (ρ : Ev) (vs : List Nat) (ds : List D) (S : aM) : Res Vl := if ds.length <= sizeLine then (match jZ t u e (wipeE ρ vs) ds S with
 | .ok es S2 => newL cl es S2
 | _ => .stuck) else .stuck
theorem Fh {cl : Bool} {mi : FI} {t : Tg} {vs : List Nat} : yK cl mi t u e vs ρ S = (mi ρ S).bind (Dq cl t u e ρ vs) := rfl
theorem FU : jA a ρ S = (a ρ S).bind itemsOf := rfl
theorem B7 {ds : List D} : itemsOf (.dat (.lst ds)) S = .ok ds S := rfl
theorem B6 {ds : List D} : itemsOf (.dat (.tup ds)) S = .ok ds S := rfl
def oX (x : Vl) (S : aM) : Res (List D) := match x with
 | .dat (.int j) => if -(2 ^ 62) <= j /\ j < 2 ^ 62 then .ok (eS 0 j.toNat) S else .stuck
 | _ => .stuck
theorem FV : gP a ρ S = (a ρ S).bind oX := rfl
theorem kW {j : Int} (h1 : -(2 ^ 62) <= j) (h2 : j < 2 ^ 62) : oX (.dat (.int j)) S = .ok (eS 0 j.toNat) S := by unfold oX; exact if_pos ⟨h1, h2⟩
def kRev1 (x : Vl) (S : aM) : Res (List D) := match x with
 | .dat (.int j) => if -(2 ^ 62) <= j /\ j < 2 ^ 62 then .ok (DU j.toNat) S else .stuck
 | _ => .stuck
theorem CS : Ej a ρ S = (a ρ S).bind kRev1 := rfl
def Dr (x : Vl) (S : aM) : Res (List D) := match x with
 | .dat (.lst ds) => .ok (pI 0 ds) S
 | _ => .stuck
theorem Fu : mEnum a ρ S = (a ρ S).bind Dr := rfl
theorem Cg {ds : List D} : Dr (.dat (.lst ds)) S = .ok (pI 0 ds) S := rfl
def Out.wipe (o : Out) (is : List Nat) : Out := match o with
 | .next ρ S => .next (wipeE ρ is) S
 | .cnt ρ S => .cnt (wipeE ρ is) S
 | .brk ρ S => .brk (wipeE ρ is) S
 | o => o
theorem FJ {is : List Nat} : fJ is m ρ S = (m ρ S).wipe is := by unfold fJ Out.wipe; cases m ρ S <;> rfl
theorem uG {is : List Nat} : (Out.next ρ S).wipe is = .next (wipeE ρ is) S := rfl
theorem vP {is : List Nat} {d : Vl} : (Out.ret d S).wipe is = .ret d S := rfl
theorem vQ {is : List Nat} {x : Er} : (Out.err x ρ S).wipe is = .err x ρ S := rfl
theorem Fz {cl : Bool} {i j : Int} : gK cl (.dat (.int i)) (.dat (.int j)) S = .ok (.dat (.int (i + j))) S := rfl
theorem FP {i j : Int} : uN (.dat (.int i)) (.dat (.int j)) S = .ok (.dat (.int (i - j))) S := rfl
theorem lW {i j : Int} (h : 0 < j) : qG (.dat (.int i)) (.dat (.int j)) S = .ok (.dat (.int (i % j))) S := if_pos h
theorem vT {i j : Int} (h : IntMulOk i j) : pH (.dat (.int i)) (.dat (.int j)) S = .ok (.dat (.int (i * j))) S := if_pos h
theorem nK {i j : Int} (h : CDiv i j) : mT (.dat (.int i)) (.dat (.int j)) S = .ok (.dat (.int (i / j))) S := if_pos h
theorem g_ltI {i j : Int} : E5 (.dat (.int i)) (.dat (.int j)) S = .ok (.dat (.bl (decide (i < j)))) S := rfl
theorem g_leI {i j : Int} : BL (.dat (.int i)) (.dat (.int j)) S = .ok (.dat (.bl (decide (i <= j)))) S := rfl
theorem g_gtI {i j : Int} : fGt (.dat (.int i)) (.dat (.int j)) S = .ok (.dat (.bl (decide (j < i)))) S := rfl
theorem g_geI {i j : Int} : fGe (.dat (.int i)) (.dat (.int j)) S = .ok (.dat (.bl (decide (j <= i)))) S := rfl
theorem g_eqI {i j : Int} : iP (.dat (.int i)) (.dat (.int j)) S = .ok (.dat (.bl (decide (i = j)))) S := rfl
theorem g_neI {i j : Int} : zE (.dat (.int i)) (.dat (.int j)) S = .ok (.dat (.bl (!decide (i = j)))) S := rfl
theorem g_eqS {i j : Str} : iP (.dat (.str i)) (.dat (.str j)) S = .ok (.dat (.bl (decide (i = j)))) S := rfl
theorem g_neS {i j : Str} : zE (.dat (.str i)) (.dat (.str j)) S = .ok (.dat (.bl (!decide (i = j)))) S := rfl
theorem g_eqB {i j : Bool} : iP (.dat (.bl i)) (.dat (.bl j)) S = .ok (.dat (.bl (i == j))) S := by cases i <;> cases j <;> rfl
theorem g_neB {i j : Bool} : zE (.dat (.bl i)) (.dat (.bl j)) S = .ok (.dat (.bl (!(i == j)))) S := by cases i <;> cases j <;> rfl
theorem g_neg {i : Int} : uO (.dat (.int i)) S = .ok (.dat (.int (-i))) S := rfl
theorem Fp {i : Int} : qI (.dat (.int i)) S = .ok (.dat (.int i)) S := rfl
theorem Fq {k : Bool} : qI (.dat (.bl k)) S = .ok (.dat (.int (if k then 1 else 0))) S := rfl
theorem Ff {xs : List D} : dJ (.dat (.tup xs)) S = .ok (.dat (.int xs.length)) S := rfl
theorem Fg {xs : List D} : dJ (.dat (.lst xs)) S = .ok (.dat (.int xs.length)) S := rfl
theorem Aq {n : Nat} {xs : List D} (h : S[n]? = some (.lst xs)) : dJ (.cel n) S = .ok (.dat (.int xs.length)) S := by simp only [dJ, eD, h]
theorem g_ixT {xs : List D} {k : Int} {d : D} (h : atI xs k = some d) : bS (.dat (.tup xs)) (.dat (.int k)) S = .ok (.dat d) S := by simp only [bS, h]
theorem B5 {xs : List D} {k : Int} {d : D} (h : atI xs k = some d) : bS (.dat (.lst xs)) (.dat (.int k)) S = .ok (.dat d) S := by simp only [bS, eD, h]
theorem g_ixC {n : Nat} {xs : List D} {k : Int} {d : D} (h : S[n]? = some (.lst xs)) (h2 : atI xs k = some d) : bS (.cel n) (.dat (.int k)) S = .ok (.dat d) S := by simp only [bS, eD, h, h2]
theorem BE {cl : Bool} {xs ys : List D} (h : xs.length + ys.length <= sizeLine) : gK cl (.dat (.lst xs)) (.dat (.lst ys)) S = newL cl (xs ++ ys) S := by simp only [gK, eD, h, if_true]
theorem g_isN {neg : Bool} : eV neg x (.dat .non) S = .ok (.dat (.bl (if neg then !(isNon x) else isNon x))) S := rfl
theorem pO {α : Type} {xs : List α} {k : Int} {n : Nat} (h : k = (n : Int)) : atI xs k = xs[n]? := by
 subst h;unfold atI ixN
 by_cases hl : n < xs.length
 ·rw [if_pos (by omega), if_pos (by omega)]; simp
 ·rw [if_pos (by omega), if_neg (by omega)]
  simp [iR hl]
theorem Dw : fT ρ S = .ok true S := rfl
theorem FL {xs : List D} : mY (.dat (.lst xs)) S = .ok (!xs.isEmpty) S := rfl
theorem FM {i : Int} : mY (.dat (.int i)) S = .ok (i != 0) S := rfl
theorem uI {xs : List D} : isNon (.dat (.tup xs)) = false := rfl
theorem uJ : isNon (.dat .non) = true := rfl
theorem g_slT {cl : Bool} {xs : List D} {lo hi : Option Int} : DB cl (.dat (.tup xs)) lo hi S = .ok (.dat (.tup (cutD xs lo hi))) S := rfl
theorem g_slL {cl : Bool} {xs : List D} {lo hi : Option Int} : DB cl (.dat (.lst xs)) lo hi S = newL cl (cutD xs lo hi) S := rfl
theorem g_slS {cl : Bool} {ns : List Int} {lo hi : Option Int} : DB cl (.scr ns) lo hi S = newL cl (cutD (ns.map D.int) lo hi) S := rfl
theorem CV {cl : Bool} {xs : List D} : gE cl (.dat (.lst xs)) S = newL cl xs S := rfl
theorem CU {cl : Bool} {xs : List D} : gE cl (.dat (.tup xs)) S = newL cl xs S := rfl
theorem Ak {xs : List D} : fTuple (.dat (.lst xs)) S = .ok (.dat (.tup xs)) S := rfl
end
section
variable {a b o : FE} {r : FA} {m n : FS} {ρ : Ev} {S : aM} {x y : Vl} {md : FD} {C f : Str} {ns : List Str}
theorem CT : AS C ρ S = .err ⟨C, [], []⟩ ρ S := rfl
def sN (C : Str) (ns : List Str) (ρ : Ev) (xs : List Vl) (S : aM) : Out := match kH xs with
 | some ds => if ds.length = ns.length then .err ⟨C, ns, ds.reverse⟩ ρ S else .stuck
 | none => .stuck
theorem Ap : kQ C ns r ρ S = (r ρ S).toS ρ (sN C ns ρ) := rfl
theorem yW {f : Str} {d : D} : sN C [f] ρ [.dat d] S = .err ⟨C, [f], [d]⟩ ρ S := rfl
theorem yV {f g : Str} {d e : D} : sN C [f, g] ρ [.dat d, .dat e] S = .err ⟨C, [f, g], [e, d]⟩ ρ S := rfl
def AZ (C f : Str) (ρ : Ev) (d x : Vl) (S : aM) : Out := match setF S C f x d with
 | some S3 => .next ρ S3
 | none => .stuck
def Dl (C f : Str) (o : FE) (ρ : Ev) (d : Vl) (S : aM) : Out := (o ρ S).toS ρ (AZ C f ρ d)
theorem FR : mSetF C f o a ρ S = (a ρ S).toS ρ (Dl C f o ρ) := rfl
theorem Cb {d : Vl} : Dl C f o ρ d S = (o ρ S).toS ρ (AZ C f ρ d) := rfl
def kMake (kp : Bool) (C : Str) (md : FD) (ds : List Vl) (S : aM) : Res Vl := made kp S.length (md (.cel S.length :: ds) (S ++ [.ins C []]))
theorem Fe {kp : Bool} : mMake kp C md r ρ S = (r ρ S).bind (kMake kp C md) := rfl
def Ab (md : FD) (x : Vl) (ds : List Vl) (S : aM) : Res Vl := md (x :: ds) S
def kMeth (C f : Str) (md : FD) (r : FA) (ρ : Ev) (x : Vl) (S : aM) : Res Vl := if rD S C f x = true then (r ρ S).bind (Ab md x) else .stuck
theorem Fd : iM C f md o r ρ S = (o ρ S).bind (kMeth C f md r ρ) := rfl
theorem Ay {ds : List Vl} : Ab md x ds S = md (x :: ds) S := rfl
def F6 (C f : Str) (x : Vl) (S : aM) : Res Vl := match BH S C f x with
 | some d => .ok d S
 | none => .stuck
theorem g_fld : mZ C f o ρ S = (o ρ S).bind (F6 C f) := rfl
theorem Cf {ns : List Str} {xs : List D} : F6 C f (.dat (.ins C ns xs)) S = (match (ns.zip xs).lookup f with | some d => .ok (.dat d) S | none => .stuck) := by
 simp only [F6, BH, if_true];cases (ns.zip xs).lookup f <;> rfl
def Out.tryA (o : Out) (cs : List Str) (c : Str) (k : Nat) (its : List XIt) : Out := match o with
 | .err e ρ' S' => if (e.cls ∈ cs /\ c ∈ cs) /\ k < ρ'.length then (if e.cls = c then (match itF e its with
   | some ds => if ds.length <= sizeLine then .ret (.dat (.tup ds)) S' else .stuck
   | none => .stuck) else .err e ρ' S') else .stuck
 | o => o
theorem FK {cs : List Str} {c : Str} {k : Nat} {its : List XIt} : Df cs m c k its ρ S = (m ρ S).tryA cs c k its := by unfold Df Out.tryA; cases m ρ S <;> rfl
theorem uH {cs : List Str} {c : Str} {k : Nat} {its : List XIt} : (Out.next ρ S).tryA cs c k its = .next ρ S := rfl
theorem vR {cs : List Str} {c : Str} {k : Nat} {its : List XIt} {d : Vl} : (Out.ret d S).tryA cs c k its = .ret d S := rfl
end
theorem D3 : ((0 : Nat) : Int) = 0 := rfl
theorem D2 : ((1 : Nat) : Int) = 1 := rfl
theorem D1 : ((2 : Nat) : Int) = 2 := rfl
theorem D0 : ((3 : Nat) : Int) = 3 := rfl
theorem Cz : ((4 : Nat) : Int) = 4 := rfl
theorem Cy : ((5 : Nat) : Int) = 5 := rfl
theorem Cw : ((6 : Nat) : Int) = 6 := rfl
theorem Cv : ((7 : Nat) : Int) = 7 := rfl
theorem Cu : ((8 : Nat) : Int) = 8 := rfl
theorem Ct : ((9 : Nat) : Int) = 9 := rfl
theorem BD : ((10 : Nat) : Int) = 10 := rfl
theorem BC : ((11 : Nat) : Int) = 11 := rfl
theorem BB : ((12 : Nat) : Int) = 12 := rfl
theorem BA : ((13 : Nat) : Int) = 13 := rfl
theorem str_inj {a b : String} (h : Str.ofString a = Str.ofString b) : a = b := by
 rw [Str.ofString_eq_toList, Str.ofString_eq_toList] at h
 injection h with h
 have h2 := congrArg Array.toList h;simp only at h2;have : ∀ {l m : List Char}, l.map Char.toNat = m.map Char.toNat -> l = m := fun {l} => by
  induction l with
  | nil => intro m h; cases m <;> simp at h ⊢
  | cons c l ih =>
   intro m h;cases m with
   | nil => simp at h
   | cons d m =>
    simp only [cS, List.cons.injEq] at h;rw [ih h.2];have : c = d := by
     have := congrArg Char.ofNat h.1
     simpa using this
    rw [this]
 exact String.toList_inj.mp (this h2)
theorem EN {a b : String} : (Str.ofString a = Str.ofString b) = (a = b) := propext ⟨str_inj, fun h => by rw [h]⟩
theorem walk_x {l : PySem.W.OpenLaw} {n k : Nat} {q : Program} {loose : List Str} {XP : (Str -> Option Value) -> Heap -> Prop} {YP : World -> Heap -> Prop} {d : DefRec} {x : Str} (e1 : l.most = some n) (e2 : n <= sizeLine) (e3 : d.params.defaults = []) (e4 : Room k callerA)
  (e5 : ∀ (w : World) (mg : Str -> Option Value) (fa : Addr) (h : Heap), YP w h -> h.Ns mainGlobals mg -> mg d.name = some (.ref fa) -> ∃ (K : aA) (fd : FuncData) (sp : Sp), K.In h /\ (∀ (s : Shared) (u : Value), BindsTo s fd ⟨[u], []⟩ [(x, u)]) /\
   (∀ (H : Hp) (a : Addr) (ns : List Int), ns.length <= n -> Only H -> SqL K H a (ns.map V.int) -> sp [.ref a] H (fun v _ => v = .bl true) fun _ _ _ => False) /\ ∀ base : Heap, K.In base -> base.Ns mainGlobals mg -> FnOk l.prog w K mg base (L2.CX l.prog w) k fa fd [x] sp) :
  PySem.W.WalkO q loose XP YP l.row.toRowW d [] (fun f vs => PySem.call f vs) :=
 Att.attach_call e1 e3 fun w s0 s1 mg mb fa o pm cd doc a vs ns G Y _ _ _ m1 m2 m3 m4 m5 => by
  obtain ⟨K, fd, sp, KX, hb, hs, hF⟩ := e5 w mg fa _ Y G.T.g m1;refine law_call KX G.T.g G.T.b G.T.builtins G.T.nolimit m5 m2 m3 (xR m4 e2) e4 hF hb (fun H h1 h2 => hs H a ns m4 h1 h2) fun H e s' z => ?_
  obtain ⟨_, _, _, _, _, _, _, _, _, _, _, _, h⟩ := z;exact h
section
variable {X : Cx} {W : WX} {C : Str} {md : FD} {o i a b : Expr} {mo mi ma mb : FE} {pos p : Pos} {j k : Nat} {ps : List Str} {K : aA}
def fGetO (C : Str) (md : FD) (x y : Vl) (S : aM) : Res Vl := if rD S C "" x = true then md [x, y] S else .stuck
def fInO (C : Str) (md : FD) (y x : Vl) (S : aM) : Res Vl := if rD S C "" x = true then Ba (md [x, y] S) else .stuck
def Aa (x : Vl) (S : aM) : Res (List PH.D) := match x with
 | .dat (.lst ds) => .ok ds.reverse S
 | _ => .stuck
def Dg (a : FE) : FI := fun ρ S => (a ρ S).bind Aa
def fMin2 (x y : Vl) (S : aM) : Res Vl := match x, y with
 | .dat (.int i), .dat (.int j) => .ok (.dat (.int (if j < i then j else i))) S
 | _, _ => .stuck
theorem FW {ρ : Ev} {S : aM} : Dg ma ρ S = (ma ρ S).bind Aa := rfl
theorem Cc {S : aM} {ds : List PH.D} : Aa (.dat (.lst ds)) S = .ok ds.reverse S := rfl
theorem Fc {S : aM} {x y : Int} : fMin2 (.dat (.int x)) (.dat (.int y)) S = .ok (.dat (.int (if y < x then y else x))) S := rfl
theorem Fs {S : aM} {x y : Vl} (h : rD S C "" x = true) : fGetO C md x y S = md [x, y] S := if_pos h
theorem g_inO {S : aM} {x y : Vl} (h : rD S C "" x = true) : fInO C md y x S = Ba (md [x, y] S) := if_pos h
theorem D4 {S : aM} {b : Bool} : Ba (.ok (.dat (.bl b)) S) = .ok (.dat (.bl b)) S := rfl
def Dh (k : Nat) : FS := fun ρ S => match lk ρ k with
 | some (.cel n) => (match S[n]? with
  | some (.lst ds) => .next (ρ.set k (some (.dat (.lst ds)))) (S.set n .dead)
  | _ => .stuck)
 | _ => .stuck
theorem Ft {k n : Nat} {ρ : Ev} {S : aM} {ds : List PH.D} (h : lk ρ k = some (.cel n)) (h2 : S[n]? = some (.lst ds)) : Dh k ρ S = .next (ρ.set k (some (.dat (.lst ds)))) (S.set n .dead) := by simp only [Dh, h, h2]
end
open AutoSeq1 (wpAny_loadPart')
section
variable {X : Cx} {W : WX} {a : Expr} {ma : FE} {pos p : Pos}
def Em (a : FE) : FI := fun ρ S => (a ρ S).bind fun x S1 => match x with
 | .dat (.tup ds) => .ok (pI 0 ds) S1
 | _ => .stuck
def Ac (x : Vl) (S : aM) : Res (List PH.D) := match x with
 | .dat (.tup ds) => .ok (pI 0 ds) S
 | _ => .stuck
theorem Cn {ρ : Ev} {S : aM} : Em ma ρ S = (ma ρ S).bind Ac := rfl
theorem B3 {S : aM} {ds : List PH.D} : Ac (.dat (.tup ds)) S = .ok (pI 0 ds) S := rfl
end
section
variable {X : Cx} {W : WX} {e a b c o : Expr} {es rest : List Expr} {pos p q p2 tpos apos cpos : Pos} {x y z C f : Str} {K : aA} {ma mb mc mo me : FE} {mt mu : FT} {mas : FA} {mi mj : FI} {B : Addr -> Prop} {φ φ' : List Addr} {S S' : aM} {H H' : Hp} {σ : L2.St} {Q : VK} {m n : FS} {st : Stmt} {sts : List Stmt} {D : Ends} {t t1 : Tg}
def mLcC (mi : FI) (t : Tg) (vs : List Nat) : FE := fun ρ S => (mi ρ S).bind fun ds S1 => if ds.length <= sizeLine /\ (∀ d ∈ ds, (tJ t (.dat d) (wipeE ρ vs)).isSome = true) then .ok (.cels (pW S1.length ds.length)) (S1 ++ gZ ds.length (.lst [])) else .stuck
def kLcC (t : Tg) (ρ : Ev) (vs : List Nat) (ds : List PH.D) (S : aM) : Res Vl := if ds.length <= sizeLine /\ (∀ d ∈ ds, (tJ t (.dat d) (wipeE ρ vs)).isSome = true) then .ok (.cels (pW S.length ds.length)) (S ++ gZ ds.length (.lst [])) else .stuck
theorem g_lcC {ρ : Ev} {S : aM} {vs : List Nat} : mLcC mi t vs ρ S = (mi ρ S).bind (kLcC t ρ vs) := rfl
theorem Fl {ρ : Ev} {S : aM} {vs : List Nat} {k : Nat} {ds : List PH.D} (h : ds.length <= sizeLine) : kLcC (.nm k) ρ vs ds S = .ok (.cels (pW S.length ds.length)) (S ++ gZ ds.length (.lst [])) := if_pos ⟨h, fun _ _ => rfl⟩
def OkK (P : Program) (w : World) (K : aA) (mg : Str -> Option Value) (base : Heap) (k : Nat) (x : Str) (ps : List Str) (n : Nat) (kw : Str) (dv : L2.V) (sp : Sp) : Prop :=
 ∃ fd, FnOk P w K mg base (L2.CX P w) k (He.ga K x) fd ps sp /\ mg x = some (.ref (He.ga K x)) /\ jQ K (.ref (He.ga K x)) = true /\ (∃ ds, Vals [dv] ds /\ Binds K fd ps ds) /\ KBn K fd ps n [kw] (fun us ws => us ++ ws) (fun vs zs => vs ++ zs)
def sM (md : FD) (dd : PH.D) (as : FA) : FE := fun ρ S => (as ρ S).bind fun ds S1 => md (ds ++ [.dat dd]) S1
theorem RepVs.snoc {B : Addr -> Prop} {φ : List Addr} {S : aM} {H : Hp} : ∀ {ds : List Vl} {vs : List L2.V} {d : Vl} {v : L2.V}, RepVs K B φ S H ds vs -> RepV K B φ S H d v -> RepVs K B φ S H (ds ++ [d]) (vs ++ [v])
 | [], vs, d, v, h, r => by cases h; exact ⟨v, [], rfl, r, rfl⟩
 | d' :: ds, vs, d, v, ⟨v', ws, e, h1, h2⟩, r => by subst e; exact ⟨v', ws ++ [v], rfl, h1, RepVs.snoc h2 r⟩
theorem DA {j k n : Nat} {ps : List Str} {md : FD} {kw : Str} {dv : L2.V} {dd : PH.D} (F : OkK X.prog X.w X.K X.mg X.base j x ps n kw dv (spF X.K md)) (hr : Room k X.A) (tk : Takes X W) (rd' : ∀ Bk H, Rep X.K Bk H dd dv) (ha : PA X (e :: es) (zU X.K W mas)) (hjk : j <= k := by decide) (hg : Gl X x := by rfl) (hdb : (x == ("__debug__" : Str)) = false := by decide)
  (he : starEach (e :: es) X.env = (false, eval e X.env) :: starEach es X.env := by rfl) (hpl : (backTo pos (starEach es X.env)).any (·.1) = false := by rfl) : PE X (.Call (.Name x p) (e :: es) [] pos) (bV X.K W (sM md dd mas)) := by
 obtain ⟨fd, F, hm, hk, ⟨ds, hd, hb⟩, _⟩ := F;refine bM (pe_callSD (E := WE W) F (hr.mono hjk) hg hm hk hb hd (fun σ => passAt tk σ) ha hdb he hpl) fun σ H Q h => ?_
 exact bE (k := fun ds _ S => md (ds ++ [.dat dd]) S) h fun B φ S ρ d v H1 I E r f => ⟨B, φ, S, d ++ [.dat dd], I, RepVs.snoc (d := .dat dd) r (rd' _ _), f.toE⟩
def Ae (md : FD) (dd : PH.D) (ds : List Vl) (S : aM) : Res Vl := md (ds ++ [.dat dd]) S
theorem sT {md : FD} {dd : PH.D} {ρ : Ev} {S : aM} : sM md dd mas ρ S = (mas ρ S).bind (Ae md dd) := rfl
theorem pD {md : FD} {dd : PH.D} {ds : List Vl} {S : aM} : Ae md dd ds S = md (ds ++ [.dat dd]) S := rfl
def sL (n : Nat) (md : FD) (as : FA) (a : FE) : FE := fun ρ S => (as ρ S).bind fun ds S1 => if ds.length = n then (a ρ S1).bind fun d S2 => md (ds ++ [d]) S2 else .stuck
def nJ (md : FD) (ds : List Vl) (d : Vl) (S : aM) : Res Vl := md (ds ++ [d]) S
def vN (n : Nat) (md : FD) (a : FE) (ρ : Ev) (ds : List Vl) (S : aM) : Res Vl := if ds.length = n then (a ρ S).bind (nJ md ds) else .stuck
theorem sS {md : FD} {n : Nat} {ρ : Ev} {S : aM} : sL n md mas ma ρ S = (mas ρ S).bind (vN n md ma ρ) := rfl
theorem yX {md : FD} {ρ : Ev} {S : aM} {x y z : Vl} : vN 3 md ma ρ [x, y, z] S = (ma ρ S).bind (nJ md [x, y, z]) := rfl
theorem lX {md : FD} {ds : List Vl} {d : Vl} {S : aM} : nJ md ds d S = md (ds ++ [d]) S := rfl
theorem D9 {j k n : Nat} {ps : List Str} {md : FD} {kw : Str} {dv : L2.V} {kpos : Pos} (F : OkK X.prog X.w X.K X.mg X.base j x ps n kw dv (spF X.K md)) (hr : Room k X.A) (tk : Takes X W) (ha : PA X (e :: es) (zU X.K W mas)) (hv : PE X a (bV X.K W ma)) (hjk : j <= k := by decide) (hg : Gl X x := by rfl) (hdb : (x == ("__debug__" : Str)) = false := by decide)
  (hall : (backToKw pos (keywordEach [⟨some kw, a, kpos⟩] X.env)).all (·.1.isSome) = true := by rfl) (hks : (backToKw pos (keywordEach [⟨some kw, a, kpos⟩] X.env)).filterMap (·.1) = [kw] := by rfl)
  (he : starEach (e :: es) X.env = (false, eval e X.env) :: starEach es X.env := by rfl) (hpl : ((backTo pos (starEach (e :: es) X.env)).any (·.1) || (backToKw pos (keywordEach [⟨some kw, a, kpos⟩] X.env)).any (·.1.isNone)) = false := by rfl) : PE X (.Call (.Name x p) (e :: es) [⟨some kw, a, kpos⟩] pos) (bV X.K W (sL n md mas ma)) := by
 obtain ⟨fd, F, hm, hk, _, hb⟩ := F;refine ⟨fun pins s σ H Q I h => ?_⟩
 have h' : zU X.K W mas σ H fun vs H1 => tCons (bV X.K W ma) tNil σ H1 fun zs H2 => vs.length = n /\ zs.length = 1 /\ spF X.K md (vs ++ zs) H2 Q (WE W σ) := by
  refine bE (k := fun ds ρ S1 => if ds.length = n then (ma ρ S1).bind fun d S2 => md (ds ++ [d]) S2 else .stuck) h fun B φ S ρ ds vs H1 I E r f => ?_
  split at f
  case isFalse => exact f.elim
  rename_i hl;exact eJ I E f fun φ' S' d v H2 I2 X2 E2 r2 f2 => ⟨by rw [r.len]; exact hl, rfl, B, φ', S', ds ++ [d], I2, RepVs.snoc (r.ext X2 I) r2, f2.toE⟩
 refine wpAny_Call_Name_kw (ld_glob I hg hm ?_ hdb)
 refine PySem.W.callWith_KW (h₀ := X.base) I.ok.mod.kin hk hall (thn (ha.run pos pins s σ H _ I h') fun us s1 ⟨vs, H1, I1, r, q⟩ => ?_) hpl he
 refine thn ((pk_cons hv pk_nil : PK X [⟨some kw, a, kpos⟩] _).run pos pins s1 σ H1 _ I1 q) fun ws s2 ⟨zs, H2, I2, rz, l1, l2, q2⟩ => ⟨I2.kIn, ?_⟩
 rw [hks];have r2 := hb.rel r rz;refine wpAny_call (codeAny_mono (F.run X.A X.stack s2 H2 ⟨us, [kw].zip ws⟩ (us ++ ws) (vs ++ zs) Q (WE W σ) (hr.mono hjk) I2.env0 (hb.to s2 us ws I2.kIn (r.length.symm.trans l1) (rz.length.symm.trans l2)) r2 q2) fun r s' hq => ?_)
 cases r with
 | error e => exact passAt tk σ pins H2 s2 e s' I2 hq
 | ok fl =>
  cases fl with
  | ret u => exact I2.after hq
  | next => exact False.elim hq
  | brk => exact False.elim hq
  | cont => exact False.elim hq
end
section
variable {P : Program} {w : World} {K : aA} {mg : Str -> Option Value} {base : Heap}
abbrev FnK (K : aA) (x : Str) (st : Stmt) (kw : Str) (dv : L2.V) : Prop := ∃ fd, FunD K x x (defArgs st) (defBody st) (defScope st) [] [(kw, dv)] (He.ga K x) fd
theorem okK {x kw : Str} {dv : L2.V} {st : Stmt} {N ps : List Str} {k n : Nat} {md : FD} {mb : FS} (F : FnK K x st kw dv) (g : mg x = some (.ref (He.ga K x))) (S : FnScope N ps (defScope st)) (R : Runs md N.length ps.length mb) (hn : n + 1 = ps.length)
  (b0 : ∀ (D : Addr) (doc pm : Value) (an : Option Addr) (cdv ct : Value) (us ks : List Value), us.length = n -> ks.length = 1 -> KwChain D ([kw].zip ks) (bindArgs (dH x x (defArgs st) (defBody st) (defScope st) .none (.ref D) doc pm an cdv ct) ⟨us, []⟩) (ps.zip (us ++ ks)))
  (b1 : ∀ (kV doc pm : Value) (an : Option Addr) (cdv ct : Value) (us ws : List Value), us.length = n -> ws.length = 1 -> bindArgs (dH x x (defArgs st) (defBody st) (defScope st) .none kV doc pm an cdv ct) ⟨us, [kw].zip ws⟩ = pure (ps.zip (us ++ ws)))
  (hbody : ∀ (cdv : Value) (A : Around) (outer : List Env) (s : Shared) (H : Hp) (E : XK), Room k (A.deeper (envOfC x (defScope st) s.heap.objs.size (He.ga K x) cdv)) -> PSs (cxOf (L2.CX P w) P w K mg base N x (defScope st) (He.ga K x) cdv A outer s H E) (defBody st) (gM K (fun c x _ H => E c x H) mb)) : OkK P w K mg base (k + 1) x ps n kw dv (spF K md) := by
 obtain ⟨fd, F⟩ := F;refine ⟨fd, FunD.ok F S (rS R) fun cdv A outer s H vs Q E hr hsp => ⟨_, hbody cdv A outer s H E hr, nT R hsp⟩, g, F.kp, F.binds0 n (by simp) hn b0, ⟨fun s us ws _ l1 l2 => ?_, fun r1 r2 => r1.append r2⟩⟩
 obtain ⟨oc, od, dV, kV, doc, pm, an, cdv, ct, osl, rfl, lk, hcd, hD, hK⟩ := F.ex;rcases hD with ⟨_, rfl⟩ | ⟨e, _⟩
 ·exact .of_eq (b1 kV doc pm an cdv ct us ws l1 l2)
 ·exact absurd rfl e
end
def EV0 := aD @yY (aD @vU (aD @pC (aD @yO (aD @g_var (aD @g_c (aD @g_op (aD @g_op1 (aD @g_1 (aD @g_B (aD @g_unB (aD @FN (aD @g_and (aD @g_or (aD @g_not (aD @Au (aD @Av (aD @CW (aD @CY (aD @Fi (aD @Fy (aD @g_orV (aD @yT (aD @yU (aD @Ar (aD @As (aD @FY (aD @Ce (aD @g_kNV (aD @g_orT (aD @Fk (aD @Aw (aD @Ax (aD @An (aD @Cq (aD @g_ch1 (aD @g_ch2 (aD @Cr (aD @Cs (aD @g_if (aD @CZ (aD @Ca (aD @g_nil (aD @Fw (aD @Cp (aD @Co (aD @g_lst (aD @g_tup (aD @vV (aD @uK (aD @kTup0 (aD @kTup1 (aD @kTup2 (aD @kTup3 (aD @kTup4 (aD @kLst0 (aD @kLst1 (aD @kLst2 (aD @kLst3 (@Fb)))))))))))))))))))))))))))))))))))))))))))))))))))))))))))
def EV1 := aD @FZ (aD @Fx (aD @g_sl (aD @g_sl0 (aD @g_sl1 (aD @g_sl2 (aD @g_noP (aD @FX (aD @Cd (aD @wZ (aD @g_app (aD @Ao (aD @vS (aD @yP (aD @yQ (aD @yS (aD @yR (aD @FQ (aD @g_ret (aD @Fj (aD @Fv (aD @Ci (aD @g_ifS (aD @Az (aD @B0 (aD @g_asg (aD @Fo (aD @Ck (aD @Cj (aD @g_for (aD @Fn (aD @Fh (aD @FU (aD @B7 (aD @B6 (aD @FV (aD @CS (aD @Fu (aD @Cg (aD @FJ (aD @uG (aD @vP (aD @vQ (aD @Fz (aD @FP (aD @g_ltI (aD @g_leI (aD @g_gtI (aD @g_geI (aD @g_eqI (aD @g_neI (aD @g_eqS (aD @g_neS (aD @g_eqB (aD @g_neB (aD @g_neg (aD @Fp (aD @Fq (aD @Ff (@Fg)))))))))))))))))))))))))))))))))))))))))))))))))))))))))))
def EV2 := aD @g_isN (aD @Dw (aD @FL (aD @FM (aD @uI (aD @uJ (aD @g_slT (aD @g_slL (aD @g_slS (aD @CV (aD @CU (aD @Ak (aD @CT (aD @Ap (aD @yW (aD @yV (aD @FR (aD @Cb (aD @Fe (aD @Fd (aD @Ay (aD @g_fld (aD @Cf (aD @FK (aD @uH (aD @vR (aD @D3 (aD @D2 (aD @D1 (aD @D0 (aD @Cz (aD @Cy (aD @Cw (aD @Cv (aD @Cu (aD @Ct (aD @BD (aD @BC (aD @BB (aD @BA (aD @FW (aD @Cc (aD @Fc (aD @Fs (aD @g_inO (aD @D4 (aD @Ft (aD @Cn (aD @B3 (aD @g_lcC (aD @Fl (aD @sT (aD @pD (aD @sS (aD @yX (aD @lX (@EN))))))))))))))))))))))))))))))))))))))))))))))))))))))))
end PH
local macro_rules
 | `(tactic| simp! [$xs,*] $[$l:location]?) => `(tactic| simp (config := { implicitDefEqProofs := false }) only [$xs,*, PH.EV0, PH.EV1, PH.EV2, bN, dD, Bool.not_true, Bool.not_false, eq_self, if_true, if_false, Bool.true_or, Bool.false_or, Bool.or_true, Bool.or_false, Bool.and_true, Bool.true_and, Bool.and_false, Bool.false_and, cQ, cJ, List.length_nil, beq_self_eq_true, Bool.false_eq_true, PH.lk, PH.isTy, PH.fIsi, PH.fIsi2, PH.kindOf, PH.wipeE, decide_true, decide_false, Int.reduceEq, Int.reduceLT, Int.reduceLE, Int.reduceSub, Int.reduceAdd, Int.reduceNeg, Int.reduceToNat, Int.reduceNe, Nat.reduceAdd, Nat.reduceLT, Nat.reduceLeDiff, String.reduceEq, String.reduceBEq] $[$l:location]?)
namespace PH
open PySem PySem.Spec PyProof.Rows L2
section
variable {X : Cx} {W : WX} {e a b c o i : Expr} {es rest : List Expr} {pos pos' p q p2 tpos apos cpos : Pos} {x y z C f : Str} {K : aA} {ma mb mc mo me mi mv : FE} {mt mu : FT} {mas : FA} {B : Addr -> Prop} {φ φ' : List Addr} {S S' : aM} {H H' : Hp} {σ : L2.St} {Q : VK} {m n : FS} {st : Stmt} {sts : List Stmt} {D : Ends} {t t1 : Tg}
def fStr (x : Vl) (S : aM) : Res Vl := match jY S x with
 | some d => if d.showable = true /\ d.hasDict = false /\ isDisplay d = true /\ d.depth <= 64 /\ d.shown.length <= sizeLine then .ok (.dat (.str d.shown)) S else .stuck
 | none => .stuck
def sP (ds : List PyData) (d : PyData) : Option Nat := (cL ds.length).find? fun j => match ds[j]? with
 | some z => PyData.eqv z d
 | none => false
def gX (x y : Vl) (S : aM) : Res Vl := match jY S x, jY S y with
 | some (.list ds), some d => if SeqAt.shaped (.list ds) = true /\ SeqAt.shaped d = true then (match sP ds d with
   | some j => .ok (.dat (.int (j : Int))) S
   | none => .stuck) else .stuck
 | _, _ => .stuck
theorem yM {ds : List PyData} {d : PyData} {j : Nat} (h : sP ds d = some j) : ∃ z, ds[j]? = some z /\ PyData.eqv z d = true /\ ∀ (m : Nat) (z' : PyData), m < j -> ds[m]? = some z' -> PyData.eqv z' d = false := by
 unfold sP at h;obtain ⟨h1, as, bs, h2, h3⟩ := List.find?_eq_some_iff_append.mp h
 cases q : ds[j]? with
 | none => rw [q] at h1; cases h1
 | some z =>
  rw [q] at h1;refine ⟨z, rfl, h1, fun m z' hm hz => ?_⟩
  have hj : j < ds.length := (aF.mp q).1;have la : as.length = j := by
   have e : (cL ds.length)[as.length]? = some j := by rw [h2]; simp
   rw [aF] at e;obtain ⟨_, e⟩ := e
   simpa using e
  have hma : m ∈ as := by
   have e : (cL ds.length)[m]? = (as ++ j :: bs)[m]? := by rw [h2]
   rw [List.getElem?_range (by omega), aI (by omega)] at e
   exact fY e.symm
  have := h3 m hma;rw [hz] at this
  simpa using this
def yL (a b : FE) : FE := fun ρ S => (a ρ S).bind fun x S1 => match eD S1 x with
 | some _ => (b ρ S1).bind fun y S2 => gX x y S2
 | none => .stuck
theorem xG (hu : X.A.units + 65 < cLine) (ha : PE X a (bV X.K W ma)) (hb : PE X b (bV X.K W mb)) (hs : starEach [b] X.env = (false, eval b X.env) :: starEach [] X.env := by rfl) (hbase : attributeBase a "index" X.env (eval a X.env) = eval a X.env := by rfl) (hline : (apos.endLine == cpos.line) = true := by rfl)
  (hfew : ((backTo cpos (starEach [b] X.env)).all (fun x => !x.1) && (backToKw cpos (keywordEach [] X.env)).all (fun x => x.1.isSome)
   && decide ([b].length + ([] : List Keyword).length + (if ([] : List Keyword).isEmpty then 0 else 1) < 30)) = true := by rfl)
  (hpl : (backTo cpos (starEach ([] : List Expr) X.env)).any (·.1) = false := by rfl) : PE X (.Call (.Attribute a "index" apos) [b] [] cpos) (bV X.K W (yL ma mb)) :=
 bM (pe_bm PySem.F.plainAttrs_list PySem.F.slot_list_index PySem.F.type_list_index (mt_indexD hu) ha (pa_cons hb pa_nil hs) hbase hfew hline hs hpl) fun σ H Q h =>
  bE (k := fun x ρ S1 => match eD S1 x with | some _ => (mb ρ S1).bind fun y S2 => gX x y S2 | none => .stuck) h fun B φ S ρ d v H1 I E r f => by
   split at f
   ·rename_i ds q
    refine ⟨Be (e := d) I r ⟨ds, q⟩, eJ I E f fun φ' S' d2 v2 H2 I2 X2 E2 r2 f2 => ?_⟩
    obtain ⟨a, vs, rfl, _, _⟩ := eC I q r;have r' := r.ext X2 I;unfold gX at f2;split at f2
    ·rename_i ps pd h1 h2
     split at f2
     ·rename_i hc
      split at f2
      ·rename_i j hj
       obtain ⟨z, g1, g2, g3⟩ := yM hj;exact ⟨a, v2, pd, ps, j, z, rfl, rfl, eY I2 h1 r', eY I2 h2 r2, hc.1, hc.2, g1, g2, g3, Fin.now f2 I2 rfl⟩
      ·exact f2.elim
     ·exact f2.elim
    ·exact f2.elim
   ·exact f.elim
end
section
variable {o i v a b : FE} {ρ : Ev} {S : aM} {x y d u w : Vl} {g : Vl -> Vl -> aM -> Res Vl}
def F5 (b : FE) (ρ : Ev) (x : Vl) (S : aM) : Res Vl := match eD S x with
 | some _ => (b ρ S).bind (gX x)
 | none => .stuck
theorem pE : yL a b ρ S = (a ρ S).bind (F5 b ρ) := rfl
end
section
variable {X : Cx} {W : WX} {e a b c o i : Expr} {es rest : List Expr} {pos pos' p q p2 tpos apos cpos : Pos} {x y z C f : Str} {K : aA} {ma mb mc mo me mi mv : FE} {mt mu : FT} {mas : FA} {B : Addr -> Prop} {φ φ' : List Addr} {S S' : aM} {H H' : Hp} {σ : L2.St} {Q : VK} {m n : FS} {st : Stmt} {sts : List Stmt} {D : Ends} {t t1 : Tg}
def lvL (S : aM) : Vl -> Option (List Vl)
 | .cel n => match S[n]? with
  | some (.lv xs) => some xs
  | _ => none
 | _ => none
def zF (x y : Vl) (S : aM) : Res Vl := match lvL S x, y with
 | some xs, .dat (.int i) => (match atI xs i with
  | some d => .ok d S
  | none => .stuck)
 | _, _ => .stuck
def fLenV (x : Vl) (S : aM) : Res Vl := match lvL S x with
 | some xs => .ok (.dat (.int xs.length)) S
 | none => .stuck
def fAppV (x y : Vl) (S : aM) : Res Vl := match x with
 | .cel n => (match S[n]? with
  | some (.lv ds) => if ds.length < sizeLine then .ok (.dat .non) (S.set n (.lv (ds ++ [y]))) else .stuck
  | _ => .stuck)
 | _ => .stuck
def Di (a b : FE) : FE := fun ρ S => (a ρ S).bind fun x S1 => match lvL S1 x with
 | some _ => (b ρ S1).bind fun y S2 => fAppV x y S2
 | none => .stuck
end
def isNone {α : Type} : Option α -> Bool
 | none => true
 | some _ => false
section
variable {X : Cx} {W : WX} {e a b c o i f : Expr} {es rest : List Expr} {pos pos' p q p2 tpos apos cpos : Pos} {x y z C : Str} {K : aA} {ma mb mc mo me mi mv mf : FE} {mt mu : FT} {mas : FA} {B : Addr -> Prop} {φ φ' : List Addr} {S S' : aM} {H H' : Hp} {σ : L2.St} {Q : VK} {m n : FS} {st : Stmt} {sts : List Stmt} {D : Ends} {t t1 : Tg}
def setV (x : Vl) (k : Int) (d : Vl) (S : aM) : Option aM := match x with
 | .cel n => (match S[n]? with
  | some (.lv ds) => if 0 <= k /\ k.toNat < ds.length then some (S.set n (.lv (ds.set k.toNat d))) else none
  | _ => none)
 | _ => none
def mSetIV (a o i : FE) : FS := fun ρ S => (a ρ S).toS ρ fun v S1 => (o ρ S1).toS ρ fun x S2 => (i ρ S2).toS ρ fun k S3 => match k with
 | .dat (.int k) => (match setV x k v S3 with
  | some S4 => .next ρ S4
  | none => .stuck)
 | _ => .stuck
def Dj : List (Int × Int) -> List Vl -> Int × Int -> Option Vl
 | k' :: ks, x :: xs, k => if k' = k then some x else Dj ks xs k
 | _, _, _ => none
def dktL (S : aM) : Vl -> Option (List (Int × Int) × List Vl)
 | .cel n => match S[n]? with
  | some (.dkt ks xs) => if ks.length = xs.length /\ ks.length < 1000000 then some (ks, xs) else none
  | _ => none
 | _ => none
def fDGetT (x y : Vl) (S : aM) : Res Vl := match dktL S x, y with
 | some (ks, xs), .dat (.tup [.int j, .int k]) => (match Dj ks xs (j, k) with
  | some d => .ok d S
  | none => .stuck)
 | _, _ => .stuck
def Eu (x y : Vl) (S : aM) : Res (List PH.D) := match x, y with
 | .dat (.tup ds), .dat (.tup es) => .ok (zipD ds es) S
 | _, _ => .stuck
def Ew (b : FE) (ρ : Ev) (x : Vl) (S : aM) : Res (List PH.D) := (b ρ S).bind (Eu x)
def mZipT (a b : FE) : FI := fun ρ S => (a ρ S).bind (Ew b ρ)
end
def jH {α β : Type} (f : α -> Option β) : List α -> Option (List β)
 | [] => some []
 | x :: xs => match f x, jH f xs with
  | some y, some ys => some (y :: ys)
  | _, _ => none
mutual
def zT (c : Nat -> Option PH.D) : TIt -> Option PH.D
 | .inl d => some d
 | .inr n => c n
 | .tup xs => match qA c xs with
  | some ds => some (.tup ds)
  | none => none
def qA (c : Nat -> Option PH.D) : List TIt -> Option (List PH.D)
 | [] => some []
 | x :: xs => match zT c x, qA c xs with
  | some y, some ys => some (y :: ys)
  | _, _ => none
end
theorem tM {c : Nat -> Option PH.D} : ∀ xs : List TIt, qA c xs = jH (zT c) xs
 | [] => by rw [qA]; rfl
 | x :: xs => by rw [qA, tM xs, jH]; cases zT c x <;> cases jH (zT c) xs <;> rfl
def A0 (c : Nat -> Option PH.D) : Vl -> Option PH.D
 | .dat d => some d
 | .cel n => c n
 | .tc xs => match jH (zT c) xs with
  | some ds => some (.tup ds)
  | none => none
 | _ => none
def Bn (S : aM) : Nat -> Nat -> Option PH.D
 | 0, _ => none
 | k + 1, n => match S[n]? with
  | some (.lst es) => some (.lst es)
  | some (.lv xs) => (match jH (A0 (Bn S k)) xs with
   | some ds => some (.lst ds)
   | none => none)
  | _ => none
mutual
def tV : PH.D -> Bool
 | .non => true
 | .bl _ => true
 | .int _ => true
 | .str _ => true
 | .tup ds => rY ds
 | _ => false
def rY : List PH.D -> Bool
 | [] => true
 | d :: ds => tV d && rY ds
end
def deadS (S : aM) : aM := S.map fun _ => Cell.dead
def oJ (S S2 : aM) : aM := S ++ gZ (S2.length - S.length) Cell.dead
section
variable {K : aA} {B : Addr -> Prop} {φ φ' : List Addr} {S S' S2 : aM} {H H' : Hp}
mutual
theorem tU {Bk Bk' : Addr -> Prop} : ∀ (d : PH.D) (v : L2.V), tV d = true -> Rep K Bk H d v -> Rep K Bk' H d v
 | .non, v, _, h => h
 | .bl b, v, _, h => h
 | .int i, v, _, h => h
 | .str x, v, _, h => h
 | .tup ds, v, hs, ⟨a, vs, e, h, r⟩ => ⟨a, vs, e, h, qU ds vs (by unfold tV at hs; exact hs) r⟩
 | .lst ds, v, hs, h => by cases hs
 | .ins C ns ds, v, hs, h => by cases hs
 | .dct, v, hs, h => by cases hs
 | .opq k, v, hs, h => by cases hs
theorem qU {Bk Bk' : Addr -> Prop} : ∀ (ds : List PH.D) (vs : List L2.V), rY ds = true -> RepL K Bk H ds vs -> RepL K Bk' H ds vs
 | [], vs, _, h => h
 | d :: ds, vs, hs, ⟨v, ws, e, h1, h2⟩ => by
  unfold rY at hs;obtain ⟨a1, a2⟩ := zS.mp hs;exact ⟨v, ws, e, tU d v a1 h1, qU ds ws a2 h2⟩
end
theorem mE {n : Nat} {c : Cell} (h : (deadS S)[n]? = some c) : c = .dead := by
 unfold deadS at h;rw [eX] at h;cases q : S[n]? with
 | none => rw [q] at h; cases h
 | some d => rw [q] at h; cases h; rfl
theorem jC {a : Addr} : ¬ dP φ (deadS S) a := fun ⟨n, c, h1, h2, _⟩ => h2 (mE h1)
theorem GInv.deadS (I : GInv K B φ S H) : GInv K B φ (deadS S) H where
 len := by unfold PH.deadS; rw [bR]; exact I.len
 ok := fun n c a h1 h2 => by obtain rfl := mE h1; trivial
 inj := fun n m c c' a h1 h2 => absurd (mE h1) h2
 blk := fun a h => absurd h jC
 btr := I.btr
theorem Ext.deadS : Ext φ S H φ (deadS S) H := ⟨fun b o h nb => ⟨h, jC⟩, fun _ _ h => h⟩
theorem vZ {φ₂ : List Addr} {S₂ : aM} {H₂ : Hp} (ex : Ext φ S H φ₂ S₂ H₂) (I : GInv K B φ S H) {c : Cell} {a : Addr} (ha : c ≠ .dead -> ∀ o, H a = some o -> H₂ a = some o) (q : pS K B φ S H c a) : pS K B φ₂ S₂ H₂ c a := by
 cases c with
 | dead => trivial
 | lst ds => obtain ⟨vs, e, r⟩ := q; exact ⟨vs, ha (by simp) _ e, ex.repL I r⟩
 | ins C fs => obtain ⟨dx, vs, e, r⟩ := q; exact ⟨dx, vs, ha (by simp) _ e, r.ext ex I⟩
 | dct fs => obtain ⟨vs, e, r⟩ := q; exact ⟨vs, ha (by simp) _ e, r.ext ex I⟩
 | lv xs => obtain ⟨vs, e, r⟩ := q; exact ⟨vs, ha (by simp) _ e, r.ext ex I⟩
 | dki ks xs => obtain ⟨vs, e, r⟩ := q; exact ⟨vs, ha (by simp) _ e, r.ext ex I⟩
 | dkt ks xs => obtain ⟨vs, e, r⟩ := q; exact ⟨vs, ha (by simp) _ e, r.ext ex I⟩
def zJ (K : aA) (B : Addr -> Prop) (φ : List Addr) (S : aM) (H : Hp) (c : Nat -> Option PH.D) : Prop :=
 ∀ (n : Nat) (a : Addr) (d : PH.D), φ[n]? = some a -> c n = some d -> Rep K (dW B φ (PH.deadS S)) H d (.ref a)
mutual
theorem Bq {c : Nat -> Option PH.D} (I : GInv K B φ S H) (hc : zJ K B φ S H c) : ∀ (x : TIt) (d : PH.D) (v : L2.V), zT c x = some d -> RepI K (dW B φ S) φ H x v -> Rep K (dW B φ (PH.deadS S)) H d v
 | .inl d', d, v, h, r => by
  rw [zT] at h;cases h;exact Rep.kp (Ext.deadS.kp I) _ _ r
 | .inr n, d, v, h, ⟨a, e1, e2⟩ => by
  rw [zT] at h;rw [e1];exact hc n a d e2 h
 | .tup xs, d, v, h, ⟨a, vs, e, h1, r1⟩ => by
  rw [zT] at h;split at h
  ·rename_i ds q
   cases h;exact ⟨a, vs, e, h1, nR I hc xs ds vs q r1⟩
  ·cases h
theorem nR {c : Nat -> Option PH.D} (I : GInv K B φ S H) (hc : zJ K B φ S H c) : ∀ (xs : List TIt) (ds : List PH.D) (vs : List L2.V), qA c xs = some ds -> RepIs K (dW B φ S) φ H xs vs -> RepL K (dW B φ (PH.deadS S)) H ds vs
 | [], ds, vs, h, r => by
  rw [qA] at h;cases h;exact r
 | x :: xs, ds, vs, h, ⟨v, ws, e, r1, r2⟩ => by
  rw [qA] at h;split at h
  ·rename_i y ys q1 q2
   cases h;exact ⟨v, ws, e, Bq I hc x y v q1 r1, nR I hc xs ys ws q2 r2⟩
  ·cases h
end
theorem Bp {c : Nat -> Option PH.D} (I : GInv K B φ S H) (hc : zJ K B φ S H c) (xs : List TIt) (ds : List PH.D) (vs : List L2.V) (h : jH (zT c) xs = some ds) (r : RepIs K (dW B φ S) φ H xs vs) : RepL K (dW B φ (PH.deadS S)) H ds vs := nR I hc xs ds vs (by rw [tM]; exact h) r
theorem EJ {c : Nat -> Option PH.D} (I : GInv K B φ S H) (hc : zJ K B φ S H c) {x : Vl} {d : PH.D} {v : L2.V} (h : A0 c x = some d) (r : RepV K B φ S H x v) : Rep K (dW B φ (PH.deadS S)) H d v := by
 cases x with
 | dat d' => cases h; exact Rep.kp (Ext.deadS.kp I) _ _ r
 | cel n =>
  obtain ⟨a, e1, e2⟩ := r;rw [e1];exact hc n a d e2 h
 | tc xs =>
  obtain ⟨a, vs, e, h1, r1⟩ := r;dsimp only [A0] at h;split at h
  ·rename_i ds q
   cases h;exact ⟨a, vs, e, h1, Bp I hc xs ds vs q r1⟩
  ·cases h
 | cels ns => cases h
 | scr ns => cases h
theorem rO {c : Nat -> Option PH.D} (I : GInv K B φ S H) (hc : zJ K B φ S H c) : ∀ (xs : List Vl) (ds : List PH.D) (vs : List L2.V), jH (A0 c) xs = some ds -> RepVs K B φ S H xs vs -> RepL K (dW B φ (PH.deadS S)) H ds vs
 | [], ds, vs, h, r => by
  cases h;exact r
 | x :: xs, ds, vs, h, ⟨v, ws, e, r1, r2⟩ => by
  unfold jH at h;split at h
  ·rename_i y ys q1 q2
   cases h;exact ⟨v, ws, e, EJ I hc q1 r1, rO I hc xs ys ws q2 r2⟩
  ·cases h
theorem A1 (I : GInv K B φ S H) : ∀ k : Nat, zJ K B φ S H (Bn S k)
 | 0 => fun n a d ha h => by cases h
 | k + 1 => fun n a d ha h => by
  have nb : ∀ c, S[n]? = some c -> c ≠ .dead -> ¬ dW B φ (PH.deadS S) a := fun c hn hc q => by
   rcases q with q | q
   ·exact I.blk a ⟨n, c, hn, hc, ha⟩ q
   ·exact jC q
  unfold Bn at h;split at h
  ·rename_i es q
   cases h;obtain ⟨vs, e, r⟩ := I.ok n _ a q ha;exact ⟨a, vs, rfl, nb _ q (by simp), e, RepL.kp (Ext.deadS.kp I) _ _ r⟩
  ·rename_i xs q
   split at h
   ·rename_i ds q2
    cases h;obtain ⟨vs, e, r⟩ := I.ok n _ a q ha;exact ⟨a, vs, rfl, nb _ q (by simp), e, rO I (A1 I k) xs ds vs q2 r⟩
   ·cases h
  ·cases h
theorem C8 (hl : S.length <= S2.length) {n : Nat} {c : Cell} (h : (oJ S S2)[n]? = some c) (hc : c ≠ .dead) : S[n]? = some c := by
 unfold oJ at h
 by_cases hn : n < S.length
 ·rw [aI hn] at h
  exact h
 ·rw [aS (by omega), uY] at h
  split at h
  ·cases h; exact absurd rfl hc
  ·cases h
theorem CO {φ φ' : List Addr} (h : ∀ (n : Nat) (a : Addr), φ[n]? = some a -> φ'[n]? = some a) : φ.length <= φ'.length := by
 by_cases hz : φ.length = 0
 ·omega
 ·have := h (φ.length - 1) (φ[φ.length - 1]'(by omega)) (bI _)
  have := (aF.mp this).1;omega
theorem Bb (I : GInv K B φ S H) (I' : GInv K B φ' S2 H') (X' : Ext φ (PH.deadS S) H φ' S2 H') : GInv K B φ' (oJ S S2) H' /\ Ext φ S H φ' (oJ S S2) H' := by
 have hl : S.length <= S2.length := by
  have := CO X'.ids;rw [<- I.len, <- I'.len];exact this
 have back : ∀ {n : Nat} {c : Cell} {a : Addr}, (oJ S S2)[n]? = some c -> c ≠ .dead -> φ'[n]? = some a -> S[n]? = some c /\ φ[n]? = some a := fun {n c a} h hc ha => by
  have h1 := C8 hl h hc;refine ⟨h1, ?_⟩
  have hn : n < φ.length := by rw [I.len]; exact (aF.mp h1).1
  have h2 : φ[n]? = some (φ[n]) := bI hn;have h3 := X'.ids _ _ h2;rw [ha] at h3;rw [h2, h3]
 have al : ∀ {a : Addr}, dP φ' (oJ S S2) a -> dP φ S a := fun ⟨n, c, h1, h2, h3⟩ => ⟨n, c, (back h1 h2 h3).1, h2, (back h1 h2 h3).2⟩
 have X : Ext φ S H φ' (oJ S S2) H' := ⟨fun b o h nb => ⟨(X'.old b o h jC).1, fun q => nb (al q)⟩, X'.ids⟩
 refine ⟨⟨?_, fun n c a h1 h2 => ?_, fun n m c c' a h1 h2 h3 h4 h5 h6 => ?_, fun a h => I.blk a (al h), I'.btr⟩, X⟩
 ·unfold oJ
  rw [mG, List.length_replicate, I'.len];omega
 ·by_cases hc : c = .dead
  ·subst hc; trivial
  ·obtain ⟨e1, e2⟩ := back h1 hc h2
   exact vZ X I (fun _ o h => (X'.old a o h jC).1) (I.ok n c a e1 e2)
 ·obtain ⟨e1, e2⟩ := back h1 h2 h5
  obtain ⟨e3, e4⟩ := back h3 h4 h6;exact I.inj n m c c' a e1 h2 e3 h4 e2 e4
theorem xI {φ : List Addr} {S : aM} : ∀ {ds : List PH.D} {vs : List L2.V}, RepL K (dW B φ S) H ds vs -> RepVs K B φ S H (ds.map Vl.dat) vs
 | [], vs, h => h
 | d :: ds, vs, ⟨v, ws, e, h1, h2⟩ => ⟨v, ws, e, h1, xI h2⟩
end
def rdR (S1 : aM) (r : Res Vl) : Res Vl := match r with
 | .ok (.dat d) S2 => if tV d = true then .ok (.dat d) (oJ S1 S2) else .stuck
 | _ => .stuck
def F2 (md : FD) (ds : List Vl) (S1 : aM) : Res Vl := match jH (A0 (Bn S1 4)) ds with
 | some es => rdR S1 (md (es.map Vl.dat) (deadS S1))
 | none => .stuck
def mRd (md : FD) (as : FA) : FE := fun ρ S => (as ρ S).bind (F2 md)
section
variable {X : Cx} {W : WX} {e : Expr} {es : List Expr} {pos p : Pos} {x : Str} {mas : FA} {ps : List Str} {md : FD} {j k : Nat}
theorem uM (F : mX X.prog X.w X.K X.mg X.base j x ps (spF X.K md)) (hr : Room k X.A) (tk : Takes X W) (ha : PA X (e :: es) (zU X.K W mas)) (hjk : j <= k := by decide) (hg : Gl X x := by rfl) (hdb : (x == ("__debug__" : Str)) = false := by decide)
  (he : starEach (e :: es) X.env = (false, eval e X.env) :: starEach es X.env := by rfl) (hpl : (backTo pos (starEach es X.env)).any (·.1) = false := by rfl) : PE X (.Call (.Name x p) (e :: es) [] pos) (bV X.K W (mRd md mas)) := by
 obtain ⟨fd, F, hm, hk, hb⟩ := F;refine bM (pe_callS (E := WE W) F (hr.mono hjk) hg hm hk hb (fun σ => passAt tk σ) ha hdb he hpl) fun σ H Q h => ?_
 refine bE (k := fun ds _ S => F2 md ds S) h fun B φ S ρ d v H1 I E r f => ?_
 unfold F2 at f;split at f
 case h_2 => exact f.elim
 rename_i es' qd;refine ⟨B, φ, deadS S, _, I.deadS, xI (rO I (A1 I 4) d es' v qd r), ?_⟩
 unfold rdR at f;split at f
 case h_2 => exact f.elim
 rename_i y S2 qm;rw [qm];split at f
 case isFalse => exact f.elim
 rename_i hc;intro φ' u H' I' X' r';obtain ⟨bk, be⟩ := Bb I I' X';exact f φ' u H' bk be (tU y u hc r')
end
def toJ : Vl -> Option TIt
 | .dat d => some (.inl d)
 | .cel n => some (.inr n)
 | .tc xs => some (.tup xs)
 | _ => none
section
variable {K : aA} {B : Addr -> Prop} {φ φ' : List Addr} {S S' S2 : aM} {H H' : Hp}
theorem A3 : ∀ {xs : List Vl} {js : List TIt} {vs : List L2.V}, jH toJ xs = some js -> RepVs K B φ S H xs vs -> RepIs K (dW B φ S) φ H js vs
 | [], js, vs, h, r => by cases h; exact r
 | x :: xs, js, vs, h, ⟨v, ws, e, r1, r2⟩ => by
  unfold jH at h;split at h
  ·rename_i y ys q1 q2
   cases h;refine ⟨v, ws, e, ?_, A3 q2 r2⟩
   cases x with
   | dat d => cases q1; exact r1
   | cel n => cases q1; exact r1
   | tc ys => cases q1; exact r1
   | _ => cases q1
  ·cases h
theorem RepIs.len {Bk : Addr -> Prop} : ∀ {js : List TIt} {vs : List L2.V}, RepIs K Bk φ H js vs -> vs.length = js.length
 | [], vs, h => by cases h; rfl
 | x :: xs, vs, ⟨v, ws, e, r1, r2⟩ => by rw [e, cJ, cJ, r2.len]
theorem RepIs.get {Bk : Addr -> Prop} : ∀ {js : List TIt} {vs : List L2.V} {i : Nat} {x : TIt}, RepIs K Bk φ H js vs -> js[i]? = some x -> ∃ v, vs[i]? = some v /\ RepI K Bk φ H x v
 | [], vs, i, x, h, q => by simp at q
 | y :: js, _, 0, x, ⟨v, ws, rfl, r1, r2⟩, q => by cases q; exact ⟨v, rfl, r1⟩
 | y :: js, _, i + 1, x, ⟨v, ws, rfl, r1, r2⟩, q => RepIs.get (i := i) r2 (by simpa using q)
end
def ofJ : TIt -> Vl
 | .inl d => .dat d
 | .inr n => .cel n
 | .tup xs => .tc xs
def Ex (xs : List Vl) (S : aM) : Res Vl := match jH toJ xs with
 | some js => if js.length <= sizeLine then .ok (.tc js) S else .stuck
 | none => .stuck
def qY (r : FA) : FE := fun ρ S => (r ρ S).bind Ex
def qH (x y : Vl) (S : aM) : Res Vl := match x, y with
 | .tc xs, .dat (.int i) => (match atI xs i with
  | some j => .ok (ofJ j) S
  | none => .stuck)
 | _, _ => .stuck
section
variable {X : Cx} {W : WX} {a b : Expr} {es : List Expr} {pos p : Pos} {mas : FA} {ma mb : FE} {K : aA}
theorem sV (h : PA X es (zU X.K W mas)) : PE X (.Tuple es x1 pos) (bV X.K W (qY mas)) := bM (pe_tup h) fun σ H Q h =>
 bE (k := fun xs ρ S1 => Ex xs S1) h fun B φ S ρ d v H1 I E r f => by
  unfold Ex at f;split at f
  ·rename_i js q
   have l := A3 q r;split at f
   ·rename_i hl
    exact ⟨by rw [l.len]; exact hl, fun p hp => f φ _ _ (I.new hp) (Ext.new I hp) ⟨p, v, rfl, .inl (.inl upd_same), l.kp ((Ext.new I hp).kp I) fun _ _ h => h⟩⟩
   ·exact f.elim
  ·exact f.elim
theorem EV : cN K (cIx K) qH := fun {W σ B φ S H x y d e Q} I r1 r2 f => by
 unfold qH at f;split at f
 ·rename_i xs i
  cases r2;obtain ⟨a, vs, rfl, h1, l1⟩ := r1;split at f
  ·rename_i j q
   unfold atI at q;cases qi : ixN xs.length i with
   | none => rw [qi] at q; cases q
   | some n =>
    rw [qi] at q;obtain ⟨v, h2, h3⟩ := l1.get q;refine ⟨vs, v, .inr h1, by unfold atI; rw [l1.len, qi]; exact h2, Fin.now f I ?_⟩
    cases j with
    | inl d => exact h3
    | inr n => exact h3
    | tup ys => exact h3
  ·exact f.elim
 ·exact f.elim
theorem BJ (ha : PE X a (bV X.K W ma)) (hb : PE X b (bV X.K W mb)) (hs : PlainIx b := by intro _ _; rfl) : PE X (.Subscript a b pos) (bV X.K W (aR qH ma mb)) := bM (e_ix ha hb hs) fun σ H Q h => nU EV h
end
section
variable {S : aM} {ρ : Ev} {mas : FA} {md : FD}
theorem g_rd : mRd md mas ρ S = (mas ρ S).bind (F2 md) := rfl
theorem sR : qY mas ρ S = (mas ρ S).bind Ex := rfl
theorem AM : oJ S (deadS S) = S := by
 unfold oJ deadS;rw [bR, Nat.sub_self];simp
theorem F0 {ds : List Vl} {es : List PH.D} {d : PH.D} (h1 : jH (A0 (Bn S 4)) ds = some es) (h2 : md (es.map Vl.dat) (deadS S) = .ok (.dat d) (deadS S)) (h3 : tV d = true) : F2 md ds S = .ok (.dat d) S := by
 unfold F2;rw [h1];dsimp only;rw [h2];unfold rdR;dsimp only;rw [if_pos h3, AM]
end
abbrev FGn := Ev -> aM -> Res (List PH.D)
abbrev FDG := List Vl -> aM -> Res (List PH.D)
end PH
namespace L2
open PySem PySem.Spec PyProof.Rows GenW
abbrev EndP := End -> Shared -> Prop
abbrev TQ := Addr -> List V -> Hp -> Prop
end L2
namespace L2
open PySem PySem.Spec PyProof.Rows
abbrev uX := Value × Option Nat × (Addr -> Value -> Option Addr -> TS)
def Ends.gone (D : Ends) (i : Nat) : Ends := { nx := fun σ H => D.nx (σ.set i none) H, rt := D.rt, bk := fun σ H => D.bk (σ.set i none) H, ct := fun σ H => D.ct (σ.set i none) H }
def wishA (ts : Addr -> Value -> Option Addr -> TS) (o : Option Nat) (D : Ends) (a : Addr) (cls : Value) (d : Option Addr) (σ : St) (H : Hp) : Prop := match o with
 | none => ts a cls d D σ H
 | some i => ts a cls d (D.gone i) (σ.set i (some (.ref a))) H
def lL (K : aA) (Wout : WX) (D : Ends) : List uX -> WX
 | [] => Wout
 | z :: r => fun cls d σ H => ∃ b, pV K cls z.1 = some b /\ (b = true -> ∀ a, H a = none -> wishA z.2.2 z.2.1 D a cls d σ H) /\ (b = false -> lL K Wout D r cls d σ H)
inductive HdsA (X : Cx) : List ExceptHandler -> List uX -> Prop
 | nil : HdsA X [] []
 | cons {x : Str} {c : Value} {ts : Addr -> Value -> Option Addr -> TS} {b₀ : Stmt} {suite : List Stmt} {np pos' : Pos} {hds : List ExceptHandler} {l : List uX} (hc : Names X x c)
   (hsu : ∀ (a : Addr) (oe : Obj) (cls : Value) (d : Option Addr) (pn : List (Addr × Obj)), Zc cls d oe -> (∃ vs, oe.data = .fields vs) -> PSs (X.suite a ((a, oe) :: pn)) (b₀ :: suite) (ts a cls d)) (r : HdsA X hds l) :
   HdsA X (.ExceptHandler (some (.Name x np)) none (b₀ :: suite) pos' :: hds) ((c, none, ts) :: l)
 | consA {x n : Str} {i : Nat} {c : Value} {ts : Addr -> Value -> Option Addr -> TS} {b₀ : Stmt} {suite : List Stmt} {np pos' : Pos} {hds : List ExceptHandler} {l : List uX} (hc : Names X x c) (hN : X.N.Nodup) (hi : X.N[i]? = some n) (hln : X.env.kindOf n = some .local)
   (hsu : ∀ (a : Addr) (oe : Obj) (cls : Value) (d : Option Addr) (pn : List (Addr × Obj)), Zc cls d oe -> (∃ vs, oe.data = .fields vs) -> PSs (X.suite a ((a, oe) :: pn)) (b₀ :: suite) (ts a cls d)) (r : HdsA X hds l) :
   HdsA X (.ExceptHandler (some (.Name x np)) (some n) (b₀ :: suite) pos' :: hds) ((c, some i, ts) :: l)
section
variable {X : Cx} {body : List Stmt} {h₀ : ExceptHandler} {hds : List ExceptHandler} {l : List uX} {pos : Pos} {tb : WX -> TS} {Wout : WX}
theorem sC (hs : X.stack = X.env :: X.outer) (hf : X.env.frame = some X.env.locals) (tk : Takes X Wout)
  (hb : ∀ (W : WX) (pn : List (Addr × Obj)) (xe : Value -> Shared -> Prop), Takes (X.tr pn xe) W -> PassesOwn (model X.prog X.w) X.A X.env xe -> PSs (X.tr pn xe) body (tb W))
  (hh : HdsA X (h₀ :: hds) l) : PS X (.Try body (h₀ :: hds) [] [] pos) (fun D σ H => tb (lL X.K Wout D l) D σ H) := by
 refine ⟨fun pins s σ H D I hq => ?_⟩
 have okX := I.ok;have frm : X.A.frames = some (X.env :: X.outer) := by rw [okX.frames, hs]
 refine wpAny_Try_except ?_
 refine wpAny_mono ((hb (lL X.K Wout D l) (X.pn ++ pins) (fun x s₁ => wpAny (model X.prog X.w) X.A (noteFrame x X.env) (fun _ s₂ => wpAny (model X.prog X.w) X.A (setFlight x none) (fun _ s₃ =>
  wpAny (model X.prog X.w) X.A (handleBy x X.env (h₀ :: hds)) (SP X pins D) X.xe s₃) X.xe s₂) X.xe s₁) (fun u s' xx => ?_) PassesOwn.looking).run [] s σ H D (I.toTry _) hq) (fun fl s1 hsp => ?_) (fun _ _ z => z)
 ·obtain ⟨ea, G, sI, pinT, σT, HT, cls, ed, rfl, JT, keepG, upT, skyT, noneA, osT, bareT, wish⟩ := xx
  have JI : Inv X pins σT HT sI := JT.ofTry okX;have skyE : Sky G (X.env :: X.outer) ea (Zc cls ed) X.env.locals s'.heap := by rw [<- hs]; exact skyT
  show wpAny (model X.prog X.w) X.A (noteFrame (.ref ea) X.env) _ _ _
  refine Sky.land Zc.steady frm hf skyE fun hA flA upA => ?_
  have JA : Inv X pins σT HT { s' with heap := hA } := JI.landed keepG flA.1 (upT.trans upA) osT bareT
  obtain ⟨oA, vA, atA, zA, dA⟩ := flA.there;have ea_fr : ea ∉ frs (X.env :: X.outer) := fun hm => by
   obtain ⟨_, o', e', hnf⟩ := flA.2.2.1.mem hm;rw [atA] at e'; cases e';exact hnf _ dA
  have ea_L : ea ≠ X.env.locals := fun z => ea_fr (mH.mpr ⟨X.env, aY, by rw [hf, z]⟩)
  have ea_F : ea ∉ X.fs := fun hm => by
   obtain ⟨e1, he1, q1⟩ := mH.mp hm;exact ea_fr (mH.mpr ⟨e1, bD _ he1, q1⟩)
  have SA := JA.suite atA dA noneA ea_L ea_F;have tested : ∀ {x : Str} {c : Value} {np : Pos} (hc : Names X x c) {Q : Value -> Shared -> Prop} {E : Value -> Shared -> Prop}, Q c { s' with heap := hA } -> wpAny (model X.prog X.w) (X.A.mark (some (.ref ea))) (eval (.Name x np) X.env) Q E { s' with heap := hA } := fun {x c np} hc {Q E} q => by
   obtain ⟨hg, hdbg, hm | ⟨hm, hv, hnn⟩⟩ := hc
   ·exact ld_glob (X := X.suite ea ((ea, oA) :: (X.pn ++ pins))) SA hg hm q hdbg
   ·exact ld_blt (X := X.suite ea ((ea, oA) :: (X.pn ++ pins))) SA hg hm hv q hnn hdbg
  have lookA : PySem.W.Looks (model X.prog X.w) hA (typeOf (.ref ea)) cls := fun A Q E s k q => wpAny_typeOf_ref (k _ _ atA) (by rw [zA.1]; exact q)
  have clauses : ∀ {hds' : List ExceptHandler} {l' : List uX}, HdsA X hds' l' -> lL X.K Wout D l' cls ed σT HT -> wpAny (model X.prog X.w) X.A (handleBy (.ref ea) X.env hds') (SP X pins D) X.xe { s' with heap := hA } := by
   intro hds' l' hk
   induction hk with
   | nil =>
    intro w;refine wpAny_handleBy_nil ?_
    obtain ⟨_, _, _, oB, vB, T, oT, tB, atB, zB, dB, h1B, _⟩ := id flA;unfold PySem.passOn;refine wpAny_bind (wpAny_field atB dB h1B ?_)
    rw [if_neg (show ¬ ((Value.ref T == Value.none) = true) from by simp)]
    have on : wpAny (model X.prog X.w) X.A (setFlight (.ref ea) X.env.frame) (fun _ sB => wpAny (model X.prog X.w) X.A (throw (.ref ea) : Sem Flow) (SP X pins D) X.xe sB) X.xe { s' with heap := hA } := by
     rw [hf];refine HandSPX.setFlight_upZ flA fun hB landB upB => wpAny_throw (tk _ _ ?_)
     exact ⟨ea, G, sI, pins, σT, HT, cls, ed, rfl, JI, keepG, (upT.trans upA).trans upB, .inr (.inr (by rw [hs]; exact landB)), noneA, osT, bareT, w⟩
    first
     | exact wpAny_bind (wpAny_pure (wpAny_bind on))
     | exact wpAny_bind on
   | @cons x c ts b₀ suite np pos' hds2 l2 hc hsu r ih =>
    intro w;obtain ⟨b, hb1, hyes, hno⟩ := w;refine wpAny_handleBy_cons (codeAny_handlers_test (tested hc ((PySem.W.exm_one (M := model X.prog X.w) JA.kIn lookA hb1).here ?_))) (by intro q; cases q)
    cases b with
    | true =>
     refine codeAny_handlers_suite (HandSPX.lands_againZ flA fun hB flB upB => ?_)
     obtain ⟨oB, vB, atB, zB, dB⟩ := flB.there;have JB : Inv X pins σT HT { s' with heap := hB } := JI.landed keepG flB.1 ((upT.trans upA).trans upB) osT bareT
     have SB := JB.suite atB dB noneA ea_L ea_F;refine wpAny_mono ((hsu ea oB cls ed (X.pn ++ pins) zB ⟨_, dB⟩).run [] _ _ HT _ SB (hyes rfl ea noneA)) (fun fl s6 hsp => ?_) (fun _ _ z => False.elim z)
     cases fl with
     | next => obtain ⟨σ6, H6, S6, q6⟩ := hsp; exact ⟨_, _, S6.unsuite okX, q6⟩
     | brk => obtain ⟨σ6, H6, S6, q6⟩ := hsp; exact ⟨_, _, S6.unsuite okX, q6⟩
     | cont => obtain ⟨σ6, H6, S6, q6⟩ := hsp; exact ⟨_, _, S6.unsuite okX, q6⟩
     | ret u => obtain ⟨v6, σ6, H6, S6, r6, q6⟩ := hsp; exact ⟨_, _, _, S6.unsuite okX, r6, q6⟩
    | false => exact ih (hno rfl)
   | @consA x n i c ts b₀ suite np pos' hds2 l2 hc hN hi hln hsu r ih =>
    intro w;obtain ⟨b, hb1, hyes, hno⟩ := w;refine wpAny_handleBy_cons (codeAny_handlers_test (tested hc ((PySem.W.exm_one (M := model X.prog X.w) JA.kIn lookA hb1).here ?_))) (by intro q; cases q)
    cases b with
    | true =>
     refine codeAny_handlers_suite_as (HandSPX.lands_againZ flA fun hB flB upB => ?_)
     obtain ⟨oB, vB, atB, zB, dB⟩ := flB.there;have JB : Inv X pins σT HT { s' with heap := hB } := JI.landed keepG flB.1 ((upT.trans upA).trans upB) osT bareT
     have SB := JB.suite atB dB noneA ea_L ea_F;refine store_ok (X := X.suite ea ((ea, oB) :: (X.pn ++ pins))) (v := .ref ea) SB hN hi (.inl hln) rfl (fun s5 S5 => ?_) (.inr hln)
     refine wpAny_mono ((hsu ea oB cls ed (X.pn ++ pins) zB ⟨_, dB⟩).run [] s5 _ HT _ S5 (hyes rfl ea noneA)) (fun fl s6 hsp => ?_) (fun _ _ z => False.elim z)
     have unbound : ∀ {σ6 : St} {H6 : Hp} {Q : Shared -> Prop}, Inv (X.suite ea ((ea, oB) :: (X.pn ++ pins))) [] σ6 H6 s6 -> (∀ s7, Inv X pins (σ6.set i none) H6 s7 -> Q s7) ->
       wpAny (model X.prog X.w) X.A (do bindName X.env n .none; unbindBehindTheSuite X.env n pos') (fun _ s7 => Q s7) X.xe s6 := fun {σ6 H6 Q} S6 hq => gone_ok (S6.unsuite okX) hN hi hln hq
     cases fl with
     | next => obtain ⟨σ6, H6, S6, q6⟩ := hsp; exact unbound S6 fun s7 J7 => ⟨_, _, J7, q6⟩
     | brk => obtain ⟨σ6, H6, S6, q6⟩ := hsp; exact unbound S6 fun s7 J7 => ⟨_, _, J7, q6⟩
     | cont => obtain ⟨σ6, H6, S6, q6⟩ := hsp; exact unbound S6 fun s7 J7 => ⟨_, _, J7, q6⟩
     | ret u => obtain ⟨v6, σ6, H6, S6, r6, q6⟩ := hsp; exact unbound S6 fun s7 J7 => ⟨_, _, _, J7, r6, q6⟩
    | false => exact ih (hno rfl)
  exact clauses hh wish
 ·cases fl with
  | next => obtain ⟨σ1, H1, J1, q1⟩ := hsp; exact wpAny_execs_nil ⟨σ1, H1, J1.ofTry okX, q1⟩
  | brk => obtain ⟨σ1, H1, J1, q1⟩ := hsp; exact ⟨σ1, H1, J1.ofTry okX, q1⟩
  | cont => obtain ⟨σ1, H1, J1, q1⟩ := hsp; exact ⟨σ1, H1, J1.ofTry okX, q1⟩
  | ret u => obtain ⟨v1, σ1, H1, J1, r1, q1⟩ := hsp; exact ⟨v1, σ1, H1, J1.ofTry okX, r1, q1⟩
end
end L2
namespace PH
open PySem PySem.Spec PyProof.Rows L2
inductive XJ where
 | c (v : L2.V) (d : PH.D) | f (n : Str) | v (i : Nat) | fl (n : Str) (i : Nat)
section
variable {X : Cx} {W : WX} {e : Expr} {es : List Expr} {pos : Pos} {K : aA} {B : Addr -> Prop} {φ φ' : List Addr} {S S' : aM} {H H' : Hp} {σ : L2.St} {m : FS} {D : Ends} {cs : List Str} {x : Str}
theorem rd_xf {er : Er} {cl : Value} {xd : Option Addr} {C : Str} {k : Nat} {a : Addr} {n : Str} {z : PH.D} {Q : L2.VK} (rx : zL K B φ S H er cl xd) (hC : er.cls = C) (hσ : sl σ k = some (.ref a)) (q0 : (er.ns.zip er.xs).lookup n = some z)
  (q : ∀ v, Rep K (dW B φ S) H z v -> Q v H) : tXf a cl xd (He.ga K C) n (kF k) σ H Q := by
 obtain ⟨ec, rest⟩ := rx;subst hC;rcases rest with ⟨e1, _⟩ | ⟨dd, us, e1, e2, l⟩
 ·rw [e1] at q0; simp at q0
 ·obtain ⟨v, h2, h3⟩ := tL l q0
  show (match sl σ k with | some v => _ | none => False)
  rw [hσ];exact ⟨rfl, ec, dd, _, v, e1, e2, h2, q v h3⟩
inductive HJ where
 | m (f : FS) | j (k : Nat) (its : List XJ)
theorem RepE.wipe1 {ρ : Ev} {v : L2.V} (E : RepE K B φ S H ρ σ) (k : Nat) : RepE K B φ S H (ρ.set k none) (σ.set k (some v)) := by
 refine ⟨by simp [E.1], fun i d h => ?_⟩
 by_cases e : k = i
 ·subst e
  rw [aK, if_pos rfl] at h;split at h
  ·cases h
  ·cases h
 ·rw [aK, if_neg e] at h ⊢
  exact E.2 i d h
end
end PH
namespace PH
open PySem PySem.Spec PyProof PyProof.Rows L2
theorem CD {n : Nat} {fa : List He.Fa} {fn : List He.DefD} {ts : List He.Tab} {ex : aA -> Bool} {g : Addr -> Option Obj} {s : Shared} (h : ∀ a, g a = s.heap.get? a) : Eg n fa fn ts ex g = (Du n fa fn ts ex).obs s := by
 have e : g = s.heap.get? := funext h;rw [e] <;> rfl
section
variable {X : Cx} {W : WX}
theorem fI {i j pos} : PE X (.Constant (.int i) j pos) (bV X.K W (mC (.int i))) := D6 pe_int fun _ _ => rfl
theorem fS {x j pos} : PE X (.Constant (.str x) j pos) (bV X.K W (mC (.str x))) := D6 pe_str fun _ _ => rfl
theorem fB {b j pos} : PE X (.Constant (.bool b) j pos) (bV X.K W (mC (.bl b))) := D6 pe_bl fun _ _ => rfl
theorem fN {j pos} : PE X (.Constant .none j pos) (bV X.K W (mC .non)) := D6 pe_non fun _ _ => rfl
end
section
variable {P : Program} {w : World} {K : aA} {mg : Str -> Option Value} {base : Heap}
theorem iJ {x : Str} {st : Stmt} {N ps : List Str} {k : Nat} {md : FD} {mb : FS} (F : nC K x st) (g : mg x = some (.ref (He.ga K x))) (S : FnScope N ps (defScope st)) (R : Runs md N.length ps.length mb)
  (bnd : ∀ (kV doc pm : Value) (an : Option Addr) (cdv ct : Value) (us : List Value), us.length = ps.length -> bindArgs (dH x x (defArgs st) (defBody st) (defScope st) .none kV doc pm an cdv ct) ⟨us, []⟩ = pure (ps.zip us))
  (hbody : ∀ (cdv : Value) (A : Around) (outer : List Env) (s : Shared) (H : Hp) (E : XK), Room k (A.deeper (envOfC x (defScope st) s.heap.objs.size (He.ga K x) cdv)) ->
   Takes (cxOf (L2.CX P w) P w K mg base N x (defScope st) (He.ga K x) cdv A outer s H E) (fun c x _ H => E c x H) -> N.Nodup ->
   PSs (cxOf (L2.CX P w) P w K mg base N x (defScope st) (He.ga K x) cdv A outer s H E) (defBody st) (gM K (fun c x _ H => E c x H) mb)) : mX P w K mg base (k + 1) x ps (spF K md) :=
 okF F g S R bnd fun cdv A outer s H E hr => hbody cdv A outer s H E hr (takes_of (X := cxOf (L2.CX P w) P w K mg base N x (defScope st) (He.ga K x) cdv A outer s H E) (E := E) rfl rfl rfl rfl) S.nd
end
end PH
namespace PH
open PySem PySem.Spec PyProof.Rows L2
structure XsF (K : aA) (D : Addr) : Prop where
 cl : (PySem.W.clsIn K D).isSome = true
 hg : bK K (.ref D) "__getattribute__" = some (some (.builtin "BaseException.__getattribute__"))
 hk : bK K (.ref D) "__getattr__" = some none
 hs : rM K (.ref D) (.type "BaseException") = some true
 ha : bK K (.ref D) "__class__" = some (some (.builtin "object.__class__"))
 hn : zP K (.builtin "object.__class__") "__get__" = some (some (.builtin "getset_descriptor.__get__"))
 ht : PySem.W.takesIn K (.builtin "object.__class__") = some true
 hm : PySem.W.mroIn K D (.type "object") = some true
theorem ED {K : aA} {D : Addr} (h : xsB K D = true) : XsF K D := by
 obtain ⟨h1, h⟩ := He.ba h;obtain ⟨h2, h⟩ := He.ba h;obtain ⟨h3, h⟩ := He.ba h;obtain ⟨h4, h⟩ := He.ba h;obtain ⟨h5, h⟩ := He.ba h;obtain ⟨h6, h⟩ := He.ba h;obtain ⟨h7, h8⟩ := He.ba h;exact ⟨h1, of_decide_eq_true h2, of_decide_eq_true h3, of_decide_eq_true h4, of_decide_eq_true h5, of_decide_eq_true h6, of_decide_eq_true h7, of_decide_eq_true h8⟩
def rXs (K : aA) (D : Addr) (a : Addr) (cls : Value) (d : Option Addr) : List V -> Hp -> VK -> Prop := fun xs H Q => ∃ (c dd : Addr) (fs : List (Str × V)) (b : Bool), xs = [.ref a, .ref c] /\ cls = .ref D /\ d = some dd /\ H dd = some (.xd fs) /\ cA K (.ref D) (.ref c) = some b /\ Q (.bl b) H
theorem DH {X : Cx} {a D : Addr} {oe : Obj} {cls : Value} {d : Option Addr} {pn : List (Addr × Obj)} (C : XsF X.K D) (hz : Zc cls d oe) (hf : ∃ vs, oe.data = .fields vs) : CallR (X.suite a ((a, oe) :: pn)) (.builtin "isinstance") (rXs X.K D a cls d) := by
 intro pins s σ H xs us Q I r h;obtain ⟨c, dd, fs, b, rfl, ec, ed, ea, e, q⟩ := h;subst ec ed;cases r with
 | cons rx rr =>
  cases rr with
  | cons rt rr =>
   cases rr;cases rx;cases rt;obtain ⟨ha, _⟩ := I.pin (a, oe) (jR.mpr (.inl aY));obtain ⟨vs, hd⟩ := hf;have hx : ObjOk X.prog X.w H s.heap dd (.xd fs) := I.hok dd _ ea;obtain ⟨mA, hns, hr⟩ := hx;obtain ⟨od, ho, hl⟩ := lookIn_ns hns;have J : pX s.heap a oe D (some od) := ⟨ha, hz.1, by unfold PySem.W.notCls; rw [hd] <;> rfl, by rw [hz.2]; exact ho⟩
   exact nO (zX C.cl C.hg C.hk C.hs C.ha C.hn C.ht C.hm) I.kIn J e (fun z => nomatch z) fun tk => ⟨.bl b, H, I.kept (t' := tk) fun _ _ z => z, rfl, q⟩
inductive XKI where
 | c (v : L2.V) (d : PH.D) | f (n : Str) | is (x : Str) (b : Bool)
def xkR (K : aA) (a : Addr) (cls : Value) (d : Option Addr) (C : Addr) (k : Nat) : List XKI -> TA
 | [] => tNil
 | .c v _ :: r => tCons (tC v) (xkR K a cls d C k r)
 | .f n :: r => tCons (tXf a cls d C n (kF k)) (xkR K a cls d C k r)
 | .is x _ :: r => tCons (tCB (rXs K C a cls d) (tCons (kF k) (tCons (tC (.ref (He.ga K x))) tNil))) (xkR K a cls d C k r)
def zZ (K : aA) (C : Str) : List XKI -> Prop
 | [] => True
 | .c v d :: r => (∀ (K : aA) (Bk : Addr -> Prop) (H : Hp), Rep K Bk H d v) /\ zZ K C r
 | .f _ :: r => zZ K C r
 | .is x b :: r => cA K (.ref (He.ga K C)) (.ref (He.ga K x)) = some b /\ zZ K C r
section
variable {X : Cx} {W : WX} {e : Expr} {es : List Expr} {pos : Pos} {K : aA} {B : Addr -> Prop} {φ φ' : List Addr} {S S' : aM} {H H' : Hp} {σ : L2.St} {m : FS} {D : Ends} {cs : List Str} {x : Str}
def tSetI (i : Nat) (te : TE) : TS := fun D σ H => te σ H fun x H1 => D.nx (σ.set i (some x)) H1
theorem RepE.unbind {ρ : Ev} (E : RepE K B φ S H ρ σ) (k : Nat) : RepE K B φ S H (ρ.set k none) (σ.set k none) := by
 refine ⟨by simp [E.1], fun i d h => ?_⟩
 by_cases e : k = i
 ·subst e
  rw [aK, if_pos rfl] at h;split at h
  ·cases h
  ·cases h
 ·rw [aK, if_neg e] at h ⊢
  exact E.2 i d h
end
def EG (K : aA) (a : Addr) (cls : Value) (d : Option Addr) (C : Addr) (k : Nat) : XKI -> TE
 | .c v _ => tC v
 | .f n => tXf a cls d C n (kF k)
 | .is x _ => tCB (rXs K C a cls d) (tCons (kF k) (tCons (tC (.ref (He.ga K x))) tNil))
def xkV (e : Er) : XKI -> Option PH.D
 | .c _ d => some d
 | .f n => (e.ns.zip e.xs).lookup n
 | .is _ b => if e.ns = [] then none else some (.bl b)
def mJ (K : aA) (a : Addr) (cls : Value) (d : Option Addr) (C : Addr) (k : Nat) : List (Nat × XKI) -> TS
 | [] => tNext
 | (i, it) :: r => tSeq (tSetI i (EG K a cls d C k it)) (mJ K a cls d C k r)
def wJ (e : Er) (k : Nat) : List (Nat × XKI) -> Ev -> Option Ev
 | [], ρ => some ρ
 | (i, it) :: r, ρ => if k = i then none else (match xkV e it with
  | some d => wJ e k r (ρ.set i (some (.dat d)))
  | none => none)
section
variable {X : Cx} {W : WX} {e : Expr} {es : List Expr} {pos : Pos} {K : aA} {B : Addr -> Prop} {φ φ' : List Addr} {S S' : aM} {H H' : Hp} {σ : L2.St} {m : FS} {D : Ends} {cs : List Str} {x : Str}
theorem EF {er : Er} {cl : Value} {xd : Option Addr} {C : Str} {k : Nat} {a : Addr} (hC : er.cls = C) (hσ : sl σ k = some (.ref a)) (rx : zL K B φ S H er cl xd) {it : XKI} {d : PH.D} {Q : VK} (ok : zZ K C [it]) (h : xkV er it = some d) (q : ∀ v, Rep K (dW B φ S) H d v -> Q v H) : EG K a cl xd (He.ga K C) k it σ H Q := by
 cases it with
 | c v d' => cases h; exact q v (ok.1 _ _ _)
 | f n => exact rd_xf rx hC hσ h fun v rv => q v rv
 | is x b =>
  have h' : (if er.ns = [] then none else some (PH.D.bl b)) = some d := h
  by_cases hne : er.ns = []
  ·rw [if_pos hne] at h'
   cases h'
  ·rw [if_neg hne] at h'
   cases h';obtain ⟨ec, rest⟩ := rx;rcases rest with ⟨e1, _⟩ | ⟨dd, us, e1, e2, l⟩
   ·exact (hne e1).elim
   show (match sl σ k with | some v => _ | none => False)
   rw [hσ];exact ⟨He.ga K x, dd, _, b, rfl, by rw [ec, hC], e1, e2, ok.1, q _ rfl⟩
def zY (K : aA) (C : Str) : List (Nat × XKI) -> Prop
 | [] => True
 | (_, it) :: r => zZ K C [it] /\ zY K C r
theorem wI {er : Er} {cl : Value} {xd : Option Addr} {C : Str} {k : Nat} {a : Addr} (hC : er.cls = C) (rx : zL K B φ S H er cl xd) : ∀ {its : List (Nat × XKI)} {ρ ρ2 : Ev} {σ : L2.St}, zY K C its -> σ[k]? = some (some (.ref a)) -> RepE K B φ S H ρ σ -> wJ er k its ρ = some ρ2 -> (∀ σ2, RepE K B φ S H ρ2 σ2 -> D.nx σ2 H) -> mJ K a cl xd (He.ga K C) k its D σ H
 | [], ρ, ρ2, σ, ok, hσ, E, h, N => by
  cases h;exact N σ E
 | (i, it) :: r, ρ, ρ2, σ, ok, hσ, E, h, N => by
  unfold wJ at h;split at h
  ·cases h
  ·rename_i hne
   cases q : xkV er it with
   | none => rw [q] at h; cases h
   | some d =>
    rw [q] at h
    show EG K a cl xd (He.ga K C) k it σ H fun v H1 => mJ K a cl xd (He.ga K C) k r D (σ.set i (some v)) H1
    refine EF hC (DR hσ) rx ok.1 q fun v rv => ?_
    refine wI hC rx ok.2 ?_ (E.set (d := .dat d) (v := v) rv i) h N
    rw [aK, if_neg fun z => hne z.symm]
    exact hσ
abbrev HL := Str × Nat × List (Nat × XKI)
def kT (cs : List Str) : List HL -> Er -> Ev -> aM -> Out
 | [], e, ρ, S => .err e ρ S
 | (c, k, its) :: r, e, ρ, S => if e.cls = c then (if k < ρ.length then (match wJ e k its (ρ.set k none) with
   | some ρ' => .next (ρ'.set k none) S
   | none => .stuck) else .stuck) else kT cs r e ρ S
def CP (K : aA) : List HL -> Prop
 | [] => True
 | (c, _, its) :: r => zY K c its /\ CP K r
def mQ (cs : List Str) (m : FS) (hs : List HL) : FS := fun ρ S => match m ρ S with
 | .err e ρ' S' => if e.cls ∈ cs /\ ∀ h ∈ hs, h.1 ∈ cs then kT cs hs e ρ' S' else .stuck
 | o => o
def kTrL (cs : List Str) (hs : List HL) (o : Out) : Out := match o with
 | .err e ρ' S' => if e.cls ∈ cs /\ ∀ h ∈ hs, h.1 ∈ cs then kT cs hs e ρ' S' else .stuck
 | o => o
theorem Am {ρ : Ev} {hs : List HL} : mQ cs m hs ρ S = kTrL cs hs (m ρ S) := by
 unfold mQ kTrL;cases m ρ S <;> rfl
def hlR (K : aA) : HL -> uX
 | (c, k, its) => (.ref (He.ga K c), some k, fun a cls d => mJ K a cls d (He.ga K c) k its)
def hsL (K : aA) (hs : List HL) : List uX := hs.map (hlR K)
theorem pB {e : Er} {c : Value} {d : Option Addr} {Wout : WX} (M : XMs K cs) (he : e.cls ∈ cs) (rx : zL K B φ S H e c d) (I : GInv K B φ S H) {ρ : Ev} (E : RepE K B φ S H ρ σ) : ∀ {hs : List HL}, CP K hs -> (∀ h ∈ hs, h.1 ∈ cs) -> FinS K Wout D B φ S H (kT cs hs e ρ S) -> lL K Wout D (hsL K hs) c d σ H
 | [], _, _, f => f φ σ c d H I Ext.refl E rx
 | (c', k, its) :: r, ok, hc, f => by
  unfold kT at f;have q := M e.cls he c' (hc _ (aY ..));have ec : c = .ref (He.ga K e.cls) := rx.1;refine ⟨decide (e.cls = c'), by rw [ec]; exact q, fun h a na => ?_, fun h => ?_⟩
  ·have ecl := of_decide_eq_true h
   rw [if_pos ecl] at f;split at f
   ·rename_i hk
    split at f
    ·rename_i ρ' qd
     have hl : k < σ.length := by rw [<- E.1]; exact hk
     refine wI (σ := σ.set k (some (.ref a))) ecl rx ok.1 (by rw [aK, if_pos rfl, if_pos hl]) (E.wipe1 k) qd fun σ2 E2 => ?_
     exact f φ _ _ I Ext.refl (E2.unbind k)
    ·exact f.elim
   ·exact f.elim
  ·rw [if_neg (of_decide_eq_false h)] at f
   exact pB M he rx I E (hs := r) ok.2 (fun h hh => hc h (bD _ hh)) f
theorem A6 {hs : List HL} (M : XMs K cs) (ok : CP K hs) (h : gM K W (mQ cs m hs) D σ H) : gM K (lL K W D (hsL K hs)) m D σ H := by
 obtain ⟨B, φ, S, ρ, I, E, f⟩ := h;refine ⟨B, φ, S, ρ, I, E, ?_⟩
 unfold mQ at f;cases q : m ρ S with
 | err e ρ' S' =>
  rw [q] at f;dsimp only at f;split at f
  ·rename_i hh
   exact fun φ' σ' c x H' I' X' E' r => pB M hh.1 r I' E' ok hh.2 (FinS.ext f X')
  ·exact f.elim
 | next ρ S' => rw [q] at f; exact f
 | ret d S' => rw [q] at f; exact f
 | brk ρ S' => rw [q] at f; exact f
 | cnt ρ S' => rw [q] at f; exact f
 | stuck => rw [q] at f; exact f
theorem D5 {body : List Stmt} {h₀ : ExceptHandler} {hds : List ExceptHandler} {hs' : List HL} (M : XMs X.K cs) (ok : CP X.K hs') (hs : X.stack = X.env :: X.outer) (hf : X.env.frame = some X.env.locals) (tk : Takes X W)
  (hb : ∀ (W : WX) (pn : List (Addr × Obj)) (xe : Value -> Shared -> Prop), Takes (X.tr pn xe) W -> PassesOwn (model X.prog X.w) X.A X.env xe -> PSs (X.tr pn xe) body (gM X.K W m))
  (hh : HdsA X (h₀ :: hds) (hsL X.K hs')) : PS X (.Try body (h₀ :: hds) [] [] pos) (gM X.K W (mQ cs m hs')) := fM (sC (tb := fun W => gM X.K W m) hs hf tk hb hh) fun D σ H h => A6 M ok h
theorem FH : HdsA X [] (hsL X.K []) := .nil
theorem hl_as {b₀ : Stmt} {suite : List Stmt} {hds : List ExceptHandler} {k : Nat} {its : List (Nat × XKI)} {n : Str} {hs' : List HL} {np pos' : Pos} (g : X.mg x = some (.ref (He.ga X.K x))) (hN : X.N.Nodup) (hi : X.N[k]? = some n) (hln : X.env.kindOf n = some .local)
  (hsu : ∀ (a : Addr) (oe : Obj) (cls : Value) (d : Option Addr) (pn : List (Addr × Obj)), Zc cls d oe -> (∃ vs, oe.data = .fields vs) -> PSs (X.suite a ((a, oe) :: pn)) (b₀ :: suite) (mJ X.K a cls d (He.ga X.K x) k its)) (r : HdsA X hds (hsL X.K hs')) (hg : Gl X x := by rfl) (hd : (x == ("__debug__" : Str)) = false := by decide) :
  HdsA X (.ExceptHandler (some (.Name x np)) (some n) (b₀ :: suite) pos' :: hds) (hsL X.K ((x, k, its) :: hs')) := .consA ⟨hg, hd, .inl g⟩ hN hi hln hsu r
theorem kl_f {a : Addr} {oe : Obj} {cls : Value} {d : Option Addr} {C : Addr} {k : Nat} {pn : List (Addr × Obj)} {nm : Str} (T : XfC X.K C) (hno : bK X.K (.ref C) nm = some none) (hz : Zc cls d oe) (hf : ∃ vs, oe.data = .fields vs) (he : PE (X.suite a ((a, oe) :: pn)) e (kF k))
  (hb : attributeBase e nm X.env (eval e X.env) = eval e X.env := by rfl) : PE (X.suite a ((a, oe) :: pn)) (.Attribute e nm pos) (EG X.K a cls d C k (.f nm)) := pe_xf T hno hz hf he hb
theorem kl_is {a : Addr} {oe : Obj} {cls : Value} {d : Option Addr} {C : Addr} {k : Nat} {pn : List (Addr × Obj)} {y : Str} {b : Bool} {p p2 p3 : Pos} (T : XsF X.K C) (hm : X.mg "isinstance" = none) (g : X.mg y = some (.ref (He.ga X.K y))) (hz : Zc cls d oe) (hf : ∃ vs, oe.data = .fields vs) (he : PE (X.suite a ((a, oe) :: pn)) e (kF k))
  (hgi : Gl X "isinstance" := by rfl) (hgy : Gl X y := by rfl) (hdb : (y == ("__debug__" : Str)) = false := by decide)
  (h1 : starEach [e, .Name y p2] X.env = (false, eval e X.env) :: starEach [.Name y p2] X.env := by rfl) (h2 : starEach [.Name y p2] X.env = (false, eval (.Name y p2) X.env) :: starEach [] X.env := by rfl) (hpl : (backTo p3 (starEach [.Name y p2] X.env)).any (·.1) = false := by rfl) : PE (X.suite a ((a, oe) :: pn)) (.Call (.Name "isinstance" p) [e, .Name y p2] [] p3) (EG X.K a cls d C k (.is y b)) :=
 pe_callB (DH T hz hf) hgi hm boot_isinstance (pa_cons he (pa_cons (pe_glob (v := .ref (He.ga X.K y)) hgy g rfl hdb) pa_nil h2) h1) (he := h1) (hpl := hpl)
theorem Ep {a : Addr} {cls : Value} {d : Option Addr} {C : Addr} {k : Nat} : PSs X [] (mJ X.K a cls d C k []) := pss_nil
theorem AX {a : Addr} {oe : Obj} {cls : Value} {d : Option Addr} {C : Addr} {k i : Nat} {it : XKI} {its : List (Nat × XKI)} {pn : List (Addr × Obj)} {v : Str} {pv : Pos} {sts : List Stmt} (hN : X.N.Nodup) (hi : X.N[i]? = some v) (hx : Loc X.env.scope v) (h : PE (X.suite a ((a, oe) :: pn)) e (EG X.K a cls d C k it)) (r : PSs (X.suite a ((a, oe) :: pn)) sts (mJ X.K a cls d C k its))
  (hs : swapsWith e (some (.Name v pv)) pos.line X.env = pure false := by rfl) (hf : X.fn v = true \/ X.env.scope.names.lookup v = some .local := by first | exact .inl rfl | exact .inr rfl | assumption) : PSs (X.suite a ((a, oe) :: pn)) (.Assign [.Name v pv] e pos :: sts) (mJ X.K a cls d C k ((i, it) :: its)) :=
 pss_cons (fM (ps_set (X := X.suite a ((a, oe) :: pn)) hN hi hx h hs hf) fun D σ H q => q) r
end
inductive XH where
 | own (y : Str) | ty (T : String)
def xhB (c : Str) : XH -> Bool
 | .own y => decide (c = y)
 | .ty _ => true
def rXa (K : aA) (a : Addr) (cls : Value) (d : Option Addr) : List V -> Hp -> VK -> Prop := fun xs H Q => ∃ (D : Addr) (c : V) (cv : Value) (b : Bool), xs = [.ref a, c] /\ (∀ u, RelV c u -> u = cv) /\ cls = .ref D /\ XsF K D /\ gY K D = true /\ (d = none \/ ∃ dd fs, d = some dd /\ H dd = some (.xd fs)) /\ cA K (.ref D) cv = some b /\ Q (.bl b) H
theorem DI {X : Cx} {a : Addr} {oe : Obj} {cls : Value} {d : Option Addr} {pn : List (Addr × Obj)} (hz : Zc cls d oe) (hf : ∃ vs, oe.data = .fields vs) : CallR (X.suite a ((a, oe) :: pn)) (.builtin "isinstance") (rXa X.K a cls d) := by
 intro pins s σ H xs us Q I r h;obtain ⟨D, c, cv, b, rfl, hcv, ec, C, hdct, hd, e, q⟩ := h;subst ec;cases r with
 | cons rx rr =>
  cases rr with
  | cons rt rr =>
   cases rr;cases rx;have ecv := hcv _ rt;subst ecv;obtain ⟨ha, _⟩ := I.pin (a, oe) (jR.mpr (.inl aY));obtain ⟨vs, hdt⟩ := hf;rcases hd with rfl | ⟨dd, fs, rfl, ea⟩
   ·have J : pX s.heap a oe D none := by
     obtain ⟨oc, od, oda, osl⟩ := oe;obtain ⟨h1, h2⟩ := hz;dsimp only at h1 h2 hdt;subst h1 h2 hdt;exact ⟨ha, rfl, rfl, trivial⟩
    exact nO (PySem.W.handS_kitx_exc C.hg C.hk C.hs hdct C.ha C.hn C.ht C.hm) I.kIn J e (fun z => nomatch z) fun tk => ⟨.bl b, H, I.kept (t' := tk) fun _ _ z => z, rfl, q⟩
   ·have hx : ObjOk X.prog X.w H s.heap dd (.xd fs) := I.hok dd _ ea
    obtain ⟨mA, hns, hr⟩ := hx;obtain ⟨od, ho, hl⟩ := lookIn_ns hns;have J : pX s.heap a oe D (some od) := ⟨ha, hz.1, by unfold PySem.W.notCls; rw [hdt] <;> rfl, by rw [hz.2]; exact ho⟩
    exact nO (zX C.cl C.hg C.hk C.hs C.ha C.hn C.ht C.hm) I.kIn J e (fun z => nomatch z) fun tk => ⟨.bl b, H, I.kept (t' := tk) fun _ _ z => z, rfl, q⟩
def hV (K : aA) : XH -> V
 | .own y => .ref (He.ga K y)
 | .ty T => .ty T
mutual
theorem BU {K : aA} {Bk : Addr -> Prop} {H : Hp} : ∀ (d : PH.D) (v : V), cdB K d v = true -> Rep K Bk H d v
 | .int i, v, h => by
  unfold cdB at h;split at h
  ·rw [of_decide_eq_true h]; rfl
  ·cases h
 | .tup ds, v, h => by
  unfold cdB at h;split at h
  ·rename_i a
   split at h
   ·rename_i c od its n sl q
    obtain ⟨h1, h⟩ := He.ba h;obtain ⟨h2, h⟩ := He.ba h;obtain ⟨h3, h4⟩ := He.ba h;exact ⟨_, _, rfl, .inr ⟨_, its, n, q, congrArg Value.type (of_decide_eq_true h1), rfl, of_decide_eq_true h2, He.relAll_ok h3⟩, xJ ds _ h4⟩
   ·cases h
  ·cases h
 | .non, v, h => by cases h
 | .bl _, v, h => by cases h
 | .str _, v, h => by cases h
 | .lst _, v, h => by cases h
 | .ins _ _ _, v, h => by cases h
 | .dct, v, h => by cases h
 | .opq _, v, h => by cases h
theorem xJ {K : aA} {Bk : Addr -> Prop} {H : Hp} : ∀ (ds : List PH.D) (vs : List V), BV K ds vs = true -> RepL K Bk H ds vs
 | [], vs, h => by
  unfold BV at h;rw [List.isEmpty_iff.mp h];rfl
 | d :: r, vs, h => by
  unfold BV at h;split at h
  ·rename_i v q
   obtain ⟨h1, h2⟩ := He.ba h;exact ⟨v, q, rfl, BU d v h1, xJ r q h2⟩
  ·cases h
end
structure KdD (K : aA) (n : Str) (tab : List (Str × PH.D)) : Prop where
 pos : ∀ z d, tab.lookup z = some d -> ∃ (u : Value) (v : V), eN K (He.ga K n) z = some (some u) /\ RelV v u /\ ∀ Bk H, Rep K Bk H d v
 neg : ∀ z, tab.lookup z = none -> eN K (He.ga K n) z = some none
theorem Et {K : aA} {P : Params} {n : Str} {tab : List (Str × PH.D)} (h : kdDB K n tab = true) (d : He.dicW K (He.ga K n) = some (He.keysIn P (tab.map (·.1)))) : KdD K n tab where
 pos := fun z v e => by
  have h1 := bH.mp h (z, v) (mR e);dsimp only at h1;split at h1
  ·rename_i u q
   obtain ⟨h2, h3⟩ := He.ba h1;have r := He.relAll_ok h2;exact ⟨u, vOf u, q, by cases r; assumption, fun Bk H => BU v _ h3⟩
  ·cases h1
 neg := fun z e => yI d (lookup_none e)
section
variable {X : Cx} {W : WX} {a : Expr} {pos py : Pos} {nm : Str} {K : aA} {ma : FE} {B : Addr -> Prop} {φ : List Addr} {S : aM} {H : Hp} {σ : L2.St} {Q : VK} {tab : List (Str × PH.D)}
def gG (neg : Bool) (tab : List (Str × PH.D)) (x : Vl) (S : aM) : Res Vl := match x with
 | .dat (.str z) => .ok (.dat (.bl (if neg then !(tab.lookup z).isSome else (tab.lookup z).isSome))) S
 | _ => .stuck
def kD (tab : List (Str × PH.D)) (x : Vl) (S : aM) : Res Vl := match x with
 | .dat (.str z) => (match tab.lookup z with
  | some v => .ok (.dat v) S
  | none => .stuck)
 | _ => .stuck
theorem C1 {neg : Bool} (L : KdD K nm tab) {x : L2.V} {d : Vl} (I : GInv K B φ S H) (r : RepV K B φ S H d x) (f : Fin K W σ (RepV K) B φ S H (gG neg tab d S) Q) : E9 K (He.ga K nm) neg x (.ref (He.ga K nm)) H Q := by
 unfold gG at f;split at f
 ·rename_i z
  cases r;cases q : tab.lookup z with
  | none =>
   refine ⟨rfl, none, L.neg z q, ?_⟩
   rw [q] at f;exact Fin.now f I rfl
  | some v =>
   obtain ⟨t, w, h, _, _⟩ := L.pos z v q;refine ⟨rfl, _, h, ?_⟩
   rw [q] at f;exact Fin.now f I rfl
 ·exact f.elim
theorem yZ (L : KdD X.K nm tab) (D : ∃ es n, KDict X.K X.w (He.ga X.K nm) es n) (g : X.mg nm = some (.ref (He.ga X.K nm))) (ha : PE X a (bV X.K W ma)) (hg : Gl X nm := by rfl) (hd : (nm == ("__debug__" : Str)) = false := by decide) (hm : behindInMarks .NotIn (.Name nm py) = false := by rfl) : PT X (.Compare a [.NotIn] [.Name nm py] pos) (nF X.K W (mB (m1 (gG true tab) ma))) :=
 pQ (DQ (sF D) ha (pe_glob (v := .ref (He.ga X.K nm)) hg g rfl hd) hm) fun σ H Q h => bE (k := fun x _ S => gG true tab x S) (A8 h) fun B φ S ρ d v H1 I E r f => C1 L I r f
theorem D7 (L : KdD X.K nm tab) (D : ∃ es n, KDict X.K X.w (He.ga X.K nm) es n) (g : X.mg nm = some (.ref (He.ga X.K nm))) (ha : PE X a (bV X.K W ma)) (hg : Gl X nm := by rfl) (hd : (nm == ("__debug__" : Str)) = false := by decide) (hs : PlainIx a := by intro _ _; rfl) : PE X (.Subscript (.Name nm py) a pos) (bV X.K W (m1 (kD tab) ma)) :=
 bM (pe_ix (F9 D) (pe_glob (v := .ref (He.ga X.K nm)) hg g rfl hd) ha hs) fun σ H Q h => bE (k := fun x _ S => kD tab x S) h fun B φ S ρ d v H1 I E r f => by
  unfold kD at f;split at f
  ·rename_i z
   cases r;split at f
   ·rename_i v q
    obtain ⟨t, w, h1, h2, h3⟩ := L.pos z v q;exact ⟨rfl, _, w, h1, h2, Fin.now f I (h3 _ _)⟩
   ·exact f.elim
  ·exact f.elim
end
end PH
namespace L2
open PySem PySem.Spec PyProof PyProof.Rows
def rNeE : R2 := fun x y H Q => ∃ a b, x = .ref a /\ y = .ref b /\ H a = some (.dK []) /\ H b = some (.dK []) /\ Q (.bl false) H
theorem Eb {X : Cx} (hu : X.A.units < cLine) : OpR X (compareOp .NotEq) rNeE := by
 intro pins s σ H x y v u Q I rx ry h;obtain ⟨a, b, ex, ey, h1, h2, q⟩ := h;subst ex ey;obtain rfl : v = Value.ref a := rx;obtain rfl : u = Value.ref b := ry;obtain ⟨_, ha, vs, kv, hD⟩ := dk_of I.hok h1;obtain ⟨_, hb, us, ku, hE⟩ := dk_of I.hok h2;cases kv;cases ku;exact PySem.W.keq_ne ha hb hD hE hu (fun _ => .nil) ⟨.bl false, H, I, rfl, q⟩
end L2
namespace PH
open PySem PySem.Spec PyProof.Rows L2
section
variable {X : Cx} {W : WX} {K : aA} {B : Addr -> Prop} {φ φ' : List Addr} {S S' : aM} {H H' : Hp} {σ : L2.St} {D : Ends} {ma : FE} {m : FS} {t : Tg} {sts : List Stmt} {pos : Pos}
def zD (x y : Vl) (S : aM) : Res Vl := match x, y with
 | .dat .dct, .dat .dct => .ok (.dat (.bl false)) S
 | _, _ => .stuck
theorem s_neE : cN K rNeE zD := fun {W σ B φ S H x y d e Q} I r1 r2 f => by
 unfold zD at f;split at f
 ·obtain ⟨a, rfl, _, h1⟩ := r1
  obtain ⟨b, rfl, _, h2⟩ := r2;exact ⟨a, b, rfl, rfl, h1, h2, Fin.now f I rfl⟩
 ·exact f.elim
def kU (t : Tg) (mb : FS) : List TIt -> Ev -> aM -> Out
 | [], ρ, S => .next ρ S
 | j :: r, ρ, S => match tJ t (ofJ j) ρ with
  | none => .stuck
  | some ρ1 => match mb ρ1 S with
   | .next ρ2 S2 => kU t mb r ρ2 S2
   | .cnt ρ2 S2 => kU t mb r ρ2 S2
   | .brk ρ2 S2 => .next ρ2 S2
   | .ret d S2 => .ret d S2
   | .err e ρ2 S2 => .err e ρ2 S2
   | .stuck => .stuck
def sO (t : Tg) (mb : FS) (ρ : Ev) (x : Vl) (S : aM) : Out := match x with
 | .tc xs => if xs.length <= 1000 then kU t mb xs ρ S else .stuck
 | _ => .stuck
def oW (a : FE) (t : Tg) (mb : FS) : FS := fun ρ S => (a ρ S).toS ρ (sO t mb ρ)
theorem AG {j : TIt} {v : L2.V} (r : RepI K (dW B φ S) φ H j v) : RepV K B φ S H (ofJ j) v := by
 cases j with
 | inl d => exact r
 | inr n => exact r
 | tup xs => exact r
theorem xX (h : gM K W (oW ma t m) D σ H) : tFor (iSeq K (bV K W ma)) (Bs K t) (gM K W m) D σ H := by
 obtain ⟨B, φ, S, ρ, I, E, f⟩ := h;refine cG I E f fun φ0 S0 d v H0 I0 X0 E0 r f0 => ?_
 unfold sO at f0;split at f0
 case h_2 => exact f0.elim
 rename_i xs;split at f0
 case isFalse => exact f0.elim
 rename_i hsz;obtain ⟨a, vs, rfl, ha0, l0⟩ := r;have hl := l0.len;refine lJ ⟨⟨vs, ha0⟩, ?_⟩
 refine ⟨fun i k σ' H' => i <= xs.length /\ k = xs.length + 1 - i /\ ∃ φ1 S1 ρ1, GInv K B φ1 S1 H' /\ Ext φ0 S0 H0 φ1 S1 H' /\ RepE K B φ1 S1 H' ρ1 σ' /\ FinS K W D B φ1 S1 H' (kU t m (xs.drop i) ρ1 S1), ⟨xs.length + 1, eQ _, rfl, φ0, S0, ρ, I0, Ext.refl, E0, f0⟩, ?_⟩
 rintro i k σ' H' ⟨hi, hk, φ1, S1, ρ1, I1, X1, E1, f1⟩
 have h2 : SqT K H' a vs := SqT.kp (X1.kp I0).tup ha0;have l1 : RepIs K (dW B φ1 S1) φ1 H' xs vs := l0.kp (X1.kp I0) X1.ids
 by_cases he : i = xs.length
 ·rw [he, pT, kU] at f1
  exact .inl ⟨⟨vs, h2, by omega⟩, f1 φ1 σ' H' I1 Ext.refl E1⟩
 ·have hlt : i < xs.length := by omega
  have hiv : i < vs.length := by omega
  rw [cO hlt, kU] at f1;refine .inr ⟨⟨vs, vs[i], h2, by simp [hiv]⟩, fun σ2 H2 => i + 1 <= xs.length /\ ∃ φ2 S2 ρ2, GInv K B φ2 S2 H2 /\ Ext φ0 S0 H0 φ2 S2 H2 /\ RepE K B φ2 S2 H2 ρ2 σ2 /\ FinS K W D B φ2 S2 H2 (kU t m (xs.drop (i + 1)) ρ2 S2), fun σ2 H2 h2 => ⟨xs.length + 1 - (i + 1), by omega, h2.1, rfl, h2.2⟩, fun x H2 y => ?_⟩
  obtain ⟨rfl, y⟩ := y;obtain ⟨v', h3, r2⟩ := l1.get (bI hlt);rw [y vs h2] at h3;cases h3;split at f1
  ·exact f1.elim
  ·rename_i ρ2 q2
   refine rQ E1 (d := ofJ xs[i]) (AG r2) q2 fun vs E3 => ⟨B, φ1, S1, ρ2, I1, E3, ?_⟩
   cases q3 : m ρ2 S1 with
   | next ρ3 S3 =>
    rw [q3] at f1;exact fun φ3 σ3 H3 I3 X3 E4 => ⟨hlt, φ3, S3, ρ3, I3, X1.trans X3, E4, FinS.ext f1 X3⟩
   | cnt ρ3 S3 =>
    rw [q3] at f1;exact fun φ3 σ3 H3 I3 X3 E4 => ⟨hlt, φ3, S3, ρ3, I3, X1.trans X3, E4, FinS.ext f1 X3⟩
   | brk ρ3 S3 => rw [q3] at f1; exact f1
   | ret d S3 => rw [q3] at f1; exact f1
   | err e ρ3 S3 => rw [q3] at f1; exact f1
   | stuck => rw [q3] at f1; exact f1
theorem BG {tg iter : Expr} (hp : PassesOwn (model X.prog X.w) X.A X.env X.xe) (hc : X.calm = true) (hi : PE X iter (bV X.K W ma)) (hg : PG X tg (Bs X.K t)) (hb : PSs X sts (gM X.K W m))
  (hs : ∀ x, foldedSetIterable iter X.env x = pure x := by intro _; rfl) : PS X (.For tg iter sts [] pos) (gM X.K W (oW ma t m)) := fM (ps_for hp hc (AL hi) hg hb hs) fun D σ H h => xX h
end
theorem ne_hu {k : Nat} {A : Around} (h : Room k A) : A.units < cLine := by have := h.un; omega
section
variable {X : Cx} {e e' : Expr} {pos : Pos}
theorem Es {a : Addr} {oe : Obj} {cls : Value} {d : Option Addr} {C : Addr} {k : Nat} {pn : List (Addr × Obj)} {y z : Str} {Ty : String} {b : Bool} {p p2 p3 p4 p5 p6 : Pos} (T : XsF X.K C) (kt : cA X.K (.ref C) (.type Ty) = some true) (hdc : gY X.K C = true) (hm : X.mg "isinstance" = none) (g : X.mg y = some (.ref (He.ga X.K y))) (hmT : X.mg z = none) (hz : Zc cls d oe) (hf : ∃ vs, oe.data = .fields vs) (he : PE (X.suite a ((a, oe) :: pn)) e (kF k)) (he' : PE (X.suite a ((a, oe) :: pn)) e' (kF k))
  (hv : bootBuiltins z = some (.type Ty) := by decide +kernel) (hgi : Gl X "isinstance" := by rfl) (hgy : Gl X y := by rfl) (hgz : Gl X z := by rfl) (hn : z ≠ "__name__" := by decide) (hdb : (y == ("__debug__" : Str)) = false := by decide) (hdz : (z == ("__debug__" : Str)) = false := by decide)
  (h1 : starEach [e, .Name y p2] X.env = (false, eval e X.env) :: starEach [.Name y p2] X.env := by rfl) (h2 : starEach [.Name y p2] X.env = (false, eval (.Name y p2) X.env) :: starEach [] X.env := by rfl) (hpl : (backTo p3 (starEach [.Name y p2] X.env)).any (·.1) = false := by rfl)
  (h3 : starEach [e', .Name z p5] X.env = (false, eval e' X.env) :: starEach [.Name z p5] X.env := by rfl) (h4 : starEach [.Name z p5] X.env = (false, eval (.Name z p5) X.env) :: starEach [] X.env := by rfl) (hpl2 : (backTo p6 (starEach [.Name z p5] X.env)).any (·.1) = false := by rfl) :
  PE (X.suite a ((a, oe) :: pn)) (.BoolOp .And [.Call (.Name "isinstance" p) [e, .Name y p2] [] p3, .Call (.Name "isinstance" p4) [e', .Name z p5] [] p6] pos) (EG X.K a cls d C k (.is y b)) :=
 bM (E6 (kl_is (b := b) T hm g hz hf he hgi hgy hdb h1 h2 hpl) (pe_one (pe_callB (DI hz hf) hgi hm boot_isinstance (pa_cons he' (pa_cons (pe_bltn (v := .ty Ty) hgz hmT hv rfl hn hdz) pa_nil h4) h3) (he := h3) (hpl := hpl2)))) fun σ H Q h => by
  have h' : (match sl σ k with | some v => rXs X.K C a cls d [v, .ref (He.ga X.K y)] H Q | none => False) := h
  show (match sl σ k with | some v => rXs X.K C a cls d [v, .ref (He.ga X.K y)] H (fun x H1 => (match x with | .bl c => if c = true then tCB (rXa X.K a cls d) (tCons (kF k) (tCons (tC (.ty Ty)) tNil)) σ H1 Q else Q (.bl false) H1 | _ => False)) | none => False)
  cases q : sl σ k with
  | none => rw [q] at h'; exact h'
  | some v =>
   rw [q] at h';obtain ⟨c, dd, fs, b', e1, e2, e3, e4, e5, e6⟩ := h';refine ⟨c, dd, fs, b', e1, e2, e3, e4, e5, ?_⟩
   cases b' with
   | false => exact e6
   | true =>
    show (match sl σ k with | some v => rXa X.K a cls d [v, .ty Ty] H Q | none => False)
    rw [q];obtain rfl := (List.cons.inj e1).1;exact ⟨C, .ty Ty, .type Ty, true, rfl, fun u hu => hu, e2, T, hdc, .inr ⟨dd, fs, e3, e4⟩, kt, e6⟩
end
section
variable {ma : FE} {m : FS} {t : Tg} {ρ : Ev} {S : aM} {xs : List TIt}
theorem Cm : oW ma t m ρ S = (ma ρ S).toS ρ (sO t m ρ) := rfl
theorem B2 (h : xs.length <= 1000) : sO t m ρ (.tc xs) S = kU t m xs ρ S := if_pos h
end
def sZ : FS :=
 (aX (eI (m1 (fIsi "int") (aE 0)) (wU (m1 (fIsi "bool") (aE 0)))))
def sJ : FD := run 1 1 sZ
def pJ : FE :=
 (eI (aN sJ (aB (aE 4) aJ)) (fK BL BL (aE 2) (aE 4) (aE 3)))
def tA : FS :=
 (aO (bG (oV (cU (aZ (m1 (fIsi "tuple") (aE 0)))) (mB (aR iP (m1 dJ (aE 0)) (mC (.int 0))))) (aX (mC (.bl false))) aV)
 (aO (bG (oV (cU (aZ (m1 (fIsi "str") (aR bS (aE 0) (mC (.int 0)))))) (mB (m1 (G3 true) (aR bS (aE 0) (mC (.int 0)))))) (aX (mC (.bl false))) aV)
 (aO (bO (m1 fLim (aR bS (aE 0) (mC (.int 0)))) (.tp [1, 2, 3]))
 (aO (bG (mB (aR zE (m1 dJ (aE 0)) (aR (gK false) (aE 1) (mC (.int 1))))) (aX (mC (.bl false))) aV)
 (aX (m1 qK (yK false (jA (mSl false (aE 0) (qZ (mC (.int 1))) yJ)) (.nm 4) fT pJ [4])))))))
def kO : FD := run 5 1 tA
def lE : FS :=
 (aX (aR (gK true) (cF false (aB (mC (.int 0)) aJ)) (Ek (yK false (jA (mSl false (aE 0) yJ (qZ (mC (.int 63))))) (.nm 1) fT (m1 qI (aE 1)) [1]) (cF false (aB (mC (.int 0)) aJ)))))
def kP : FD := run 2 1 lE
def lF : FS :=
 (aO (rA (fun x y => x + y) (aE 0) (mC (.int 0)) (mC (.int 1)))
 (aO (bO (aR (gK false) (mC (.int 1)) (aR qG (m1 qI (aR bS (aE 0) (mC (.int 0)))) (aR uN (m1 dJ (aE 0)) (mC (.int 1))))) (.nm 2))
 (aO (bO (m1 qI (aR bS (aE 0) (aE 2))) (.nm 3))
 (aO (bG (mB (aR fGe (aE 3) (aR DC (mC (.int 10)) (mC (.int 18))))) (aO (oU (aR mT (aE 3) (aE 1)) (aE 0) (aE 2))
 (aX (aR qG (aE 3) (aE 1)))) aV)
 (aO (bO (aR qG (aR pH (m1 qI (aR (gK false) (aR (gK false) (aE 3) (aR pH (mC (.int 7919)) (aR bS (aE 0) (mC (.int 0))))) (mC (.int 1)))) (mC (.int 48271))) (mC (.int 2147483647))) (.nm 4))
 (aO (bO (aR qG (aR pH (aE 4) (aR (gK false) (aR mT (aE 4) (mC (.int 1009))) (mC (.int 69621)))) (mC (.int 2147483647))) (.nm 4))
 (aO (bO (aR qG (aR pH (aE 4) (aR (gK false) (aR mT (aE 4) (mC (.int 2003))) (mC (.int 40692)))) (mC (.int 2147483399))) (.nm 4))
 (aX (aR qG (aR mT (aE 4) (mC (.int 11))) (aE 1))))))))))
def bB : FD := run 5 2 lF
def rN : FS :=
 (fJ [9] (mPar 4 5 (m1 uO (aE 5)) (aE 4)))
def wA : FS :=
 (aO (bO (aE 0) (.tp [2, 3, 4, 5, 6, 7]))
 (aO (bO (aR bS (aE 1) (mC (.int 0))) (.nm 8))
 (aO (bG (mB (aR iP (aE 8) (mC (.str "go")))) (aX (cP (aB (aR (gK false) (aE 2) (aR pH (aR bS (aE 1) (mC (.int 1))) (aE 4))) (aB (aR (gK false) (aE 3) (aR pH (aR bS (aE 1) (mC (.int 1))) (aE 5))) (aB (aE 4) (aB (aE 5) (aB (aE 6) (aB (aE 7) aJ)))))))) aV)
 (aO (bG (mB (aR iP (aE 8) (mC (.str "turn")))) (aO (kR (gP (aR bS (aE 1) (mC (.int 1)))) (.nm 9) rN)
 (aX (cP (aB (aE 2) (aB (aE 3) (aB (aE 4) (aB (aE 5) (aB (aE 6) (aB (aE 7) aJ))))))))) aV)
 (aO (bG (mB (aR iP (aE 8) (mC (.str "mirror")))) (aX (cP (aB (aE 2) (aB (aE 3) (aB (aE 4) (aB (m1 uO (aE 5)) (aB (aE 6) (aB (aE 7) aJ)))))))) aV)
 (aO (bG (mB (aR iP (aE 8) (mC (.str "scale")))) (aX (cP (aB (aE 2) (aB (aE 3) (aB (aR pH (aR bS (aE 1) (mC (.int 1))) (aE 4)) (aB (aR pH (aR bS (aE 1) (mC (.int 1))) (aE 5)) (aB (aE 6) (aB (aE 7) aJ)))))))) aV)
 (aO (bG (mB (aR iP (aE 8) (mC (.str "aim")))) (aX (cP (aB (aE 2) (aB (aE 3) (aB (aR bS (aE 1) (mC (.int 1))) (aB (aR bS (aE 1) (mC (.int 2))) (aB (aE 6) (aB (aE 7) aJ)))))))) aV)
 (aO (bG (mB (aR iP (aE 8) (mC (.str "place")))) (aX (cP (aB (aR bS (aE 1) (mC (.int 1))) (aB (aR bS (aE 1) (mC (.int 2))) (aB (aE 4) (aB (aE 5) (aB (aE 6) (aB (aE 7) aJ)))))))) aV)
 (aO (bG (mB (aR iP (aE 8) (mC (.str "mark")))) (aX (cP (aB (aE 2) (aB (aE 3) (aB (aE 4) (aB (aE 5) (aB (aE 2) (aB (aE 3) aJ)))))))) aV)
 (aO (bG (mB (aR iP (aE 8) (mC (.str "return")))) (aX (cP (aB (aE 6) (aB (aE 7) (aB (aE 4) (aB (aE 5) (aB (aE 6) (aB (aE 7) aJ)))))))) aV)
 (aX (cP (aB (aE 6) (aB (aE 7) (aB (aE 4) (aB (aE 5) (aB (aE 2) (aB (aE 3) aJ))))))))))))))))))
def oS : FD := run 10 2 wA
def qL : FE :=
 (aR uN (aR bS (aE 5) (aE 6)) (aR bS (aE 1) (aE 6)))
def pY : FS :=
 (fJ [3, 4, 5] (aO (bO (m1 fTuple (yK false (gP (mC (.int 6))) (.nm 6) fT (m1 qI (aR iP (aE 6) (aE 3))) [6])) (.nm 4))
 (aO (bO (aN oS (aB (aE 4) (aB (aE 0) aJ))) (.nm 5))
 (fP (nA (aE 2) (aR (gK false) (cF false (aB (mC (.int 0)) aJ)) (yK false (gP (mC (.int 6))) (.nm 6) fT qL [6])))))))
def uR : FS :=
 (aO (bG (cU (aZ (aN kO (aB (aE 0) aJ)))) (AS "NoCommand") aV)
 (aO (bO (aN oS (aB (cP (aB (mC (.int 0)) (aB (mC (.int 0)) (aB (mC (.int 0)) (aB (mC (.int 0)) (aB (mC (.int 0)) (aB (mC (.int 0)) aJ))))))) (aB (aE 0) aJ))) (.nm 1))
 (aO (bO (cF true (aB (cF false (aB (mC (.int 1)) (mStar (aE 1) aJ))) aJ)) (.nm 2))
 (aO (kR (gP (mC (.int 6))) (.nm 3) pY)
 (aX (mLc2 false (gP (mC (.int 7))) (.nm 7) fT (gP (mC (.int 7))) (.nm 8) fT (aR bS (aR bS (aE 2) (aE 8)) (aE 7)) [7, 8] [8]))))))
def tZ : FD := yD 9 1 uR
def qM : FS :=
 (aO (fP (Di (mZ "Graph" "edges" (aE 0)) (cF true aJ)))
 (aO (fP (Di (mZ "Graph" "users" (aE 0)) (cF true aJ)))
 (aX (aR uN (m1 fLenV (mZ "Graph" "edges" (aE 0))) (mC (.int 1))))))
def fA : FD := run 1 1 qM
def pZ : FS :=
 (fJ [5, 6] (fP (nA (aR zF (mZ "Graph" "users" (aE 0)) (aE 5)) (cP (aB (aE 1) (aB (aE 3) (aB (aE 6) aJ)))))))
def uS : FS :=
 (aO (fP (nA (aR zF (mZ "Graph" "edges" (aE 0)) (aE 1)) (cP (aB (mC (.str "unit")) (aB (aE 2) (aB (aE 3) (aB (aE 4) aJ)))))))
 (kR (mZipT (aE 2) (aE 4)) (.tp [5, 6]) pZ))
def mP : FD := run 7 5 uS
def iT (f_Graph_statement_point : FD) : FS :=
 (fJ [5] (bO (iM "Graph" "statement_point" (f_Graph_statement_point) (aE 0) (aB (aE 5) (aB (aE 4) (aB (aE 3) aJ)))) (.nm 4)))
def kG (f_Graph_statement_point : FD) : FS :=
 (aO (bO (aE 2) (.nm 4))
 (aO (kR (Dg (m1 (gE false) (aE 1))) (.nm 5) (iT (f_Graph_statement_point)))
 (aX (aE 4))))
def gJ (f_Graph_list_point : FD) : FS :=
 (fJ [6] (fP (nA (aR zF (mZ "Graph" "edges" (aE 0)) (aE 5)) (cP (aB (mC (.str "bit")) (aB (aE 6) (aB (iM "Graph" "list_point" (f_Graph_list_point) (aE 0) (aB (aR bS (aE 1) (aR (gK false) (mC (.int 1)) (aE 6))) (aB (aE 2) (aB (aE 3) aJ)))) aJ)))))))
def gL (f_Graph_list_point : FD) : FE :=
 (iM "Graph" "list_point" (f_Graph_list_point) (aE 0) (aB (aE 9) (aB (aE 2) (aB (aE 3) aJ))))
def iC (f_Graph_list_point : FD) : FS :=
 (aO (bO (aR bS (aE 1) (mC (.int 0))) (.nm 4))
 (aO (bG (mB (aR iP (aE 4) (mC (.str "end")))) (aX (aR bS (aE 3) (aR bS (aE 1) (mC (.int 1))))) aV)
 (aO (bO (iM "Graph" "point" fA (aE 0) aJ) (.nm 5))
 (aO (bG (aZ (aN kO (aB (aE 1) aJ))) (fP (nA (aR zF (mZ "Graph" "edges" (aE 0)) (aE 5)) (cP (aB (mC (.str "command")) (aB (aN tZ (aB (aE 1) aJ)) (aB (aE 2) aJ)))))) (bG (mB (aR iP (aE 4) (mC (.str "either")))) (kR (gP (mC (.int 2))) (.nm 6) (gJ (f_Graph_list_point))) (bG (mB (aR iP (aE 4) (mC (.str "again")))) (aO (fP (nA (aR zF (mZ "Graph" "edges" (aE 0)) (aE 5)) (cP (aB (mC (.str "bit")) (aB (mC (.int 0)) (aB (aE 2) aJ))))))
 (fP (nA (aR zF (mZ "Graph" "edges" (aE 0)) (aE 5)) (cP (aB (mC (.str "bit")) (aB (mC (.int 1)) (aB (iM "Graph" "list_point" (f_Graph_list_point) (aE 0) (aB (aR bS (aE 1) (mC (.int 1))) (aB (aE 5) (aB (aE 3) aJ)))) aJ))))))) (bG (mB (aR iP (aE 4) (mC (.str "keep")))) (aO (bO (cP (aB (iM "Graph" "point" fA (aE 0) aJ) (aB (iM "Graph" "point" fA (aE 0) aJ) (aB (iM "Graph" "point" fA (aE 0) aJ) aJ)))) (.nm 7))
 (aO (fP (nA (mZ "Graph" "starts" (aE 0)) (iM "Graph" "list_point" (f_Graph_list_point) (aE 0) (aB (aR bS (aE 1) (mC (.int 1))) (aB (aR bS (aE 7) (mC (.int 0))) (aB (cP (aB (aR bS (aE 7) (mC (.int 1))) (aB (aR bS (aE 7) (mC (.int 2))) aJ))) aJ))))))
 (fP (iM "Graph" "use" mP (aE 0) (aB (aE 5) (aB (aE 7) (aB (mC (.bl true)) (aB (cP (aB (aE 2) (aB (aR bS (aE 3) (mC (.int 0))) (aB (aR bS (aE 3) (mC (.int 1))) aJ)))) aJ)))))))) (aO (bO (yK false (jA (aR bS (aE 1) (mC (.int 3)))) (.nm 9) fT (gL (f_Graph_list_point)) [9]) (.nm 8))
 (fP (iM "Graph" "use" mP (aE 0) (aB (aE 5) (aB (aR bS (mZ "Graph" "exits" (aE 0)) (aR bS (aE 1) (mC (.int 1)))) (aB (aR bS (aE 1) (mC (.int 2))) (aB (m1 fTuple (aE 8)) aJ)))))))))))
 (aX (aE 5))))))
def kA : Nat -> FD × FD
 | 0 => (nS, nS)
 | n + 1 => let r := kA n
  (run 6 4 (kG r.2), run 10 4 (iC r.1))
def nL : FS :=
 (aX (eI (m1 (fIsi "int") (aE 0)) (wU (m1 (fIsi "bool") (aE 0)))))
def nI : FD := run 1 1 nL
def lC : FS :=
 (aX (eI (aN nI (aB (aE 0) aJ)) (fK BL E5 (mC (.int 0)) (aE 0) (aE 1))))
def hJ : FD := run 2 2 lC
def fC : FS :=
 (aO (bG (oV (cU (aZ (m1 (fIsi "tuple") (aE 0)))) (mB (aR zE (m1 dJ (aE 0)) (mC (.int 2))))) (aX (mC (.bl false))) aV)
 (aX (eI (aN hJ (aB (aR bS (aE 0) (mC (.int 0))) (aB (aE 1) aJ))) (aN hJ (aB (aR bS (aE 0) (mC (.int 1))) (aB (mC (.int 2)) aJ))))))
def cZ : FD := run 2 2 fC
def dU : FS :=
 (aO (bG (oV (cU (aZ (m1 (fIsi "list") (aE 0)))) (cU (mB (fK BL BL (mC (.int 1)) (m1 dJ (aE 0)) (aE 2))))) (aX (mC (.bl false))) aV)
 (aX (m1 qK (yK false (jA (aE 0)) (.nm 3) fT (aN cZ (aB (aE 3) (aB (aE 1) aJ))) [3]))))
def dR : FD := run 4 3 dU
def cY : FS :=
 (fJ [2] (aO (bG (oV (cU (aZ (aN hJ (aB (aE 2) (aB (mC (.int 3)) aJ))))) (mB (aR E5 (aE 2) (aE 1)))) (aX (mC (.bl false))) aV)
 (bO (aR (gK false) (aE 2) (mC (.int 1))) (.nm 1))))
def gR : FS :=
 (aO (bG (oV (cU (aZ (m1 (fIsi "list") (aE 0)))) (cU (aZ (aE 0)))) (aX (mC (.bl false))) aV)
 (aO (bO (mC (.int 0)) (.nm 1))
 (aO (kR (jA (aE 0)) (.nm 2) cY)
 (aX (mC (.bl true))))))
def fH : FD := run 3 1 gR
def fU (f_L_same_2 : FD) : FE :=
 (aN (f_L_same_2) (aB (aR bS (aE 0) (aE 2)) (aB (aR bS (aE 1) (aE 2)) aJ)))
def iK (f_L_same_2 : FD) : FS :=
 (aO (bG (aZ (m1 (fIsi2 "list" "tuple") (aE 1))) (aO (bG (oV (cU (aZ (m1 (fIsi2 "list" "tuple") (aE 0)))) (mB (aR zE (m1 (fIsi "list") (aE 0)) (m1 (fIsi "list") (aE 1))))) (aX (mC (.bl false))) aV)
 (aX (eI (aR iP (m1 dJ (aE 0)) (m1 dJ (aE 1))) (m1 qK (yK false (gP (m1 dJ (aE 1))) (.nm 2) fT (fU (f_L_same_2)) [2]))))) aV)
 (aO (bG (oV (aZ (m1 (fIsi "bool") (aE 0))) (aZ (m1 (fIsi "bool") (aE 1)))) (aX (eI (m1 (fIsi "bool") (aE 0)) (eI (m1 (fIsi "bool") (aE 1)) (aR iP (aE 0) (aE 1))))) aV)
 (aO (bG (aZ (m1 (fIsi "int") (aE 1))) (aX (eI (m1 (fIsi "int") (aE 0)) (aR iP (aE 0) (aE 1)))) aV)
 (aO (bG (aZ (m1 (fIsi "str") (aE 1))) (aX (eI (m1 (fIsi "str") (aE 0)) (aR iP (aE 0) (aE 1)))) aV)
 (aX (eI (aR (eV false) (aE 0) (mC .non)) (aR (eV false) (aE 1) (mC .non))))))))
def bA : Nat -> FD
 | 0 => nS
 | n + 1 => run 3 2 (iK (bA n))
theorem DO {x0 : Vl} {S : aM} : nI [x0] S = cM (nL [some x0] S) := (rfl)
theorem Bl {x0 x1 : Vl} {S : aM} : hJ [x0, x1] S = cM (lC [some x0, some x1] S) := (rfl)
theorem qN {x0 x1 : Vl} {S : aM} : cZ [x0, x1] S = cM (fC [some x0, some x1] S) := (rfl)
theorem nD {x0 x1 x2 : Vl} {S : aM} : dR [x0, x1, x2] S = cM (dU [some x0, some x1, some x2, none] S) := (rfl)
theorem uV {x0 : Vl} {S : aM} : fH [x0] S = cM (gR [some x0, none, none] S) := (rfl)
theorem wB {n : Nat} {x0 x1 : Vl} {S : aM} : bA (n + 1) [x0, x1] S = cM ((iK (bA n)) [some x0, some x1, none] S) := (rfl)
def iL (f_L_copied : FD) : FS :=
 (aO (bG (aZ (m1 (fIsi "list") (aE 0))) (aX (yK false (jA (aE 0)) (.nm 1) fT (aN (f_L_copied) (aB (aE 1) aJ)) [1])) aV)
 (aO (bG (aZ (m1 (fIsi "tuple") (aE 0))) (aX (m1 fTuple (yK false (jA (aE 0)) (.nm 1) fT (aN (f_L_copied) (aB (aE 1) aJ)) [1]))) aV)
 (aX (aE 0))))
def aW : Nat -> FD
 | 0 => nS
 | n + 1 => run 2 1 (iL (aW n))
theorem wC {n : Nat} {x0 : Vl} {S : aM} : aW (n + 1) [x0] S = cM ((iL (aW n)) [some x0, none] S) := (rfl)
def iA : FS :=
 (aO (bG (oV (cU (aZ (m1 (fIsi "str") (aE 0)))) (mB (m1 (gG true [("home", .tup [.int 1, .tup [.int 0], .tup []]), ("swap", .tup [.int 2, .tup [.int 0, .int 1], .tup [.int 1, .int 0]]), ("undo", .tup [.int 2, .tup [.int 0, .int 1], .tup []]), ("first", .tup [.int 2, .tup [.int 0, .int 1], .tup [.int 0]]), ("last", .tup [.int 2, .tup [.int 0, .int 1], .tup [.int 1]]), ("ring", .tup [.int 3, .tup [.int 0, .int 1, .int 2], .tup [.int 1, .int 2, .int 0]])]) (aE 0)))) (kQ "NoEquation" ["place"] (aB (mC (.str "equation")) aJ)) aV)
 (aO (bO (m1 (kD [("home", .tup [.int 1, .tup [.int 0], .tup []]), ("swap", .tup [.int 2, .tup [.int 0, .int 1], .tup [.int 1, .int 0]]), ("undo", .tup [.int 2, .tup [.int 0, .int 1], .tup []]), ("first", .tup [.int 2, .tup [.int 0, .int 1], .tup [.int 0]]), ("last", .tup [.int 2, .tup [.int 0, .int 1], .tup [.int 1]]), ("ring", .tup [.int 3, .tup [.int 0, .int 1, .int 2], .tup [.int 1, .int 2, .int 0]])]) (aE 0)) (.tp [3, 4, 5]))
 (aO (bG (oV (cU (aZ (aN dR (aB (aE 1) (aB (mC (.int 3)) (aB (mC (.int 3)) aJ)))))) (mB (aR zE (m1 dJ (aE 1)) (aE 3)))) (kQ "NoEquation" ["place"] (aB (mC (.str "variables")) aJ)) aV)
 (aO (bG (kS (mB (aR (eV true) (aE 2) (mC .non))) (cU (aZ (aN fH (aB (aE 2) aJ))))) (kQ "NoEquation" ["place"] (aB (mC (.str "parts")) aJ)) aV)
 (aO (bO (cF true (aB (mC (.int 0)) (aB (mC (.int 1)) (aB (mC (.int 2)) aJ)))) (.nm 6))
 (aO (bG (mB (aR (eV true) (aE 2) (mC .non))) (bO (m1 (gE true) (aE 2)) (.nm 6)) aV)
 (aX (qY (aB (m1 (gE true) (aE 1)) (aB (m1 (gE true) (aE 4)) (aB (m1 (gE true) (aE 5)) (aB (aE 6) aJ))))))))))))
def eB : FD := run 7 3 iA
def mW : FS :=
 (aX (cF false (aB (mC (.str "home")) (aB (mC (.str "swap")) (aB (mC (.str "undo")) (aB (mC (.str "first")) (aB (mC (.str "last")) (aB (mC (.str "ring")) aJ))))))))
def bY : FD := run 0 0 mW
def fE : FS :=
 (aO (bG (oV (cU (aZ (m1 (fIsi "int") (aE 0)))) (aZ (m1 (fIsi "bool") (aE 0)))) (aX (mC (.bl false))) aV)
 (aX (eI (aR BL (aE 1) (aE 0)) (aR BL (aE 0) (aE 2)))))
def dC : FD := run 3 3 fE
def fV : FS :=
 (aO (bG (oV (cU (aZ (m1 (fIsi "tuple") (aE 0)))) (mB (aR zE (m1 dJ (aE 0)) (mC (.int 2))))) (aX (mC (.bl false))) aV)
 (aX (eI (aN dC (aB (aR bS (aE 0) (mC (.int 0))) (aB (mC (.int 0)) (aB (mC (.int 2)) aJ)))) (aN dC (aB (aR bS (aE 0) (mC (.int 1))) (aB (mC (.int 0)) (aB (mC (.int 1)) aJ)))))))
def fR : FD := run 1 1 fV
def bT : FS :=
 (fJ [1] (aO (bG (cU (aZ (aN dC (aB (aR bS (aE 0) (aE 1)) (aB (mC (.int 0)) (aB (mC (.int 2)) aJ)))))) (aX (mC (.bl false))) aV)
 (bG (kS (mB (aR fGt (aE 1) (mC (.int 0)))) (mB (aR BL (aR bS (aE 0) (aE 1)) (aR bS (aE 0) (aR uN (aE 1) (mC (.int 1))))))) (aX (mC (.bl false))) aV)))
def jN : FS :=
 (aO (bG (oV (cU (aZ (m1 (fIsi "list") (aE 0)))) (mB (aR E5 (m1 dJ (aE 0)) (mC (.int 1))))) (aX (mC (.bl false))) aV)
 (aO (kR (gP (m1 dJ (aE 0))) (.nm 1) bT)
 (aX (mC (.bl true)))))
def hL : FD := run 2 1 jN
def dY : FS :=
 (fJ [7] (bG (cU (aZ (aN fR (aB (aE 7) aJ)))) (aX (cP (aB (mC (.str "refused")) (aB (mC (.str "variables")) aJ)))) aV))
def jO : FS :=
 (aO (bO (cF false (aB (mC (.int 1)) (aB (mC (.int 2)) (aB (mC (.int 2)) (aB (mC (.int 2)) (aB (mC (.int 2)) (aB (mC (.int 3)) aJ))))))) (.nm 3))
 (aO (bO (cF false (aB (cF false (aB (mC (.int 0)) aJ)) (aB (cF false (aB (mC (.int 0)) (aB (mC (.int 1)) aJ))) (aB (cF false (aB (mC (.int 0)) (aB (mC (.int 1)) aJ))) (aB (cF false (aB (mC (.int 0)) (aB (mC (.int 1)) aJ))) (aB (cF false (aB (mC (.int 0)) (aB (mC (.int 1)) aJ))) (aB (cF false (aB (mC (.int 0)) (aB (mC (.int 1)) (aB (mC (.int 2)) aJ)))) aJ))))))) (.nm 4))
 (aO (bO (cF false (aB (cF false aJ) (aB (cF false (aB (mC (.int 1)) (aB (mC (.int 0)) aJ))) (aB (cF false aJ) (aB (cF false (aB (mC (.int 0)) aJ)) (aB (cF false (aB (mC (.int 1)) aJ)) (aB (cF false (aB (mC (.int 1)) (aB (mC (.int 2)) (aB (mC (.int 0)) aJ)))) aJ))))))) (.nm 5))
 (aO (bG (oV (cU (aZ (m1 (fIsi "str") (aE 0)))) (mB (aR (vX true) (aE 0) (aN bY aJ)))) (aX (cP (aB (mC (.str "refused")) (aB (mC (.str "equation")) aJ)))) aV)
 (aO (bO (yL (aN bY aJ) (aE 0)) (.nm 6))
 (aO (bG (oV (cU (aZ (m1 (fIsi "list") (aE 1)))) (mB (aR zE (m1 dJ (aE 1)) (aR bS (aE 3) (aE 6))))) (aX (cP (aB (mC (.str "refused")) (aB (mC (.str "variables")) aJ)))) aV)
 (aO (kR (jA (aE 1)) (.nm 7) dY)
 (aO (bG (mB (aR (eV false) (aE 2) (mC .non))) (aX (cP (aB (mC (.str "told")) (aB (cP (aB (aN (aW 10) (aB (aE 1) aJ)) (aB (aR bS (aE 4) (aE 6)) (aB (aR bS (aE 5) (aE 6)) (aB (cF false (aB (mC (.int 0)) (aB (mC (.int 1)) (aB (mC (.int 2)) aJ)))) aJ))))) aJ)))) aV)
 (aO (bG (cU (aZ (aN hL (aB (aE 2) aJ)))) (aX (cP (aB (mC (.str "refused")) (aB (mC (.str "parts")) aJ)))) aV)
 (aX (cP (aB (mC (.str "told")) (aB (cP (aB (aN (aW 10) (aB (aE 1) aJ)) (aB (aR bS (aE 4) (aE 6)) (aB (aR bS (aE 5) (aE 6)) (aB (aN (aW 10) (aB (aE 2) aJ)) aJ))))) aJ)))))))))))))
def hM : FD := run 8 3 jO
def fW : FS :=
 (aO (bO (aR (gK false) (aE 1) (aN bB (aB (aE 0) (aB (aR (gK false) (aR uN (aE 2) (aE 1)) (mC (.int 1))) aJ)))) (.nm 4))
 (aO (bG (kS (aZ (aE 3)) (mB (aR iP (aN bB (aB (aE 0) (aB (mC (.int 6)) aJ))) (mC (.int 0))))) (aX (aR bS (cF false (aB (mC (.bl true)) (aB (mC (.bl false)) (aB (mC .non) (aB (mC (.str "1")) (aB (cF false (aB (mC (.int 1)) aJ)) aJ)))))) (aN bB (aB (aE 0) (aB (mC (.int 5)) aJ))))) aV)
 (aX (aE 4))))
def dF : FD := run 5 4 fW
def lD : FS :=
 (aO (bO (aN bB (aB (aE 0) (aB (mC (.int 12)) aJ))) (.nm 1))
 (aO (bG (mB (aR E5 (aE 1) (mC (.int 9)))) (aX (aR bS (aN bY aJ) (aR qG (aE 1) (mC (.int 6))))) aV)
 (aX (aR bS (cF false (aB (mC (.str "Home")) (aB (mC (.str "")) (aB (mC (.str "swap ")) (aB (mC (.str "rings")) (aB (mC (.str "las")) (aB (mC .non) (aB (mC (.int 3)) (aB (mC (.bl true)) (aB (cF false (aB (mC (.str "home")) aJ)) (aB (cP (aB (mC (.str "home")) aJ)) aJ))))))))))) (aN bB (aB (aE 0) (aB (mC (.int 10)) aJ)))))))
def iZ : FD := run 2 1 lD
def cW : FS :=
 (fJ [5, 6] (aO (bG (aZ (aE 2)) (bO (cP (aB (aN dF (aB (aE 0) (aB (m1 uO (mC (.int 1))) (aB (mC (.int 4)) (aB (mC (.bl true)) aJ))))) (aB (aN dF (aB (aE 0) (aB (m1 uO (mC (.int 1))) (aB (mC (.int 2)) (aB (mC (.bl true)) aJ))))) aJ))) (.nm 6)) (bO (cP (aB (aN bB (aB (aE 0) (aB (mC (.int 3)) aJ))) (aB (aN bB (aB (aE 0) (aB (mC (.int 2)) aJ))) aJ))) (.nm 6)))
 (fP (nA (aE 4) (aE 6)))))
def fD : FS :=
 (aO (bO (aR iP (aN bB (aB (aE 0) (aB (mC (.int 3)) aJ))) (mC (.int 0))) (.nm 2))
 (aO (bO (aN bB (aB (aE 0) (aB (mC (.int 5)) aJ))) (.nm 3))
 (aO (bG (kS (mB (aR fGt (aN bB (aB (aE 0) (aB (mC (.int 4)) aJ))) (mC (.int 0)))) (kS (aZ (m1 (fIsi "str") (aE 1))) (mB (aR (vX false) (aE 1) (aN bY aJ))))) (bO (aR bS (cF false (aB (mC (.int 1)) (aB (mC (.int 2)) (aB (mC (.int 2)) (aB (mC (.int 2)) (aB (mC (.int 2)) (aB (mC (.int 3)) aJ))))))) (yL (aN bY aJ) (aE 1))) (.nm 3)) aV)
 (aO (bO (cF true aJ) (.nm 4))
 (aO (kR (gP (aE 3)) (.nm 5) cW)
 (aO (bO (aN bB (aB (aE 0) (aB (mC (.int 12)) aJ))) (.nm 7))
 (aO (bG (mB (aR iP (aE 7) (mC (.int 0)))) (aX (m1 fTuple (aE 4))) aV)
 (aO (bG (kS (mB (aR iP (aE 7) (mC (.int 1)))) (aZ (aE 4))) (aO (bO (aN bB (aB (aE 0) (aB (m1 dJ (aE 4)) aJ))) (.nm 8))
 (oU (aR bS (cF false (aB (m1 (gE false) (aR bS (aE 4) (aE 8))) (aB (aR (gK false) (aR bS (aE 4) (aE 8)) (cP (aB (mC (.int 0)) aJ))) (aB (mSl false (aR bS (aE 4) (aE 8)) yJ (qZ (mC (.int 1)))) (aB (mC (.int 0)) (aB (mC .non) aJ)))))) (aN bB (aB (aE 0) (aB (mC (.int 5)) aJ)))) (aE 4) (aE 8))) aV)
 (aX (El (aE 4)))))))))))
def dO : FD := yD 9 2 fD
def cR : FE :=
 (aN dF (aB (aE 0) (aB (m1 uO (mC (.int 1))) (aB (mC (.int 3)) (aB (aR iP (aE 1) (mC (.int 5))) aJ)))))
def fX : FS :=
 (aO (bO (aN bB (aB (aE 0) (aB (mC (.int 6)) aJ))) (.nm 1))
 (aO (bG (mB (aR iP (aE 1) (mC (.int 0)))) (aX (mC .non)) aV)
 (aO (bG (mB (aR E5 (aE 1) (mC (.int 3)))) (aX (aR bS (cF false (aB (cF false (aB (mC (.int 0)) aJ)) (aB (cF false (aB (mC (.int 1)) aJ)) (aB (cF false (aB (mC (.int 2)) aJ)) (aB (cF false (aB (mC (.int 0)) (aB (mC (.int 1)) aJ))) (aB (cF false (aB (mC (.int 0)) (aB (mC (.int 2)) aJ))) (aB (cF false (aB (mC (.int 1)) (aB (mC (.int 2)) aJ))) (aB (cF false (aB (mC (.int 0)) (aB (mC (.int 1)) (aB (mC (.int 2)) aJ)))) aJ)))))))) (aN bB (aB (aE 0) (aB (mC (.int 7)) aJ))))) aV)
 (aO (bG (mB (aR iP (aE 1) (mC (.int 3)))) (aX (aR bS (cF false (aB (cP (aB (mC (.int 0)) (aB (mC (.int 1)) aJ))) (aB (mC (.int 0)) (aB (mC (.str "012")) (aB (mC (.bl true)) (aB (mC .dct) aJ)))))) (aN bB (aB (aE 0) (aB (mC (.int 5)) aJ))))) aV)
 (aX (yK false (gP (aN bB (aB (aE 0) (aB (mC (.int 5)) aJ)))) (.nm 2) fT cR [2]))))))
def eG : FD := run 3 1 fX
def gS : FS :=
 (aO (bO (mC .non) (.nm 4))
 (aO (bO (mC .non) (.nm 5))
 (aO (bO (mC (.bl true)) (.nm 6))
 (aO (mQ ["NoEquation"] (bG (aZ (aE 3)) (bO (sM eB .non (aB (aE 0) (aB (aE 1) aJ))) (.nm 5)) (bO (sL 2 eB (aB (aE 0) (aB (aE 1) aJ)) (aE 2)) (.nm 5))) [("NoEquation", 7, [(4, .f "place"), (6, .is "HomeError" true)])])
 (aO (bG (cU (aZ (aE 6))) (aX (qY (aB (mC (.str "apart")) (aB (mC .non) aJ)))) aV)
 (aO (bG (mB (aR (eV false) (aE 5) (mC .non))) (aX (qY (aB (mC (.str "refused")) (aB (aE 4) aJ)))) aV)
 (aX (qY (aB (mC (.str "told")) (aB (aE 5) aJ))))))))))
def dE : FD := run 8 4 gS
def bX : FS :=
 (fJ [10] (fP (nA (aE 10) (mC (.int 7)))))
def fG : FS :=
 (fJ [2, 3, 4, 5, 6, 7, 8, 9, 10] (aO (bO (aN iZ (aB (aE 1) aJ)) (.nm 3))
 (aO (bO (aN dO (aB (aE 1) (aB (aE 3) aJ))) (.nm 4))
 (aO (bO (aN eG (aB (aE 1) aJ)) (.nm 5))
 (aO (bO (eI (aR (eV false) (aE 5) (mC .non)) (aR iP (aN bB (aB (aE 1) (aB (mC (.int 2)) aJ))) (mC (.int 0)))) (.nm 6))
 (aO (bO (aN hM (aB (aE 3) (aB (aE 4) (aB (aE 5) aJ)))) (.nm 7))
 (aO (bO (cF false (aB (aN (aW 10) (aB (aE 4) aJ)) (aB (aN (aW 10) (aB (aE 5) aJ)) aJ))) (.nm 8))
 (aO (bO (aN dE (aB (aE 3) (aB (aR bS (aE 8) (mC (.int 0))) (aB (aR bS (aE 8) (mC (.int 1))) (aB (aE 6) aJ))))) (.nm 9))
 (aO (bG (oV (cU (aZ (aN (bA 20) (aB (aR bS (aE 8) (mC (.int 0))) (aB (aE 4) aJ))))) (kS (cU (aZ (aN (bA 20) (aB (aR bS (aE 8) (mC (.int 1))) (aB (aE 5) aJ))))) (mB (aR zD (aE 5) (mC .dct))))) (aX (mC (.bl false))) aV)
 (aO (bG (cU (aZ (mRd (bA 20) (aB (aE 9) (aB (aE 7) aJ))))) (aX (mC (.bl false))) aV)
 (bG (mB (aR iP (aR qH (aE 9) (mC (.int 0))) (mC (.str "told")))) (aO (oW (aR qH (aE 9) (mC (.int 1))) (.nm 10) bX)
 (aO (bG (cU (aZ (aN (bA 20) (aB (aR bS (aE 8) (mC (.int 0))) (aB (aE 4) aJ))))) (aX (mC (.bl false))) aV)
 (bG (cU (aZ (mRd (bA 20) (aB (aN dE (aB (aE 3) (aB (aR bS (aE 8) (mC (.int 0))) (aB (aR bS (aE 8) (mC (.int 1))) (aB (aE 6) aJ))))) (aB (aE 7) aJ))))) (aX (mC (.bl false))) aV))) aV)))))))))))
def iB : FS :=
 (aO (bO (aN kP (aB (aE 0) aJ)) (.nm 1))
 (aO (kR (gP (mC (.int 3))) (.nm 2) fG)
 (aX (mC (.bl true)))))
def m_law_k60 : FD := yD 11 1 iB
theorem rL {x0 x1 x2 : Vl} {S : aM} : eB [x0, x1, x2] S = cM (iA [some x0, some x1, some x2, none, none, none, none] S) := (rfl)
theorem qP {x0 x1 x2 : Vl} {S : aM} : dC [x0, x1, x2] S = cM (fE [some x0, some x1, some x2] S) := (rfl)
theorem tF {x0 : Vl} {S : aM} : fR [x0] S = cM (fV [some x0] S) := (rfl)
theorem zN {x0 : Vl} {S : aM} : hL [x0] S = cM (jN [some x0, none] S) := (rfl)
theorem zO {x0 x1 x2 : Vl} {S : aM} : hM [x0, x1, x2] S = cM (jO [some x0, some x1, some x2, none, none, none, none, none] S) := (rfl)
theorem tG {x0 x1 x2 x3 : Vl} {S : aM} : dF [x0, x1, x2, x3] S = cM (fW [some x0, some x1, some x2, some x3, none] S) := (rfl)
theorem Bm {x0 : Vl} {S : aM} : iZ [x0] S = cM (lD [some x0, none] S) := (rfl)
theorem qO {x0 x1 : Vl} {S : aM} : dO [x0, x1] S = trunc S.length (cM (fD [some x0, some x1, none, none, none, none, none, none, none] S)) := (rfl)
theorem tH {x0 : Vl} {S : aM} : eG [x0] S = cM (fX [some x0, none, none] S) := (rfl)
theorem uW {x0 x1 x2 x3 : Vl} {S : aM} : dE [x0, x1, x2, x3] S = cM (gS [some x0, some x1, some x2, some x3, none, none, none, none] S) := (rfl)
theorem zM {x0 : Vl} {S : aM} : m_law_k60 [x0] S = trunc S.length (cM (iB [some x0, none, none, none, none, none, none, none, none, none, none] S)) := (rfl)
end PH
namespace PHZ
open PH PySem PySem.Spec PyProof.Rows L2
theorem AB : FnScope ["value"] ["value"] (defScope rZ) := ⟨rfl, rfl, rfl, by decide +kernel, rfl, by decide +kernel, by decide +kernel⟩
theorem xY : FnScope ["value", "bound"] ["value", "bound"] (defScope oD) := ⟨rfl, rfl, rfl, by decide +kernel, rfl, by decide +kernel, by decide +kernel⟩
theorem nX : FnScope ["item", "procedures"] ["item", "procedures"] (defScope gT) := ⟨rfl, rfl, rfl, by decide +kernel, rfl, by decide +kernel, by decide +kernel⟩
theorem lO : FnScope ["things", "procedures", "most", "item"] ["things", "procedures", "most"] (defScope dQ) := ⟨rfl, rfl, rfl, by decide +kernel, rfl, by decide +kernel, by decide +kernel⟩
theorem rV : FnScope ["things", "least", "part"] ["things"] (defScope iW) := ⟨rfl, rfl, rfl, by decide +kernel, rfl, by decide +kernel, by decide +kernel⟩
theorem sc_named_2 : FnScope ["word", "variables", "parts", "many", "left", "right", "chosen"] ["word", "variables", "parts"] (defScope fZ) := ⟨rfl, rfl, rfl, by decide +kernel, rfl, by decide +kernel, by decide +kernel⟩
theorem yA : FnScope ["_law_script", "_law_cell"] ["_law_script"] (defScope kJ) := ⟨rfl, rfl, rfl, by decide +kernel, rfl, by decide +kernel, by decide +kernel⟩
theorem yB : FnScope ["_law_pool_here", "_law_many", "_law_at", "_law_cell", "_law_number_here"] ["_law_pool_here", "_law_many"] (defScope oG) := ⟨rfl, rfl, rfl, by decide +kernel, rfl, by decide +kernel, by decide +kernel⟩
theorem mM : FnScope ["_law_value", "_law_item"] ["_law_value"] (defScope gB) := ⟨rfl, rfl, rfl, by decide +kernel, rfl, by decide +kernel, by decide +kernel⟩
theorem mL : FnScope ["_law_one", "_law_other", "_law_k"] ["_law_one", "_law_other"] (defScope iG) := ⟨rfl, rfl, rfl, by decide +kernel, rfl, by decide +kernel, by decide +kernel⟩
theorem rW : FnScope [] [] (defScope iX) := ⟨rfl, rfl, rfl, by decide +kernel, rfl, by decide +kernel, by decide +kernel⟩
theorem nZ : FnScope ["_law_thing", "_law_low", "_law_high"] ["_law_thing", "_law_low", "_law_high"] (defScope gV) := ⟨rfl, rfl, rfl, by decide +kernel, rfl, by decide +kernel, by decide +kernel⟩
theorem qB : FnScope ["_law_thing"] ["_law_thing"] (defScope iF) := ⟨rfl, rfl, rfl, by decide +kernel, rfl, by decide +kernel, by decide +kernel⟩
theorem vD : FnScope ["_law_thing", "_law_k"] ["_law_thing"] (defScope lP) := ⟨rfl, rfl, rfl, by decide +kernel, rfl, by decide +kernel, by decide +kernel⟩
theorem vE : FnScope ["_law_word_here", "_law_variables_here", "_law_row_here", "_law_sizes", "_law_lefts", "_law_rights", "_law_at", "_law_item"] ["_law_word_here", "_law_variables_here", "_law_row_here"] (defScope lQ) := ⟨rfl, rfl, rfl, by decide +kernel, rfl, by decide +kernel, by decide +kernel⟩
theorem qC : FnScope ["_law_pool_here", "_law_low", "_law_high", "_law_odd", "_law_number_here"] ["_law_pool_here", "_law_low", "_law_high", "_law_odd"] (defScope iH) := ⟨rfl, rfl, rfl, by decide +kernel, rfl, by decide +kernel, by decide +kernel⟩
theorem xZ : FnScope ["_law_pool_here", "_law_kind"] ["_law_pool_here"] (defScope oF) := ⟨rfl, rfl, rfl, by decide +kernel, rfl, by decide +kernel, by decide +kernel⟩
theorem nY : FnScope ["_law_pool_here", "_law_word_here", "_law_odd", "_law_many", "_law_rows", "_law_turn", "_law_pair", "_law_spoil", "_law_at"] ["_law_pool_here", "_law_word_here"] (defScope gU) := ⟨rfl, rfl, rfl, by decide +kernel, rfl, by decide +kernel, by decide +kernel⟩
theorem qD : FnScope ["_law_pool_here", "_law_kind", "_law_turn"] ["_law_pool_here"] (defScope fQ) := ⟨rfl, rfl, rfl, by decide +kernel, rfl, by decide +kernel, by decide +kernel⟩
theorem rX : FnScope ["_law_word_here", "_law_variables_here", "_law_row_here", "_law_plain", "_law_place", "_law_found", "_law_above", "e"] ["_law_word_here", "_law_variables_here", "_law_row_here", "_law_plain"] (defScope iY) := ⟨rfl, rfl, rfl, by decide +kernel, rfl, by decide +kernel, by decide +kernel⟩
theorem sc_law_k60 : FnScope ["_law_script", "_law_pool_here", "_law_turn", "_law_word_here", "_law_variables_here", "_law_row_here", "_law_plain", "_law_due_here", "_law_passed", "_law_told", "_law_part"] ["_law_script"] (defScope jJ) := ⟨rfl, rfl, rfl, by decide +kernel, rfl, by decide +kernel, by decide +kernel⟩
theorem nW : FnScope ["self", "place"] ["self", "place"] (defScope dN) := ⟨rfl, rfl, rfl, by decide +kernel, rfl, by decide +kernel, by decide +kernel⟩
structure Txt (w : World) (K : aA) (mg : Str -> Option Value) : Prop where
 n_isinstance : mg "isinstance" = none
 n_int : mg "int" = none
 n_bool : mg "bool" = none
 n_tuple : mg "tuple" = none
 n_len : mg "len" = none
 n_list : mg "list" = none
 n_all : mg "all" = none
 n_str : mg "str" = none
 kD_WORDS : KdD K "WORDS" [("home", .tup [.int 1, .tup [.int 0], .tup []]), ("swap", .tup [.int 2, .tup [.int 0, .int 1], .tup [.int 1, .int 0]]), ("undo", .tup [.int 2, .tup [.int 0, .int 1], .tup []]), ("first", .tup [.int 2, .tup [.int 0, .int 1], .tup [.int 0]]), ("last", .tup [.int 2, .tup [.int 0, .int 1], .tup [.int 1]]), ("ring", .tup [.int 3, .tup [.int 0, .int 1, .int 2], .tup [.int 1, .int 2, .int 0]])]
 k_WORDS : ∃ es n, KDict K w (He.ga K "WORDS") es n
 g_WORDS : mg "WORDS" = some (.ref (He.ga K "WORDS"))
 xa_NoEquation : XaF K mg "NoEquation" ["place"]
 fx_NoEquation : FnM K "NoEquation" "__init__" "NoEquation.__init__" dN
 n_range : mg "range" = none
 xm : XMs K ["NoEquation"]
 xs_NoEquation : XsF K (He.ga K "NoEquation")
 kv_NoEquation_ValueError : cA K (.ref (He.ga K "NoEquation")) (.type "ValueError") = some true
 hd_NoEquation : gY K (He.ga K "NoEquation") = true
 g_HomeError : mg "HomeError" = some (.ref (He.ga K "HomeError"))
 n_ValueError : mg "ValueError" = none
 ki_NoEquation_HomeError : cA K (.ref (He.ga K "NoEquation")) (.ref (He.ga K "HomeError")) = some true
 G_whole : mg "whole" = some (.ref (He.ga K "whole"))
 f_whole : nC K "whole" rZ
 G_within : mg "within" = some (.ref (He.ga K "within"))
 f_within : nC K "within" oD
 G_is_variable : mg "is_variable" = some (.ref (He.ga K "is_variable"))
 f_is_variable : nC K "is_variable" gT
 G_are_variables : mg "are_variables" = some (.ref (He.ga K "are_variables"))
 f_are_variables : nC K "are_variables" dQ
 G_are_parts : mg "are_parts" = some (.ref (He.ga K "are_parts"))
 f_are_parts : nC K "are_parts" iW
 G_named_2 : mg "named" = some (.ref (He.ga K "named"))
 f_named_2 : FnK K "named" fZ "parts" .non
 G_L_pool : mg "_law_pool" = some (.ref (He.ga K "_law_pool"))
 f_L_pool : nC K "_law_pool" kJ
 G_L_draw : mg "_law_draw" = some (.ref (He.ga K "_law_draw"))
 f_L_draw : nC K "_law_draw" oG
 G_L_copied : mg "_law_copied" = some (.ref (He.ga K "_law_copied"))
 f_L_copied : nC K "_law_copied" gB
 G_L_same_2 : mg "_law_same" = some (.ref (He.ga K "_law_same"))
 f_L_same_2 : nC K "_law_same" iG
 G_L_words_2 : mg "_law_words" = some (.ref (He.ga K "_law_words"))
 f_L_words_2 : nC K "_law_words" iX
 G_L_integer_2 : mg "_law_integer" = some (.ref (He.ga K "_law_integer"))
 f_L_integer_2 : nC K "_law_integer" gV
 G_L_variable : mg "_law_variable" = some (.ref (He.ga K "_law_variable"))
 f_L_variable : nC K "_law_variable" iF
 G_L_row_2 : mg "_law_row" = some (.ref (He.ga K "_law_row"))
 f_L_row_2 : nC K "_law_row" lP
 G_L_due_6 : mg "_law_due" = some (.ref (He.ga K "_law_due"))
 f_L_due_6 : nC K "_law_due" lQ
 G_L_number_2 : mg "_law_number" = some (.ref (He.ga K "_law_number"))
 f_L_number_2 : nC K "_law_number" iH
 G_L_word : mg "_law_word" = some (.ref (He.ga K "_law_word"))
 f_L_word : nC K "_law_word" oF
 G_L_variables : mg "_law_variables" = some (.ref (He.ga K "_law_variables"))
 f_L_variables : nC K "_law_variables" gU
 G_L_chosen_2 : mg "_law_chosen" = some (.ref (He.ga K "_law_chosen"))
 f_L_chosen_2 : nC K "_law_chosen" fQ
 G_L_asked_2 : mg "_law_asked" = some (.ref (He.ga K "_law_asked"))
 f_L_asked_2 : nC K "_law_asked" iY
 G_law_k60 : mg "law" = some (.ref (He.ga K "law"))
 f_law_k60 : nC K "law" jJ
section
variable {P : Program} {w : World} {K : aA} {mg : Str -> Option Value} {base : Heap}
theorem xa_NoEquation (T : Txt w K mg) : XcA P w K mg base 1 "NoEquation" ["self", "place"] (ER (He.ga K "NoEquation") "place") :=
 Ee (m := "__init__") T.xa_NoEquation T.fx_NoEquation nW A4 (fun _ _ _ _ _ _ us hl => match us, hl with | [_, _], _ => rfl) fun cdv A outer s H vs Q E hr hsp => by
  obtain ⟨a, y, e, ha, h⟩ := hsp;subst e;exact ⟨_, (pss_one (ps_ost (cv 0) (cv 1))), rd_X1 T.xa_NoEquation (by simp) ha (fun _ _ => rfl) h⟩
theorem AO (T : Txt w K mg) : mX P w K mg base 1 "whole" ["value"] (spF K nI) :=
 iJ (k := 0) T.f_whole T.G_whole AB (Runs.plain (n := 1) (np := 1)) (fun _ _ _ _ _ _ us hl => match us, hl with | [_], _ => rfl) fun _ _ _ _ _ _ hr tk nd => by
  unfold nL;exact (aL (aP (fL (cX (T := "int") T.n_isinstance T.n_int (fv 0)) (pe_one (G2 (cX (T := "bool") T.n_isinstance T.n_bool (fv 0)))))))
theorem lT (T : Txt w K mg) : mX P w K mg base 2 "within" ["value", "bound"] (spF K hJ) :=
 iJ (k := 1) T.f_within T.G_within xY (Runs.plain (n := 2) (np := 2)) (fun _ _ _ _ _ _ us hl => match us, hl with | [_, _], _ => rfl) fun _ _ _ _ _ _ hr tk nd => by
  unfold lC;exact (aL (aP (fL (aU (AO T) hr tk (aC (fv 0) aH)) (pe_one (D8 lS yC oL AF fI (fv 0) (fv 1))))))
theorem oN (T : Txt w K mg) : mX P w K mg base 3 "is_variable" ["item", "procedures"] (spF K cZ) :=
 iJ (k := 2) T.f_is_variable T.G_is_variable nX (Runs.plain (n := 2) (np := 2)) (fun _ _ _ _ _ _ us hl => match us, hl with | [_, _], _ => rfl) fun _ _ _ _ _ _ hr tk nd => by
  unfold fC;exact (aG (bQ (PW.pt (gQ (cD (bJ (cX (T := "tuple") T.n_isinstance T.n_tuple (fv 0)))) (pw_or1 (bZ (oK hr.units) AE (iN T.n_len (fv 0)) fI)))) (aL (aP fB)) aT)
  (aL (aP (fL (aU (lT T) hr tk (aC (dG (fv 0) fI) (aC (fv 1) aH))) (pe_one (aU (lT T) hr tk (aC (dG (fv 0) fI) (aC fI aH))))))))
theorem lU (T : Txt w K mg) : mX P w K mg base 4 "are_variables" ["things", "procedures", "most"] (spF K dR) :=
 iJ (k := 3) T.f_are_variables T.G_are_variables lO (Runs.plain (n := 4) (np := 3)) (fun _ _ _ _ _ _ us hl => match us, hl with | [_, _, _], _ => rfl) fun _ _ _ _ _ _ hr tk nd => by
  unfold dU;exact (aG (bQ (PW.pt (gQ (cD (bJ (cX (T := "list") T.n_isinstance T.n_list (fv 0)))) (pw_or1 (cD (BF lS yC lS yC fI (iN T.n_len (fv 0)) (fv 2)))))) (aL (aP fB)) aT)
  (aL (aP (Dz T.n_all (zC (own := [("item", 3)]) (t := (.nm 3)) rfl nd (mD (fv 0)) (blkOk_by (own := [("item", 3)]) (N := ["things", "procedures", "most", "item"]) (sc := defScope dQ) (by decide +kernel)) (fun _ _ _ _ _ => (pg_name (i := 3) nd rfl (.inl rfl))) (fun _ _ _ _ _ => jL) (fun _ _ _ _ _ => (aU (oN T) hr takes0 (aC (fv 3) (aC (fv 1) aH)))))))))
theorem sG (T : Txt w K mg) : mX P w K mg base 3 "are_parts" ["things"] (spF K fH) :=
 iJ (k := 2) T.f_are_parts T.G_are_parts rV (Runs.plain (n := 3) (np := 1)) (fun _ _ _ _ _ _ us hl => match us, hl with | [_], _ => rfl) fun _ _ _ _ _ _ hr tk nd => by
  unfold gR cY;exact (aG (bQ (PW.pt (gQ (cD (bJ (cX (T := "list") T.n_isinstance T.n_list (fv 0)))) (pw_or1 (cD (bJ (fv 0)))))) (aL (aP fB)) aT)
  (aG (bF (i := 1) nd rfl (.inl rfl) fI)
  (aG (pF (t := (.nm 2)) (passes_of rfl) rfl (mD (fv 0)) (pg_name (i := 2) nd rfl (.inl rfl)) (hR [2] (aG (bQ (PW.pt (gQ (cD (bJ (aU (lT T) hr tk (aC (fv 2) (aC fI aH))))) (pw_or1 (bZ oL AF (fv 2) (fv 1))))) (aL (aP fB)) aT)
  (aL (bF (i := 1) nd rfl (.inl rfl) (eK eZ jS (fv 2) fI))))))
  (aL (aP fB)))))
theorem oM (T : Txt w K mg) : OkK P w K mg base 5 "named" ["word", "variables", "parts"] 2 "parts" .non (spF K eB) :=
 okK (k := 4) (N := ["word", "variables", "parts", "many", "left", "right", "chosen"]) T.f_named_2 T.G_named_2 sc_named_2 (Runs.plain (n := 7) (np := 3)) rfl (fun _ _ _ _ _ _ us ks l1 l2 => match us, ks, l1, l2 with | [_, _], [_], _, _ => ⟨_, _, _, _, _, _, rfl, rfl, rfl⟩) (fun _ _ _ _ _ _ us ws l1 l2 => match us, ws, l1, l2 with | [_, _], [_], _, _ => rfl) fun cdv A outer s H E hr => by
  have nd : (["word", "variables", "parts", "many", "left", "right", "chosen"] : List Str).Nodup := sc_named_2.nd;have tk := takes_of (X := cxOf (L2.CX P w) P w K mg base ["word", "variables", "parts", "many", "left", "right", "chosen"] "named" (defScope fZ) (He.ga K "named") cdv A outer s H E) (E := E) rfl rfl rfl rfl;unfold iA;exact (aG (bQ (PW.pt (gQ (cD (bJ (cX (T := "str") T.n_isinstance T.n_str (fv 0)))) (pw_or1 (yZ T.kD_WORDS T.k_WORDS T.g_WORDS (fv 0))))) (aL (lZ (xa_NoEquation T) hr tk (aC fS aH))) aT)
  (aG (G0 (t := (.tp [3, 4, 5])) (D7 T.kD_WORDS T.k_WORDS T.g_WORDS (fv 0)) (pg_tup rfl (pgs_cons (pg_name (i := 3) nd rfl (.inl rfl)) (pgs_cons (pg_name (i := 4) nd rfl (.inl rfl)) (pgs_cons (pg_name (i := 5) nd rfl (.inl rfl)) pgs_nil)))))
  (aG (bQ (PW.pt (gQ (cD (bJ (aU (lU T) hr tk (aC (fv 1) (aC fI (aC fI aH)))))) (pw_or1 (bZ (oK hr.units) AE (iN T.n_len (fv 1)) (fv 3))))) (aL (lZ (xa_NoEquation T) hr tk (aC fS aH))) aT)
  (aG (bQ (PW.pt (kB (bZ tY AD (fv 2) fN) (pw_and1 (cD (bJ (aU (sG T) hr tk (aC (fv 2) aH))))))) (aL (lZ (xa_NoEquation T) hr tk (aC fS aH))) aT)
  (aG (bF (i := 6) nd rfl (.inl rfl) (bU (aC fI (aC fI (aC fI aH)))))
  (aG (bQ (bZ tY AD (fv 2) fN) (aL (bF (i := 6) nd rfl (.inl rfl) (pG T.n_list (fv 2)))) aT)
  (aL (aP (sV (aC (pG T.n_list (fv 1)) (aC (pG T.n_list (fv 4)) (aC (pG T.n_list (fv 5)) (aC (fv 6) aH)))))))))))))
theorem yH (T : Txt w K mg) : mX P w K mg base 1 "_law_pool" ["_law_script"] (spF K kP) :=
 iJ (k := 0) T.f_L_pool T.G_L_pool yA (Runs.plain (n := 2) (np := 1)) (fun _ _ _ _ _ _ us hl => match us, hl with | [_], _ => rfl) fun _ _ _ _ _ _ hr tk nd => by
  unfold lE;exact (aL (aP (eK eZ jS (bU (aC fI aH)) (G1 (zC (own := [("_law_cell", 1)]) (t := (.nm 1)) rfl nd (mD (f_sl (fv 0) xD (xC fI))) (blkOk_by (own := [("_law_cell", 1)]) (N := ["_law_script", "_law_cell"]) (sc := defScope kJ) (by decide +kernel)) (fun _ _ _ _ _ => (pg_name (i := 1) nd rfl (.inl rfl))) (fun _ _ _ _ _ => jL) (fun _ _ _ _ _ => (sW T.n_int (fv 1)))) (pe_one (bU (aC fI aH)))))))
theorem bP (T : Txt w K mg) : mX P w K mg base 1 "_law_draw" ["_law_pool_here", "_law_many"] (spF K bB) :=
 iJ (k := 0) T.f_L_draw T.G_L_draw yB (Runs.plain (n := 5) (np := 2)) (fun _ _ _ _ _ _ us hl => match us, hl with | [_, _], _ => rfl) fun _ _ _ _ _ _ hr tk nd => by
  unfold lF;exact (aG (vW (fv 0) fI fI)
  (aG (bF (i := 2) nd rfl (.inl rfl) (eK eZ jS fI (eK iI oE (sW T.n_int (dG (fv 0) fI)) (eK sE AC (iN T.n_len (fv 0)) fI))))
  (aG (bF (i := 3) nd rfl (.inl rfl) (sW T.n_int (dG (fv 0) (fv 2))))
  (aG (bQ (bZ Ec s_ge (fv 3) (eK CA s_pow fI fI)) (aG (xA (eK kM sA (fv 3) (fv 1)) (fv 0) (fv 2))
  (aL (aP (eK iI oE (fv 3) (fv 1))))) aT)
  (aG (bF (i := 4) nd rfl (.inl rfl) (eK iI oE (eK nG wL (sW T.n_int (eK eZ jS (eK eZ jS (fv 3) (eK nG wL fI (dG (fv 0) fI))) fI)) fI) fI))
  (aG (bF (i := 4) nd rfl (.inl rfl) (eK iI oE (eK nG wL (fv 4) (eK eZ jS (eK kM sA (fv 4) fI) fI)) fI))
  (aG (bF (i := 4) nd rfl (.inl rfl) (eK iI oE (eK nG wL (fv 4) (eK eZ jS (eK kM sA (fv 4) fI) fI)) fI))
  (aL (aP (eK iI oE (eK kM sA (fv 4) fI) (fv 1)))))))))))
theorem eA (T : Txt w K mg) : ∀ n, mX P w K mg base (0 + n + 1) "_law_copied" ["_law_value"] (spF K (aW n))
 | 0 => wR T.f_L_copied T.G_L_copied mM (fun _ _ _ _ _ _ us hl => match us, hl with | [_], _ => rfl)
 | n + 1 => by
  have ih_L_copied := eA T n;exact iJ (k := 0 + n + 1) T.f_L_copied T.G_L_copied mM (Runs.plain (n := 2) (np := 1)) (fun _ _ _ _ _ _ us hl => match us, hl with | [_], _ => rfl) fun _ _ _ _ _ _ hr tk nd => by
   unfold iL;exact (aG (bQ (bJ (cX (T := "list") T.n_isinstance T.n_list (fv 0))) (aL (aP (zC (own := [("_law_item", 1)]) (t := (.nm 1)) rfl nd (mD (fv 0)) (blkOk_by (own := [("_law_item", 1)]) (N := ["_law_value", "_law_item"]) (sc := defScope gB) (by decide +kernel)) (fun _ _ _ _ _ => (pg_name (i := 1) nd rfl (.inl rfl))) (fun _ _ _ _ _ => jL) (fun _ _ _ _ _ => (aU ih_L_copied hr takes0 (aC (fv 1) aH) (by omega)))))) aT)
  (aG (bQ (bJ (cX (T := "tuple") T.n_isinstance T.n_tuple (fv 0))) (aL (aP (xF T.n_tuple (zC (own := [("_law_item", 1)]) (t := (.nm 1)) rfl nd (mD (fv 0)) (blkOk_by (own := [("_law_item", 1)]) (N := ["_law_value", "_law_item"]) (sc := defScope gB) (by decide +kernel)) (fun _ _ _ _ _ => (pg_name (i := 1) nd rfl (.inl rfl))) (fun _ _ _ _ _ => jL) (fun _ _ _ _ _ => (aU ih_L_copied hr takes0 (aC (fv 1) aH) (by omega))))))) aT)
  (aL (aP (fv 0)))))
theorem dZ (T : Txt w K mg) : ∀ n, mX P w K mg base (0 + n + 1) "_law_same" ["_law_one", "_law_other"] (spF K (bA n))
 | 0 => wR T.f_L_same_2 T.G_L_same_2 mL (fun _ _ _ _ _ _ us hl => match us, hl with | [_, _], _ => rfl)
 | n + 1 => by
  have ih_L_same_2 := dZ T n;exact iJ (k := 0 + n + 1) T.f_L_same_2 T.G_L_same_2 mL (Runs.plain (n := 3) (np := 2)) (fun _ _ _ _ _ _ us hl => match us, hl with | [_, _], _ => rfl) fun _ _ _ _ _ _ hr tk nd => by
   unfold iK fU;exact (aG (bQ (bJ (BK (T := "list") (U := "tuple") T.n_isinstance T.n_list T.n_tuple (fv 1))) (aG (bQ (PW.pt (gQ (cD (bJ (BK (T := "list") (U := "tuple") T.n_isinstance T.n_list T.n_tuple (fv 0)))) (pw_or1 (bZ (oK hr.units) AE (cX (T := "list") T.n_isinstance T.n_list (fv 0)) (cX (T := "list") T.n_isinstance T.n_list (fv 1)))))) (aL (aP fB)) aT)
  (aL (aP (fL (iO (eT hr.units) s_eq (iN T.n_len (fv 0)) (iN T.n_len (fv 1))) (pe_one (Dz T.n_all (zC (own := [("_law_k", 2)]) (t := (.nm 2)) rfl nd (kX (by rfl) T.n_range (iN T.n_len (fv 1))) (blkOk_by (own := [("_law_k", 2)]) (N := ["_law_one", "_law_other", "_law_k"]) (sc := defScope iG) (by decide +kernel)) (fun _ _ _ _ _ => (pg_name (i := 2) nd rfl (.inl rfl))) (fun _ _ _ _ _ => jL) (fun _ _ _ _ _ => (aU ih_L_same_2 hr takes0 (aC (dG (fv 0) (fv 2)) (aC (dG (fv 1) (fv 2)) aH)) (by omega)))))))))) aT)
  (aG (bQ (PW.pt (gQ (bJ (cX (T := "bool") T.n_isinstance T.n_bool (fv 0))) (pw_or1 (bJ (cX (T := "bool") T.n_isinstance T.n_bool (fv 1)))))) (aL (aP (fL (cX (T := "bool") T.n_isinstance T.n_bool (fv 0)) (fL (cX (T := "bool") T.n_isinstance T.n_bool (fv 1)) (pe_one (iO (eT hr.units) s_eq (fv 0) (fv 1))))))) aT)
  (aG (bQ (bJ (cX (T := "int") T.n_isinstance T.n_int (fv 1))) (aL (aP (fL (cX (T := "int") T.n_isinstance T.n_int (fv 0)) (pe_one (iO (eT hr.units) s_eq (fv 0) (fv 1)))))) aT)
  (aG (bQ (bJ (cX (T := "str") T.n_isinstance T.n_str (fv 1))) (aL (aP (fL (cX (T := "str") T.n_isinstance T.n_str (fv 0)) (pe_one (iO (eT hr.units) s_eq (fv 0) (fv 1)))))) aT)
  (aL (aP (fL (iO kL tW (fv 0) fN) (pe_one (iO kL tW (fv 1) fN)))))))))
theorem eF (T : Txt w K mg) : mX P w K mg base 1 "_law_words" [] (spF K bY) :=
 iJ (k := 0) T.f_L_words_2 T.G_L_words_2 rW (Runs.plain (n := 0) (np := 0)) (fun _ _ _ _ _ _ us hl => match us, hl with | [], _ => rfl) fun _ _ _ _ _ _ hr tk nd => by
  unfold mW;exact (aL (aP (bU (aC fS (aC fS (aC fS (aC fS (aC fS (aC fS aH)))))))))
theorem gC (T : Txt w K mg) : mX P w K mg base 1 "_law_integer" ["_law_thing", "_law_low", "_law_high"] (spF K dC) :=
 iJ (k := 0) T.f_L_integer_2 T.G_L_integer_2 nZ (Runs.plain (n := 3) (np := 3)) (fun _ _ _ _ _ _ us hl => match us, hl with | [_, _, _], _ => rfl) fun _ _ _ _ _ _ hr tk nd => by
  unfold fE;exact (aG (bQ (PW.pt (gQ (cD (bJ (cX (T := "int") T.n_isinstance T.n_int (fv 0)))) (pw_or1 (bJ (cX (T := "bool") T.n_isinstance T.n_bool (fv 0)))))) (aL (aP fB)) aT)
  (aL (aP (fL (iO lS yC (fv 1) (fv 0)) (pe_one (iO lS yC (fv 0) (fv 2)))))))
theorem qE (T : Txt w K mg) : mX P w K mg base 2 "_law_variable" ["_law_thing"] (spF K fR) :=
 iJ (k := 1) T.f_L_variable T.G_L_variable qB (Runs.plain (n := 1) (np := 1)) (fun _ _ _ _ _ _ us hl => match us, hl with | [_], _ => rfl) fun _ _ _ _ _ _ hr tk nd => by
  unfold fV;exact (aG (bQ (PW.pt (gQ (cD (bJ (cX (T := "tuple") T.n_isinstance T.n_tuple (fv 0)))) (pw_or1 (bZ (oK hr.units) AE (iN T.n_len (fv 0)) fI)))) (aL (aP fB)) aT)
  (aL (aP (fL (aU (gC T) hr tk (aC (dG (fv 0) fI) (aC fI (aC fI aH)))) (pe_one (aU (gC T) hr tk (aC (dG (fv 0) fI) (aC fI (aC fI aH)))))))))
theorem vG (T : Txt w K mg) : mX P w K mg base 2 "_law_row" ["_law_thing"] (spF K hL) :=
 iJ (k := 1) T.f_L_row_2 T.G_L_row_2 vD (Runs.plain (n := 2) (np := 1)) (fun _ _ _ _ _ _ us hl => match us, hl with | [_], _ => rfl) fun _ _ _ _ _ _ hr tk nd => by
  unfold jN bT;exact (aG (bQ (PW.pt (gQ (cD (bJ (cX (T := "list") T.n_isinstance T.n_list (fv 0)))) (pw_or1 (bZ oL AF (iN T.n_len (fv 0)) fI)))) (aL (aP fB)) aT)
  (aG (pF (t := (.nm 1)) (passes_of rfl) rfl (kX (by rfl) T.n_range (iN T.n_len (fv 0))) (pg_name (i := 1) nd rfl (.inl rfl)) (hR [1] (aG (bQ (cD (bJ (aU (gC T) hr tk (aC (dG (fv 0) (fv 1)) (aC fI (aC fI aH)))))) (aL (aP fB)) aT)
  (aL (bQ (PW.pt (kB (bZ AN s_gt (fv 1) fI) (pw_and1 (bZ lS yC (dG (fv 0) (fv 1)) (dG (fv 0) (eK sE AC (fv 1) fI)))))) (aL (aP fB)) aT)))))
  (aL (aP fB))))
theorem vH (T : Txt w K mg) : mX P w K mg base 12 "_law_due" ["_law_word_here", "_law_variables_here", "_law_row_here"] (spF K hM) :=
 iJ (k := 11) T.f_L_due_6 T.G_L_due_6 vE (Runs.plain (n := 8) (np := 3)) (fun _ _ _ _ _ _ us hl => match us, hl with | [_, _, _], _ => rfl) fun _ _ _ _ _ _ hr tk nd => by
  unfold jO dY;exact (aG (bF (i := 3) nd rfl (.inl rfl) (bU (aC fI (aC fI (aC fI (aC fI (aC fI (aC fI aH))))))))
  (aG (bF (i := 4) nd rfl (.inl rfl) (bU (aC (bU (aC fI aH)) (aC (bU (aC fI (aC fI aH))) (aC (bU (aC fI (aC fI aH))) (aC (bU (aC fI (aC fI aH))) (aC (bU (aC fI (aC fI aH))) (aC (bU (aC fI (aC fI (aC fI aH)))) aH))))))))
  (aG (bF (i := 5) nd rfl (.inl rfl) (bU (aC (bU aH) (aC (bU (aC fI (aC fI aH))) (aC (bU aH) (aC (bU (aC fI aH)) (aC (bU (aC fI aH)) (aC (bU (aC fI (aC fI (aC fI aH)))) aH))))))))
  (aG (bQ (PW.pt (gQ (cD (bJ (cX (T := "str") T.n_isinstance T.n_str (fv 0)))) (pw_or1 (bZ (op_notInD (wY hr)) C0 (fv 0) (kY (eF T) hr tk))))) (aL (aP (hW (aC fS (aC fS aH))))) aT)
  (aG (bF (i := 6) nd rfl (.inl rfl) (xG (wY hr) (kY (eF T) hr tk) (fv 0)))
  (aG (bQ (PW.pt (gQ (cD (bJ (cX (T := "list") T.n_isinstance T.n_list (fv 1)))) (pw_or1 (bZ (oK hr.units) AE (iN T.n_len (fv 1)) (dG (fv 3) (fv 6)))))) (aL (aP (hW (aC fS (aC fS aH))))) aT)
  (aG (pF (t := (.nm 7)) (passes_of rfl) rfl (mD (fv 1)) (pg_name (i := 7) nd rfl (.inl rfl)) (hR [7] (aL (bQ (cD (bJ (aU (qE T) hr tk (aC (fv 7) aH)))) (aL (aP (hW (aC fS (aC fS aH))))) aT))))
  (aG (bQ (bZ kL tW (fv 2) fN) (aL (aP (hW (aC fS (aC (hW (aC (aU (eA T 10) hr tk (aC (fv 1) aH)) (aC (dG (fv 4) (fv 6)) (aC (dG (fv 5) (fv 6)) (aC (bU (aC fI (aC fI (aC fI aH)))) aH))))) aH))))) aT)
  (aG (bQ (cD (bJ (aU (vG T) hr tk (aC (fv 2) aH)))) (aL (aP (hW (aC fS (aC fS aH))))) aT)
  (aL (aP (hW (aC fS (aC (hW (aC (aU (eA T 10) hr tk (aC (fv 1) aH)) (aC (dG (fv 4) (fv 6)) (aC (dG (fv 5) (fv 6)) (aC (aU (eA T 10) hr tk (aC (fv 2) aH)) aH))))) aH))))))))))))))
theorem gW (T : Txt w K mg) : mX P w K mg base 2 "_law_number" ["_law_pool_here", "_law_low", "_law_high", "_law_odd"] (spF K dF) :=
 iJ (k := 1) T.f_L_number_2 T.G_L_number_2 qC (Runs.plain (n := 5) (np := 4)) (fun _ _ _ _ _ _ us hl => match us, hl with | [_, _, _, _], _ => rfl) fun _ _ _ _ _ _ hr tk nd => by
  unfold fW;exact (aG (bF (i := 4) nd rfl (.inl rfl) (eK eZ jS (fv 1) (aU (bP T) hr tk (aC (fv 0) (aC (eK eZ jS (eK sE AC (fv 2) (fv 1)) fI) aH)))))
  (aG (bQ (PW.pt (kB (bJ (fv 3)) (pw_and1 (bZ (eT hr.units) s_eq (aU (bP T) hr tk (aC (fv 0) (aC fI aH))) fI)))) (aL (aP (dG (bU (aC fB (aC fB (aC fN (aC fS (aC (bU (aC fI aH)) aH)))))) (aU (bP T) hr tk (aC (fv 0) (aC fI aH)))))) aT)
  (aL (aP (fv 4)))))
theorem yG (T : Txt w K mg) : mX P w K mg base 2 "_law_word" ["_law_pool_here"] (spF K iZ) :=
 iJ (k := 1) T.f_L_word T.G_L_word xZ (Runs.plain (n := 2) (np := 1)) (fun _ _ _ _ _ _ us hl => match us, hl with | [_], _ => rfl) fun _ _ _ _ _ _ hr tk nd => by
  unfold lD;exact (aG (bF (i := 1) nd rfl (.inl rfl) (aU (bP T) hr tk (aC (fv 0) (aC fI aH))))
  (aG (bQ (bZ oL AF (fv 1) fI) (aL (aP (dG (kY (eF T) hr tk) (eK iI oE (fv 1) fI)))) aT)
  (aL (aP (dG (bU (aC fS (aC fS (aC fS (aC fS (aC fS (aC fN (aC fI (aC fB (aC (bU (aC fS aH)) (aC (hW (aC fS aH)) aH))))))))))) (aU (bP T) hr tk (aC (fv 0) (aC fI aH))))))))
theorem oO (T : Txt w K mg) : mX P w K mg base 3 "_law_variables" ["_law_pool_here", "_law_word_here"] (spF K dO) :=
 iJ (k := 2) T.f_L_variables T.G_L_variables nY (Runs.cut (n := 9) (np := 2)) (fun _ _ _ _ _ _ us hl => match us, hl with | [_, _], _ => rfl) fun _ _ _ _ _ _ hr tk nd => by
  unfold fD cW;exact (aG (bF (i := 2) nd rfl (.inl rfl) (iO (eT hr.units) s_eq (aU (bP T) hr tk (aC (fv 0) (aC fI aH))) fI))
  (aG (bF (i := 3) nd rfl (.inl rfl) (aU (bP T) hr tk (aC (fv 0) (aC fI aH))))
  (aG (bQ (PW.pt (kB (bZ AN s_gt (aU (bP T) hr tk (aC (fv 0) (aC fI aH))) fI) (kB (bJ (cX (T := "str") T.n_isinstance T.n_str (fv 1))) (pw_and1 (bZ (op_inD (wY hr)) s_in (fv 1) (kY (eF T) hr tk)))))) (aL (bF (i := 3) nd rfl (.inl rfl) (dG (bU (aC fI (aC fI (aC fI (aC fI (aC fI (aC fI aH))))))) (xG (wY hr) (kY (eF T) hr tk) (fv 1))))) aT)
  (aG (bF (i := 4) nd rfl (.inl rfl) (bU aH))
  (aG (pF (t := (.nm 5)) (passes_of rfl) rfl (kX (by rfl) T.n_range (fv 3)) (pg_name (i := 5) nd rfl (.inl rfl)) (hR [5, 6] (aG (bQ (bJ (fv 2)) (aL (bF (i := 6) nd rfl (.inl rfl) (hW (aC (aU (gW T) hr tk (aC (fv 0) (aC (BI fI) (aC fI (aC fB aH))))) (aC (aU (gW T) hr tk (aC (fv 0) (aC (BI fI) (aC fI (aC fB aH))))) aH))))) (aL (bF (i := 6) nd rfl (.inl rfl) (hW (aC (aU (bP T) hr tk (aC (fv 0) (aC fI aH))) (aC (aU (bP T) hr tk (aC (fv 0) (aC fI aH))) aH))))))
  (aL (xB (Dy (fv 4) (fv 6)))))))
  (aG (bF (i := 7) nd rfl (.inl rfl) (aU (bP T) hr tk (aC (fv 0) (aC fI aH))))
  (aG (bQ (bZ (eT hr.units) s_eq (fv 7) fI) (aL (aP (xF T.n_tuple (fv 4)))) aT)
  (aG (bQ (PW.pt (kB (bZ (eT hr.units) s_eq (fv 7) fI) (pw_and1 (bJ (fv 4))))) (aG (bF (i := 8) nd rfl (.inl rfl) (aU (bP T) hr tk (aC (fv 0) (aC (iN T.n_len (fv 4)) aH))))
  (aL (xA (dG (bU (aC (pG T.n_list (dG (fv 4) (fv 8))) (aC (eK eZ jS (dG (fv 4) (fv 8)) (hW (aC fI aH))) (aC (f_sl (dG (fv 4) (fv 8)) xD (xC fI)) (aC fI (aC fN aH)))))) (aU (bP T) hr tk (aC (fv 0) (aC fI aH)))) (fv 4) (fv 8)))) aT)
  (aL (aP (f_frz (fv 4))))))))))))
theorem qF (T : Txt w K mg) : mX P w K mg base 3 "_law_chosen" ["_law_pool_here"] (spF K eG) :=
 iJ (k := 2) T.f_L_chosen_2 T.G_L_chosen_2 qD (Runs.plain (n := 3) (np := 1)) (fun _ _ _ _ _ _ us hl => match us, hl with | [_], _ => rfl) fun _ _ _ _ _ _ hr tk nd => by
  unfold fX cR;exact (aG (bF (i := 1) nd rfl (.inr rfl) (aU (bP T) hr tk (aC (fv 0) (aC fI aH))))
  (aG (bQ (bZ (eT hr.units) s_eq (fv 1) fI) (aL (aP fN)) aT)
  (aG (bQ (bZ oL AF (fv 1) fI) (aL (aP (dG (bU (aC (bU (aC fI aH)) (aC (bU (aC fI aH)) (aC (bU (aC fI aH)) (aC (bU (aC fI (aC fI aH))) (aC (bU (aC fI (aC fI aH))) (aC (bU (aC fI (aC fI aH))) (aC (bU (aC fI (aC fI (aC fI aH)))) aH)))))))) (aU (bP T) hr tk (aC (fv 0) (aC fI aH)))))) aT)
  (aG (bQ (bZ (eT hr.units) s_eq (fv 1) fI) (aL (aP (dG (bU (aC (hW (aC fI (aC fI aH))) (aC fI (aC fS (aC fB (aC Dx aH)))))) (aU (bP T) hr tk (aC (fv 0) (aC fI aH)))))) aT)
  (aL (aP (zC (own := [("_law_turn", 2)]) (t := (.nm 2)) rfl nd (kX (by rfl) T.n_range (aU (bP T) hr tk (aC (fv 0) (aC fI aH)))) (blkOk_by (own := [("_law_turn", 2)]) (N := ["_law_pool_here", "_law_kind", "_law_turn"]) (sc := defScope fQ) (by decide +kernel)) (fun _ _ _ _ _ => (pg_name (i := 2) nd rfl (.inl rfl))) (fun _ _ _ _ _ => jL) (fun _ _ _ _ _ => (aU (gW T) hr takes0 (aC (fv 0) (aC (BI fI) (aC fI (aC (iO (eT hr.units) s_eq (fv 1) fI) aH)))))))))))))
theorem kN (T : Txt w K mg) : mX P w K mg base 6 "_law_asked" ["_law_word_here", "_law_variables_here", "_law_row_here", "_law_plain"] (spF K dE) :=
 iJ (k := 5) T.f_L_asked_2 T.G_L_asked_2 rX (Runs.plain (n := 8) (np := 4)) (fun _ _ _ _ _ _ us hl => match us, hl with | [_, _, _, _], _ => rfl) fun _ _ _ _ _ _ hr tk nd => by
  unfold gS;exact (aG (bF (i := 4) nd rfl (.inl rfl) fN)
  (aG (bF (i := 5) nd rfl (.inl rfl) fN)
  (aG (bF (i := 6) nd rfl (.inl rfl) fB)
  (aG (D5 T.xm ⟨⟨trivial, ⟨⟨T.ki_NoEquation_HomeError, trivial⟩, trivial⟩⟩, trivial⟩ rfl rfl tk (fun W pn xe tk po => (aL (bQ (bJ (fv 3)) (aL (bF (i := 5) nd rfl (.inl rfl) (DA (oM T) hr tk (dd := .non) (fun _ _ => rfl) (aC (fv 0) (aC (fv 1) aH))))) (aL (bF (i := 5) nd rfl (.inl rfl) (D9 (oM T) hr tk (aC (fv 0) (aC (fv 1) aH)) (fv 2))))))) (hl_as (k := 7) (its := [(4, .f "place"), (6, .is "HomeError" true)]) T.xa_NoEquation.glo nd rfl rfl (fun a oe cls dd pn hz hf => (AX nd rfl (.inl rfl) (kl_f T.xa_NoEquation.rd (T.xa_NoEquation.no "place" (by decide)) hz hf (cv 7)) (AX nd rfl (.inl rfl) (Es T.xs_NoEquation T.kv_NoEquation_ValueError T.hd_NoEquation T.n_isinstance T.g_HomeError T.n_ValueError hz hf (cv 7) (cv 7)) Ep))) FH))
  (aG (bQ (cD (bJ (fv 6))) (aL (aP (sV (aC fS (aC fN aH))))) aT)
  (aG (bQ (bZ kL tW (fv 5) fN) (aL (aP (sV (aC fS (aC (fv 4) aH))))) aT)
  (aL (aP (sV (aC fS (aC (fv 5) aH)))))))))))
theorem law_fn (T : Txt w K mg) : ∃ fd, (∀ (s : Shared) (us : List Value), us.length = (["_law_script"] : List Str).length -> BindsTo s fd ⟨us, []⟩ ((["_law_script"] : List Str).zip us)) /\ ∀ base, FnOk P w K mg base (L2.CX P w) 22 (He.ga K "law") fd ["_law_script"] (spF K m_law_k60) :=
 AW (N := ["_law_script", "_law_pool_here", "_law_turn", "_law_word_here", "_law_variables_here", "_law_row_here", "_law_plain", "_law_due_here", "_law_passed", "_law_told", "_law_part"]) T.f_law_k60 sc_law_k60 (Runs.cut (n := 11) (np := 1) (mb := iB)) (fun _ _ _ _ _ _ us hl => match us, hl with | [_], _ => rfl) fun base cdv A outer s H E hr => by
  have nd : (["_law_script", "_law_pool_here", "_law_turn", "_law_word_here", "_law_variables_here", "_law_row_here", "_law_plain", "_law_due_here", "_law_passed", "_law_told", "_law_part"] : List Str).Nodup := sc_law_k60.nd;have tk := takes_of (X := cxOf (L2.CX P w) P w K mg base ["_law_script", "_law_pool_here", "_law_turn", "_law_word_here", "_law_variables_here", "_law_row_here", "_law_plain", "_law_due_here", "_law_passed", "_law_told", "_law_part"] "law" (defScope jJ) (He.ga K "law") cdv A outer s H E) (E := E) rfl rfl rfl rfl;unfold iB fG bX;exact (aG (bF (i := 1) nd rfl (.inl rfl) (aU (yH T) hr tk (aC (fv 0) aH)))
  (aG (pF (t := (.nm 2)) (passes_of rfl) rfl (kX (by rfl) T.n_range fI) (pg_name (i := 2) nd rfl (.inl rfl)) (hR [2, 3, 4, 5, 6, 7, 8, 9, 10] (aG (bF (i := 3) nd rfl (.inl rfl) (aU (yG T) hr tk (aC (fv 1) aH)))
  (aG (bF (i := 4) nd rfl (.inl rfl) (aU (oO T) hr tk (aC (fv 1) (aC (fv 3) aH))))
  (aG (bF (i := 5) nd rfl (.inl rfl) (aU (qF T) hr tk (aC (fv 1) aH)))
  (aG (bF (i := 6) nd rfl (.inl rfl) (fL (iO kL tW (fv 5) fN) (pe_one (iO (eT hr.units) s_eq (aU (bP T) hr tk (aC (fv 1) (aC fI aH))) fI))))
  (aG (bF (i := 7) nd rfl (.inl rfl) (aU (vH T) hr tk (aC (fv 3) (aC (fv 4) (aC (fv 5) aH)))))
  (aG (bF (i := 8) nd rfl (.inl rfl) (bU (aC (aU (eA T 10) hr tk (aC (fv 4) aH)) (aC (aU (eA T 10) hr tk (aC (fv 5) aH)) aH))))
  (aG (bF (i := 9) nd rfl (.inl rfl) (aU (kN T) hr tk (aC (fv 3) (aC (dG (fv 8) fI) (aC (dG (fv 8) fI) (aC (fv 6) aH))))))
  (aG (bQ (PW.pt (gQ (cD (bJ (aU (dZ T 20) hr tk (aC (dG (fv 8) fI) (aC (fv 4) aH))))) (pw_or1 (PW.pt (kB (cD (bJ (aU (dZ T 20) hr tk (aC (dG (fv 8) fI) (aC (fv 5) aH))))) (pw_and1 (bZ (Eb (ne_hu hr)) s_neE (fv 5) Dx))))))) (aL (aP fB)) aT)
  (aG (bQ (cD (bJ (uM (dZ T 20) hr tk (aC (fv 9) (aC (fv 7) aH))))) (aL (aP fB)) aT)
  (aL (bQ (bZ (eT hr.units) s_eq (BJ (fv 9) fI) fS) (aG (BG (t := (.nm 10)) (passes_of rfl) rfl (BJ (fv 9) fI) (pg_name (i := 10) nd rfl (.inl rfl)) (hR [10] (aL (xB (Dy (fv 10) fI)))))
  (aG (bQ (cD (bJ (aU (dZ T 20) hr tk (aC (dG (fv 8) fI) (aC (fv 4) aH))))) (aL (aP fB)) aT)
  (aL (bQ (cD (bJ (uM (dZ T 20) hr tk (aC (aU (kN T) hr tk (aC (fv 3) (aC (dG (fv 8) fI) (aC (dG (fv 8) fI) (aC (fv 6) aH))))) (aC (fv 7) aH))))) (aL (aP fB)) aT)))) aT)))))))))))))
  (aL (aP fB))))
end
theorem vY {K : aA} (h : ex K = true) (i : Nat) {b : Bool} (e : (exs K)[i]? = some b := by rfl) : b = true := bH.mp h b (fY e)
theorem ob_eq (s : nN) : ob s = hk.obs s.abs := CD (HandSHeadRun.getT_eq s)
theorem txt {w : World} {K : aA} {h : Heap} {mg : Str -> Option Value} (X : K.In h) (G : h.Ns mainGlobals mg) (c : He.SaysT fa fn ts w K /\ ex K = true) : Txt w K mg where
  n_isinstance := He.free_ok X G (c.1.d.fact 0 (f := .free "isinstance") rfl)
  n_int := He.free_ok X G (c.1.d.fact 1 (f := .free "int") rfl)
  n_bool := He.free_ok X G (c.1.d.fact 2 (f := .free "bool") rfl)
  n_tuple := He.free_ok X G (c.1.d.fact 3 (f := .free "tuple") rfl)
  n_len := He.free_ok X G (c.1.d.fact 4 (f := .free "len") rfl)
  n_list := He.free_ok X G (c.1.d.fact 5 (f := .free "list") rfl)
  n_all := He.free_ok X G (c.1.d.fact 6 (f := .free "all") rfl)
  n_str := He.free_ok X G (c.1.d.fact 7 (f := .free "str") rfl)
  kD_WORDS := Et (vY c.2 0) (zK c.1 0 (t := vL "WORDS" [("home", .tup [.int 1, .tup [.int 0], .tup []]), ("swap", .tup [.int 2, .tup [.int 0, .int 1], .tup [.int 1, .int 0]]), ("undo", .tup [.int 2, .tup [.int 0, .int 1], .tup []]), ("first", .tup [.int 2, .tup [.int 0, .int 1], .tup [.int 0]]), ("last", .tup [.int 2, .tup [.int 0, .int 1], .tup [.int 1]]), ("ring", .tup [.int 3, .tup [.int 0, .int 1, .int 2], .tup [.int 1, .int 2, .int 0]])]) rfl)
  k_WORDS := c.1.tab 0 (t := vL "WORDS" [("home", .tup [.int 1, .tup [.int 0], .tup []]), ("swap", .tup [.int 2, .tup [.int 0, .int 1], .tup [.int 1, .int 0]]), ("undo", .tup [.int 2, .tup [.int 0, .int 1], .tup []]), ("first", .tup [.int 2, .tup [.int 0, .int 1], .tup [.int 0]]), ("last", .tup [.int 2, .tup [.int 0, .int 1], .tup [.int 1]]), ("ring", .tup [.int 3, .tup [.int 0, .int 1, .int 2], .tup [.int 1, .int 2, .int 0]])]) rfl
  g_WORDS := He.glo_ok X G (c.1.d.fact 8 (f := .glo "WORDS") rfl)
  xa_NoEquation := EH (vY c.2 1) (He.glo_ok X G (c.1.d.fact 9 (f := .glo "NoEquation") rfl))
  fx_NoEquation := c.1.d.def_ 0 (d := jD) rfl
  n_range := He.free_ok X G (c.1.d.fact 10 (f := .free "range") rfl)
  xm := EE (vY c.2 2)
  xs_NoEquation := ED (vY c.2 3)
  kv_NoEquation_ValueError := of_decide_eq_true (vY c.2 4)
  hd_NoEquation := vY c.2 5
  g_HomeError := He.glo_ok X G (c.1.d.fact 11 (f := .glo "HomeError") rfl)
  n_ValueError := He.free_ok X G (c.1.d.fact 12 (f := .free "ValueError") rfl)
  ki_NoEquation_HomeError := of_decide_eq_true (vY c.2 6)
  G_whole := He.glo_ok X G (c.1.d.fact 13 (f := .glo "whole") rfl)
  f_whole := c.1.d.def_ 1 (d := uQ) rfl
  G_within := He.glo_ok X G (c.1.d.fact 14 (f := .glo "within") rfl)
  f_within := c.1.d.def_ 2 (d := rE) rfl
  G_is_variable := He.glo_ok X G (c.1.d.fact 15 (f := .glo "is_variable") rfl)
  f_is_variable := c.1.d.def_ 3 (d := jE) rfl
  G_are_variables := He.glo_ok X G (c.1.d.fact 16 (f := .glo "are_variables") rfl)
  f_are_variables := c.1.d.def_ 4 (d := hZ) rfl
  G_are_parts := He.glo_ok X G (c.1.d.fact 17 (f := .glo "are_parts") rfl)
  f_are_parts := c.1.d.def_ 5 (d := kZ) rfl
  G_named_2 := He.glo_ok X G (c.1.d.fact 18 (f := .glo "named") rfl)
  f_named_2 := c.1.d.def_ 6 (d := pK) rfl
  G_L_pool := He.glo_ok X G (c.1.d.fact 19 (f := .glo "_law_pool") rfl)
  f_L_pool := c.1.d.def_ 7 (d := rG) rfl
  G_L_draw := He.glo_ok X G (c.1.d.fact 20 (f := .glo "_law_draw") rfl)
  f_L_draw := c.1.d.def_ 8 (d := rH) rfl
  G_L_copied := He.glo_ok X G (c.1.d.fact 21 (f := .glo "_law_copied") rfl)
  f_L_copied := c.1.d.def_ 9 (d := mV) rfl
  G_L_same_2 := He.glo_ok X G (c.1.d.fact 22 (f := .glo "_law_same") rfl)
  f_L_same_2 := c.1.d.def_ 10 (d := mU) rfl
  G_L_words_2 := He.glo_ok X G (c.1.d.fact 23 (f := .glo "_law_words") rfl)
  f_L_words_2 := c.1.d.def_ 11 (d := lA) rfl
  G_L_integer_2 := He.glo_ok X G (c.1.d.fact 24 (f := .glo "_law_integer") rfl)
  f_L_integer_2 := c.1.d.def_ 12 (d := jG) rfl
  G_L_variable := He.glo_ok X G (c.1.d.fact 25 (f := .glo "_law_variable") rfl)
  f_L_variable := c.1.d.def_ 13 (d := jT) rfl
  G_L_row_2 := He.glo_ok X G (c.1.d.fact 26 (f := .glo "_law_row") rfl)
  f_L_row_2 := c.1.d.def_ 14 (d := pM) rfl
  G_L_due_6 := He.glo_ok X G (c.1.d.fact 27 (f := .glo "_law_due") rfl)
  f_L_due_6 := c.1.d.def_ 15 (d := pN) rfl
  G_L_number_2 := He.glo_ok X G (c.1.d.fact 28 (f := .glo "_law_number") rfl)
  f_L_number_2 := c.1.d.def_ 16 (d := jU) rfl
  G_L_word := He.glo_ok X G (c.1.d.fact 29 (f := .glo "_law_word") rfl)
  f_L_word := c.1.d.def_ 17 (d := rF) rfl
  G_L_variables := He.glo_ok X G (c.1.d.fact 30 (f := .glo "_law_variables") rfl)
  f_L_variables := c.1.d.def_ 18 (d := jF) rfl
  G_L_chosen_2 := He.glo_ok X G (c.1.d.fact 31 (f := .glo "_law_chosen") rfl)
  f_L_chosen_2 := c.1.d.def_ 19 (d := jV) rfl
  G_L_asked_2 := He.glo_ok X G (c.1.d.fact 32 (f := .glo "_law_asked") rfl)
  f_L_asked_2 := c.1.d.def_ 20 (d := lB) rfl
  G_law_k60 := He.glo_ok X G (c.1.d.fact 33 (f := .glo "law") rfl)
  f_law_k60 := c.1.d.def_ 21 (d := pL) rfl
end PHZ
namespace PH
open PySem PySem.Spec PyProof.Rows L2
def PoolAt (S : aM) (p : Nat) (ks : List Int) : Prop := S[p]? = some (.lst (ks.map D.int)) /\ 2 <= ks.length
theorem Ai {S : aM} {p : Nat} {ks : List Int} {k : Int} {n : Nat} {u : Int} (h : S[p]? = some (.lst (ks.map D.int))) (hk : k = (n : Int)) (hu : ks[n]? = some u) : Aj (.cel p) k S = some (.int u) := by
 subst hk;simp only [Aj, h];rw [if_pos (by omega)]
 simp [hu]
theorem tS {S : aM} {p : Nat} {ks : List Int} {k : Int} {n : Nat} {u : Int} (h : S[p]? = some (.lst (ks.map D.int))) (hk : k = (n : Int)) (hu : n < ks.length) : setC (.cel p) k (.int u) S = some (S.set p (.lst ((ks.set n u).map D.int))) := by
 subst hk;simp only [setC, h];rw [if_pos ⟨by omega, by simpa using hu⟩]
 simp [List.map_set]
theorem Bc {g : Int -> Int -> Int} {o i e : FE} {ρ : Ev} {S : aM} {p n : Nat} {k u w : Int} {ks : List Int} (ho : o ρ S = .ok (.cel p) S) (hi : i ρ S = .ok (.dat (.int k)) S) (he : e ρ S = .ok (.dat (.int w)) S) (h : S[p]? = some (.lst (ks.map D.int))) (hk : k = (n : Int)) (hu : ks[n]? = some u) :
  rA g o i e ρ S = .next ρ (S.set p (.lst ((ks.set n (g u w)).map D.int))) := by
 simp only [rA, ho, hi, he, pC, Ai h hk hu, tS h hk (aF.mp hu).1]
theorem sQ {S : aM} {p : Nat} {ks : List Int} {k : Int} {n : Nat} {u : Int} (h : S[p]? = some (.lst (ks.map D.int))) (hk : k = (n : Int)) (hu : ks[n]? = some u) : bS (.cel p) (.dat (.int k)) S = .ok (.dat (.int u)) S :=
 g_ixC h (by rw [pO hk]; simp [hu])
theorem AA {S : aM} {p : Nat} {c d : Cell} (h : S[p]? = some c) : (S.set p d)[p]? = some d := by
 rw [aK, if_pos rfl, if_pos (aF.mp h).1]
theorem pw18 {S : aM} : DC (.dat (.int 10)) (.dat (.int 18)) S = .ok (.dat (.int 1000000000000000000)) S := rfl
theorem dw1 (a : Int) : IntMulOk 7919 a := mulL (by decide) (by decide)
theorem dw2 (a : Int) : IntMulOk a 48271 := mulR (by decide) (by decide)
theorem dw3 (a : Int) : CDiv a 1009 := ⟨by decide, by decide⟩
theorem dw4 (a : Int) : CDiv a 2003 := ⟨by decide, by decide⟩
theorem dw5 (a : Int) : CDiv a 11 := ⟨by decide, by decide⟩
theorem dw6 (a b : Int) : IntMulOk (a % 2147483647) b := by
 have h1 : 0 <= a % 2147483647 := eM _ (by decide)
 have h2 : a % 2147483647 < 2147483647 := eP _ (by decide)
 generalize a % 2147483647 = x at h1 h2;exact mulL (by omega) (by omega)
theorem dw7 : (0 : Int) < 2147483647 := by decide
theorem dw8 : (0 : Int) < 2147483399 := by decide
theorem dw9 {a k : Int} {ks : List Int} {S S1 : aM} {p : Nat} {u : Int} (h0 : 0 < k) (hS1 : S.set p (.lst ((ks.set 0 (u + 1)).map D.int)) = S1) : ∃ (d : Int) (ks' : List Int), cM (Out.ret (.dat (.int (a % k))) S1) = .ok (.dat (.int d)) (S.set p (.lst (ks'.map D.int))) /\ 0 <= d /\ d < k /\ ks'.length = ks.length :=
 ⟨a % k, ks.set 0 (u + 1), by rw [hS1]; rfl, eM _ (by omega), eP _ h0, by simp⟩
theorem cH {S : aM} {p : Nat} {ks : List Int} {k : Int} (hP : PoolAt S p ks) (h0 : 0 < k) (h1 : k < 1073741824) :
  ∃ (d : Int) (ks' : List Int), bB [.cel p, .dat (.int k)] S = .ok (.dat (.int d)) (S.set p (.lst (ks'.map D.int))) /\ 0 <= d /\ d < k /\ ks'.length = ks.length := by
 obtain ⟨hp, hl⟩ := hP;obtain ⟨u, hu⟩ : ∃ u, ks[0]? = some u := ⟨ks[0], by simp [show 0 < ks.length by omega]⟩
 have hp1 := AA (d := .lst ((ks.set 0 (u + 1)).map D.int)) hp;have hn : (1 : Int) + (u + 1) % ((ks.length : Int) - 1) = ((1 + ((u + 1) % ((ks.length : Int) - 1)).toNat : Nat) : Int) := by
  have := eM (u + 1) (show ((ks.length : Int) - 1) ≠ 0 by omega)
  omega
 have hlt : 1 + ((u + 1) % ((ks.length : Int) - 1)).toNat < ks.length := by
  have := eP (u + 1) (show 0 < ((ks.length : Int) - 1) by omega)
  have := eM (u + 1) (show ((ks.length : Int) - 1) ≠ 0 by omega)
  omega
 generalize hj : 1 + ((u + 1) % ((ks.length : Int) - 1)).toNat = j at hn hlt;obtain ⟨c, hc⟩ : ∃ c, (ks.set 0 (u + 1))[j]? = some c := ⟨(ks.set 0 (u + 1))[j]'(by simpa using hlt), by simp [hlt]⟩
 have h00 : (ks.set 0 (u + 1))[0]? = some (u + 1) := by
  rw [aK, if_pos rfl, if_pos (by omega)]
 have e1 : (rA (fun x y => x + y) (aE 0) (mC (.int 0)) (mC (.int 1))) [some (.cel p), some (.dat (.int k)), none, none, none] S = .next [some (.cel p), some (.dat (.int k)), none, none, none] (S.set p (.lst ((ks.set 0 (u + 1)).map D.int))) := Bc rfl rfl rfl hp rfl hu
 have eE : bB [.cel p, .dat (.int k)] S = cM (lF [some (.cel p), some (.dat (.int k)), none, none, none] S) := rfl;rw [eE];unfold lF;generalize hS1 : S.set p (.lst ((ks.set 0 (u + 1)).map D.int)) = S1 at e1 hp1;simp! [e1, sQ (k := 0) (n := 0) hp1 rfl h00, Aq hp1, bR, gI, lW (show (0 : Int) < (ks.length : Int) - 1 by omega), hn, sQ hp1 rfl hc, pw18]
 by_cases hbig : (1000000000000000000 : Int) <= c
 ·rw [decide_eq_true hbig]
  simp! [if_true];have e2 : oU (aR mT (aE 3) (aE 1)) (aE 0) (aE 2) [some (.cel p), some (.dat (.int k)), some (.dat (.int (j : Int))), some (.dat (.int c)), none] S1 = .next [some (.cel p), some (.dat (.int k)), some (.dat (.int (j : Int))), some (.dat (.int c)), none] (S1.set p (.lst (((ks.set 0 (u + 1)).set j (c / k)).map D.int))) := by
   unfold oU;simp! [nK (show CDiv c k from ⟨h0, h1⟩), tS (u := c / k) hp1 (rfl : (j : Int) = (j : Int)) (by simpa using hlt)]
  simp! [e2, lW h0];refine ⟨c % k, (ks.set 0 (u + 1)).set j (c / k), ?_, eM c (by omega), eP c h0, by simp⟩
  rw [<- hS1, cQ];rfl
 ·rw [decide_eq_false hbig]
  simp! [sQ (k := 0) (n := 0) hp1 rfl h00, vT (dw1 _), vT (dw2 _), lW dw7, lW dw8, nK (dw3 _), nK (dw4 _), nK (dw5 _), vT (dw6 _ _), lW h0];exact dw9 h0 hS1
inductive Cmd where
 | go (k : Int) | turn (n : Int) | mirror | scale (k : Int) | aim (a b : Int) | place (a b : Int) | mark | ret | exch
def Cmd.d : Cmd -> D
 | .go k => .tup [.str "go", .int k]
 | .turn k => .tup [.str "turn", .int k]
 | .mirror => .tup [.str "mirror"]
 | .scale k => .tup [.str "scale", .int k]
 | .aim a b => .tup [.str "aim", .int a, .int b]
 | .place a b => .tup [.str "place", .int a, .int b]
 | .mark => .tup [.str "mark"]
 | .ret => .tup [.str "return"]
 | .exch => .tup [.str "exchange"]
abbrev PL (ks : List Int) : Cell := .lst (ks.map D.int)
theorem PoolAt.next {S : aM} {p : Nat} {ks ks' : List Int} (h : PoolAt S p ks) (l : ks'.length = ks.length) : PoolAt (S.set p (PL ks')) p ks' := ⟨AA h.1, by rw [l]; exact h.2⟩
inductive Stt where
 | cmd (c : Cmd) | fin (w : Int) | keep (b : List Stt) | again (b : List Stt) | either (a b : List Stt) | call (g : Int) (s : Bool) (a b : List Stt) | bad | odd (x : D)
mutual
def Stt.d : Stt -> D
 | .cmd c => c.d
 | .fin w => .tup [.str "end", .int w]
 | .keep b => .tup [.str "keep", .lst (sX b)]
 | .again b => .tup [.str "again", .lst (sX b)]
 | .either a b => .tup [.str "either", .lst (sX a), .lst (sX b)]
 | .call g s a b => .tup [.str "call", .int g, .bl s, .lst [.lst (sX a), .lst (sX b)]]
 | .bad => .tup [.str "bad"]
 | .odd x => x
def sX : List Stt -> List D
 | [] => []
 | s :: r => s.d :: sX r
end
def LS (S : aM) : Prop := ∀ c ∈ S, ∀ n, c.below n = true
theorem LS.set {S : aM} {ds : List D} {k : Nat} (h : LS S) : LS (S.set k (.lst ds)) := fun c hc n => by
 rcases tK hc with hc | hc
 ·exact h c hc n
 ·rw [hc]; rfl
theorem sz {n : Nat} (h : n <= 1000) : n <= sizeLine := by show n <= 16777216; omega
def bls (bs : List (List Stt)) : List D := bs.map fun b => .lst (sX b)
theorem uB {α : Type} {t : Tg} {e : FE} {ρ : Ev} {S : aM} {f g : α -> D} : ∀ {xs : List α}, (∀ x ∈ xs, ∃ ρ1, tJ t (.dat (f x)) ρ = some ρ1 /\ e ρ1 S = .ok (.dat (g x)) S) -> jZ t fT e ρ (xs.map f) S = .ok (xs.map g) S
 | [], _ => rfl
 | x :: xs, h => by
  obtain ⟨ρ1, h1, h2⟩ := h x (aY ..);have ih := uB (xs := xs) fun y hy => h y (bD _ hy)
  rw [cS, jZ];simp only [h1, Dw, h2, if_true, ih, cS]
theorem jK {α : Type} {cl : Bool} {t : Tg} {e : FE} {ρ : Ev} {S : aM} {f g : α -> D} {xs : List α} {vs : List Nat} (hl : xs.length <= sizeLine) (h : ∀ x ∈ xs, ∃ ρ1, tJ t (.dat (f x)) (wipeE ρ vs) = some ρ1 /\ e ρ1 S = .ok (.dat (g x)) S) : Dq cl t fT e ρ vs (xs.map f) S = newL cl (xs.map g) S := by
 unfold Dq;rw [bR, if_pos hl, uB h]
end PH
namespace PH
open PySem PySem.Spec PyProof PyProof.Rows L2
mutual
/-- the height -/
def D.ht : D -> Nat
 | .lst xs => D.hts xs + 1
 | .tup xs => D.hts xs + 1
 | _ => 0
def D.hts : List D -> Nat
 | [] => 0
 | x :: r => max (D.ht x) (D.hts r)
end
mutual
/-- no instances, no dicts; texts that may be compared -/
def D.Pl : D -> Prop
 | .lst xs => xs.length <= 1000 /\ D.Pls xs
 | .tup xs => xs.length <= 1000 /\ D.Pls xs
 | .str x => PyData.strOk x = true
 | .ins _ _ _ => False
 | .dct => False
 | .opq _ => False
 | _ => True
def D.Pls : List D -> Prop
 | [] => True
 | x :: r => D.Pl x /\ D.Pls r
end
theorem pA : ∀ {xs : List D} {x : D}, x ∈ xs -> x.ht <= D.hts xs
 | y :: r, x, h => by
  rcases aQ.mp h with rfl | h
  ·simp [D.hts]; omega
  ·have := pA h; simp [D.hts]; omega
theorem oI : ∀ {xs : List D} {x : D}, D.Pls xs -> x ∈ xs -> x.Pl
 | y :: r, x, hp, h => by
  rcases aQ.mp h with rfl | h
  ·exact hp.1
  ·exact oI hp.2 h
theorem all_true {α : Type} {S : aM} (xs : List α) : qK (.dat (.lst (xs.map fun _ => D.bl true))) S = .ok (.dat (.bl true)) S := by
 have : ∀ xs : List α, lH (xs.map fun _ => D.bl true) = some (xs.map fun _ => true) := fun xs => by
  induction xs with
  | nil => rfl
  | cons x r ih => simp only [cS, lH, ih]
 simp only [qK, eD, this]
 congr 3
 simp
abbrev rm (S : aM) (q : Nat) (m : Int) : aM := S.set q (.lst [.int m])
theorem BQ {ns : List Int} {lo hi : Option Int} : ∃ ms : List Int, cutD (ns.map D.int) lo hi = ms.map D.int /\ ms.length <= ns.length := by
 refine ⟨(ns.drop (HT.sIx (ns.map D.int).length 0 lo)).take (HT.sIx (ns.map D.int).length (ns.map D.int).length hi - HT.sIx (ns.map D.int).length 0 lo), ?_, ?_⟩
 ·simp only [cutD, List.map_take, List.map_drop]
 ·simp; omega
theorem C6 {ns : List Int} {S : aM} (hn : ns.length <= 63) : ∃ ks : List Int, kP [.scr ns] S = .ok (.cel S.length) (S ++ [PL ks]) /\ 2 <= ks.length := by
 obtain ⟨ms, e, hl⟩ := BQ (ns := ns) (lo := none) (hi := some 63);rw [show kP [.scr ns] S = cM (lE [some (.scr ns), none] S) from rfl]
 unfold lE;simp! [e];rw [jK (g := D.int) (sz (by omega)) fun i hi => ⟨_, rfl, ?_⟩]
 ·cases ms with
  | nil =>
   refine ⟨[0, 0], ?_, by simp⟩
   simp! [List.map_nil, List.isEmpty_nil, BE (show [D.int 0].length + [D.int 0].length <= sizeLine from sz (by simp))]
   rfl
  | cons i r =>
   refine ⟨0 :: i :: r, ?_, by simp⟩
   simp! [cS, List.isEmpty_cons, BE (show [D.int 0].length + (D.int i :: r.map D.int).length <= sizeLine from sz (by simp at *; omega))]
   rfl
 ·simp! [if_true]
mutual
def Stt.size : Stt -> Nat
 | .keep b => iV b + 1
 | .again b => iV b + 1
 | .either a b => iV a + iV b + 1
 | .call _ _ a b => iV a + iV b + 1
 | _ => 1
def iV : List Stt -> Nat
 | [] => 0
 | s :: r => s.size + iV r
end
theorem ds1 {s : Stt} : [s.d] = sX [s] := rfl
structure Bk (p n N : Nat) (S0 : aM) (many l : Int) (bs : List (List Stt)) (T : aM) : Prop where
 ls : LS T
 n2 : 2 <= N
 hp : p < n
 len : n + 2 <= T.length
 pool : ∃ ks, T[p]? = some (PL ks) /\ ks.length = N
 call : T[n]? = some (PL [l, many])
 bod : T[n + 1]? = some (.lst (bls bs))
 old : ∀ i, i < n -> i ≠ p -> T[i]? = S0[i]?
inductive Bd where
 | blk (b : List Stt) | no (x : D)
theorem By {a o i : FE} {ρ : Ev} {S S1 : aM} {d : D} {n j : Nat} {k : Int} {ds : List D} (ha : a ρ S = .ok (.dat d) S1) (ho : o ρ S1 = .ok (.cel n) S1) (hi : i ρ S1 = .ok (.dat (.int k)) S1) (h : S1[n]? = some (.lst ds)) (hk : k = (j : Int)) (hj : j < ds.length) : oU a o i ρ S = .next ρ (S1.set n (.lst (ds.set j d))) := by
 subst hk;simp only [oU, ha, ho, hi, pC, setC, h];rw [if_pos ⟨by omega, by simpa using hj⟩]
 simp
mutual
def repS (x : D) (k : Nat) : Stt -> Stt
 | .keep b => .keep (repL x k b)
 | .again b => .again (repL x k b)
 | .either a b => if k < iV a then .either (repL x k a) b else .either a (repL x (k - iV a) b)
 | .call g f a b => if k < iV a then .call g f (repL x k a) b else .call g f a (repL x (k - iV a) b)
 | s => s
def repL (x : D) (k : Nat) : List Stt -> List Stt
 | [] => []
 | s :: r => if k = 0 then .odd x :: r else if k < s.size then repS x (k - 1) s :: r else s :: repL x (k - s.size) r
end
inductive Deed where
 | cmd (c : Cmd) | op | cl
abbrev CallS := Int × Bool × List Stt × List Stt
inductive Task where
 | lst (l : List Stt) (i : Nat) | close | again (b : List Stt) | call (p : Nat) (st : Option CallS)
structure Mc where
 bs : List (List Stt)
 bits : List Int
 taken : Nat
 deeds : List Deed
 stk : List Task
 act : List (List Nat)
 ended : Int
structure Pen where
 x : Int
 y : Int
 u : Int
 v : Int
 p : Int
 q : Int
def Pen.ns (z : Pen) : List Int := [z.x, z.y, z.u, z.v, z.p, z.q]
def dot (f : Nat -> Int) : Nat -> Int
 | 0 => 0
 | n + 1 => dot f n + f n
def gt (M : List Int) (i : Nat) : Int := M.getD i 0
def imgAt (M : List Int) (z : Pen) (i : Nat) : Int := dot (fun j => gt M (7 * i + j) * gt ((1 : Int) :: z.ns) j) 7
def delta (i j : Nat) : Int := if i = j then 1 else 0
@[irreducible] def mx (f : Nat -> Nat -> Int) : List Int := (cL 49).map fun t => f (t / 7) (t % 7)
def rows (f : Nat -> Nat -> Int) (n : Nat) : List Int := (cL n).flatMap fun i => (cL 7).map (f i)
@[irreducible] def unitM : List Int := mx delta
def DP : Pen := ⟨0, 0, 0, 0, 0, 0⟩
def unitP (j : Nat) : Pen := ⟨delta 0 j, delta 1 j, delta 2 j, delta 3 j, delta 4 j, delta 5 j⟩
def vc (z : Pen) (i : Nat) : Int := gt ((1 : Int) :: z.ns) i
def EZ (r : Pen -> Pen) (i j : Nat) : Int := if j = 0 then vc (r DP) i else vc (r (unitP (j - 1))) i - vc (r DP) i
@[irreducible] def probeM (r : Pen -> Pen) : List Int := mx (EZ r)
def EC (r : Pen -> Pen) (M : List Int) : Prop := M.length = 49 /\ ∀ z i, i < 7 -> vc (r z) i = imgAt M z i
structure Ps where
 pens : List Pen
 z : Pen
 stk : List Pen
theorem FB {xs : List D} {t : Int} {n : Nat} {d : D} {S : aM} (e : t = (n : Int)) (h : xs[n]? = some d) : bS (.dat (.lst xs)) (.dat (.int t)) S = .ok (.dat d) S := by
 rw [e];exact B5 (atI_nat h)
inductive Ed where
 | cmd (m : List Int) (q : Nat) | bit (b : Int) (q : Nat) | unit (es : List Nat) (sv : Bool) (ts : List Nat)
structure Us where
 p : Nat
 sv : Bool
 t : Nat
structure Gr where
 ps : List (List Ed × List Us)
 st : List Nat
def exF : Option PH.D -> List (Str × Vl)
 | none => []
 | some x => [("exits", .dat x)]
def gF (n : Nat) (fx : Option PH.D) : List (Str × Vl) := ("edges", .cel (n + 1)) :: ("users", .cel (n + 2)) :: ("starts", .cel (n + 3)) :: exF fx
def hC (n : Nat) (fx : Option PH.D) (G : Gr) : List Cell :=
 [.ins "Graph" (gF n fx), .lv ((cL G.ps.length).map fun i => .cel (n + 4 + 2 * i)), .lv ((cL G.ps.length).map fun i => .cel (n + 5 + 2 * i)), .lst (G.st.map fun p : Nat => .int p)]
structure Ms where
 m : List Int
 stk : List (List Int)
inductive Chain : List (List Int) -> (Pen -> List Pen) -> Prop
 | nil : Chain [] (fun _ => [])
 | cons {P : List Int} {k : List (List Int)} {ts : Pen -> List Pen} {f : Pen -> Pen} : EC f P -> Chain k ts -> Chain (P :: k) (fun z => f ((ts z).headD z) :: ts z)
def Inv (s : Ms) (p : Pen -> Ps) : Prop := ∃ (ts : Pen -> List Pen) (f : Pen -> Pen), Chain s.stk ts /\ EC f s.m /\ ∀ z, (p z).stk = ts z /\ (p z).z = f ((ts z).headD z)
end PH
namespace LA
abbrev Vc := Nat -> Int
def S : Nat -> (Nat -> Int) -> Int
 | 0, _ => 0
 | n + 1, f => S n f + f n
def skip (i0 i : Nat) : Nat := if i < i0 then i else i + 1
def lin (a : Int) (v : Vc) (b : Int) (w : Vc) : Vc := fun x => a * v x + b * w x
def zv : Vc := fun _ => 0
inductive Sp (G : Vc -> Prop) : Vc -> Prop
 | gen {v : Vc} : G v -> Sp G v
 | zero : Sp G zv
 | lin {v w : Vc} (a b : Int) : Sp G v -> Sp G w -> Sp G (lin a v b w)
 | div {v : Vc} (k : Int) : k ≠ 0 -> Sp G (fun x => k * v x) -> Sp G v
end LA
namespace LA
def fn (l : List Int) : Vc := fun x => l.getD x 0
def sD : List Int -> Nat
 | [] => 0
 | x :: r => if x = 0 then sD r + 1 else 0
def gcdN (l : List Int) : Nat := l.foldl (fun g x => Nat.gcd g x.natAbs) 0
end LA
namespace LA
def mulS (row base : List Int) (m : Int) : Int := if fn row (sD base) = 0 then m else Int.fdiv (m * fn base (sD base)) (gcdN [m, fn base (sD base)])
def mulL (B : List (List Int)) (row : List Int) : Int := B.foldl (fun m base => mulS row base m) 1
end LA
namespace LA
def Bd (b : Nat) (r : List Int) : Prop := ∀ x ∈ r, x.natAbs < 2 ^ b
end LA
namespace LA
def Gr (R : Nat) : Nat -> List (List Int) -> Prop
 | _, [] => True
 | i, b :: B => Bd (2 ^ i * (R + 1) - 1) b /\ Gr R (i + 1) B
end LA
namespace PH
open PySem PySem.Spec PyProof PyProof.Rows L2
theorem hQ {t : Tg} {mb : FS} {d : PH.D} {r : List PH.D} {ρ ρ1 ρ2 : Ev} {S S2 : aM} (h1 : tJ t (.dat d) ρ = some ρ1) (h2 : mb ρ1 S = .next ρ2 S2) : loop t mb (d :: r) ρ S = loop t mb r ρ2 S2 := by
 rw [loop, h1];dsimp only;rw [h2]
def st2 (S : aM) (p : Nat) (ks : List Int) (c : Cell) : aM := S.set p (PL ks) ++ [c]
def exF2 (i n : Nat) : List (Nat × Nat) := (pW i n).map fun i => (2 * i, 2 * i + 1)
def exs (n : Nat) : List (Nat × Nat) := exF2 0 n
structure En where
 len : Int
 bits : List Int
 mat : List Int
structure Cand where
 p : Nat
 bits : List Int
 more : List Int
 mat : List Int
abbrev Wt := List (Int × List Cand)
abbrev Wi := List (Int × Nat × List Cand)
def zB (T : aM) (E : List (List En)) : Nat := T.length + 4 + E.length
structure SSt where
 E : List (List En)
 B : List (List (List Int))
 A : Wt
abbrev OkP := Nat -> Int -> List Int -> List Int -> Prop
abbrev Prc := Nat -> Nat -> Int -> List Int -> List Int -> Prop
def tg (af : Nat) (ex : Nat × Nat) (o : Nat) : Nat := if o = 0 then af else if o = 1 then ex.1 else ex.2
inductive Frm where
 | blk (l : List Stt) (i : Nat) | kp (zs : List Pen) | cl (f : Bool) (zs : List Pen) (a b : List Stt) | ag (a : List Stt)
abbrev R4 := Nat × Nat × (Pen -> Pen) × List Int
abbrev EP := Nat -> List Int -> Option R4
structure PSt where
 fs : List Frm
 zs : List Pen
 u : Nat
 n : Nat
 w : Nat
inductive PO where
 | go (s : PSt) | more | loop
section
variable {bs : List (List Stt)} {B : List Int}
def Pos (B : List Int) (u : Nat) (b : List Int) : Prop := u + b.length = B.length /\ B.drop u = b
end
theorem xW {T F : aM} {n : Nat} {d : PH.D} (h : (T.all fun c => c.below T.length) = true) (hn : n = T.length) : trunc n (.ok (.dat d) (T ++ F)) = .ok (.dat d) T := by
 subst hn;have e : (T ++ F).take T.length = T := by simp
 dsimp only [trunc];rw [e];simp only [Vl.below, h, Bool.and_self, if_true]
inductive Pce where
 | kp (c : Cmd) | cl (f : Bool)
def chF (row : List Nat) (k : Nat) : Bool := match row.getLast? with
 | none => true
 | some a => decide (a < k)
def nxt (n : Nat) (lev : List (List Nat)) : List (List Nat) := lev.flatMap fun row => ((cL n).filter (chF row)).map fun k => row ++ [k]
def lvl (n : Nat) : Nat -> List (List Nat)
 | 0 => [[]]
 | k + 1 => nxt n (lvl n k)
theorem LS.all {S : aM} (h : LS S) : (S.all fun c => c.below S.length) = true := bH.mpr fun c hc => h c hc _
theorem tT {n : Nat} {xs : List PH.D} {S : aM} {f : FD} {i : Nat} {x y : PH.D} (hx : xs[i]? = some x) (ex : bS (.dat y) (.dat (.int (0 + (i : Int)))) S = .ok (.dat x) S) (h : f [.dat x, .dat x] S = .ok (.dat (.bl true)) S) : fU f [some (.dat y), some (.dat y), some (.dat (.int (0 + (i : Int))))] S = .ok (.dat (.bl true)) S := by
 unfold fU;simp! [ex, h]
theorem oC (n : Nat) : ∀ {S : aM} {d : PH.D}, d.Pl -> d.ht < n -> bA n [.dat d, .dat d] S = .ok (.dat (.bl true)) S := by
 induction n with
 | zero => intro S d _ h; omega
 | succ n ih =>
  intro S d hp hd;rw [wB];unfold iK;cases d with
  | non => simp! [show eV false (.dat .non) (.dat .non) S = .ok (.dat (.bl true)) S from rfl]; rfl
  | bl b => simp! [if_true]; cases b <;> rfl
  | int i => simp! [if_true]; rfl
  | str x => simp! [if_true]; rfl
  | ins _ _ _ => exact hp.elim
  | dct => exact hp.elim
  | opq _ => exact hp.elim
  | lst xs =>
   have hl := hp.1;simp! [kW (show -(2 ^ 62) <= (xs.length : Int) by omega) (show (xs.length : Int) < 2 ^ 62 by omega), eS, fF]
   rw [jK (g := fun _ => PH.D.bl true) (sz (by simp; omega)) fun i hi => ⟨_, rfl, ?_⟩]
   ·simp! [if_true]
    rw [all_true];rfl
   ·have hi' : i < xs.length := List.mem_range.mp hi
    have hx : xs[i]? = some xs[i] := bI hi';have hm : xs[i] ∈ xs := iQ hi';have := pA hm;have hd' : PH.D.hts xs + 1 < n + 1 := hd;exact tT (n := n) hx (B5 (by rw [pO (n := i) (by omega), hx])) (ih (oI hp.2 hm) (by omega))
  | tup xs =>
   have hl := hp.1;simp! [kW (show -(2 ^ 62) <= (xs.length : Int) by omega) (show (xs.length : Int) < 2 ^ 62 by omega), eS, fF]
   rw [jK (g := fun _ => PH.D.bl true) (sz (by simp; omega)) fun i hi => ⟨_, rfl, ?_⟩]
   ·simp! [if_true]
    rw [all_true];rfl
   ·have hi' : i < xs.length := List.mem_range.mp hi
    have hx : xs[i]? = some xs[i] := bI hi';have hm : xs[i] ∈ xs := iQ hi';have := pA hm;have hd' : PH.D.hts xs + 1 < n + 1 := hd;exact tT (n := n) hx (g_ixT (by rw [pO (n := i) (by omega), hx])) (ih (oI hp.2 hm) (by omega))
def kps : List Pce -> Nat
 | [] => 0
 | .kp _ :: r => kps r + 1
 | .cl _ :: r => kps r
def cls : List Pce -> Nat
 | [] => 0
 | .kp _ :: r => cls r
 | .cl _ :: r => cls r + 1
section
variable {bs : List (List Stt)} {T : Nat -> Nat} {S : aM} {g : Nat}
abbrev R3 := Nat × Nat × List Int
end
theorem Eh {z w : Pen} (h : z.ns = w.ns) : z = w := by
 obtain ⟨a1, a2, a3, a4, a5, a6⟩ := z;obtain ⟨b1, b2, b3, b4, b5, b6⟩ := w;simp only [Pen.ns, List.cons.injEq, and_true] at h;obtain ⟨rfl, rfl, rfl, rfl, rfl, rfl⟩ := h;rfl
instance : DecidableEq Pen := fun z w => if h : z.ns = w.ns then .isTrue (Eh h) else .isFalse fun e => h (by rw [e])
structure Eqn where
 vars : List (Nat × Nat)
 left : List Nat
 right : List Nat
 parts : List Nat
section
variable {S : aM}
theorem ixLk {xs : List PH.D} {n : Nat} {d : PH.D} (h : xs[n]? = some d) : bS (.dat (.lst xs)) (.dat (.int (n : Int))) S = .ok (.dat d) S := B5 (atI_nat h)
end
def PW {α : Type} : List α -> List (List α) -> Prop
 | [], [] => True
 | x :: xs, r :: rs => x ∈ r /\ PW xs rs
 | _, _ => False
abbrev Plc := Int × List Int
theorem Dc {ds : List PH.D} (h : ∀ d ∈ ds, d.Pl) : PH.D.Pls ds := by
 induction ds with
 | nil => trivial
 | cons d r ih => exact ⟨h d (aY ..), ih fun x hx => h x (bD _ hx)⟩
theorem Dt {ds : List PH.D} {k : Nat} (h : ∀ d ∈ ds, d.ht <= k) : PH.D.hts ds <= k := by
 induction ds with
 | nil => exact eQ _
 | cons d r ih =>
  rw [PH.D.hts];exact Nat.max_le.mpr ⟨h d (aY ..), ih fun x hx => h x (bD _ hx)⟩
theorem AU {ds : List PH.D} {k : Nat} (hl : ds.length <= 1000) (h : ∀ d ∈ ds, d.Pl /\ d.ht <= k) : (PH.D.lst ds).Pl /\ (PH.D.lst ds).ht <= k + 1 :=
 ⟨⟨hl, Dc fun d hd => (h d hd).1⟩, Nat.succ_le_succ (Dt fun d hd => (h d hd).2)⟩
theorem EM {ds : List PH.D} {k : Nat} (hl : ds.length <= 1000) (h : ∀ d ∈ ds, d.Pl /\ d.ht <= k) : (PH.D.tup ds).Pl /\ (PH.D.tup ds).ht <= k + 1 :=
 ⟨⟨hl, Dc fun d hd => (h d hd).1⟩, Nat.succ_le_succ (Dt fun d hd => (h d hd).2)⟩
def T2 (x y : Nat) : Nat -> Nat := fun g => if g = 0 then x else y
theorem jM (n : Nat) : ∀ {S : aM} {d : PH.D}, d.Pl -> d.ht < n -> aW n [.dat d] S = .ok (.dat d) S := by
 induction n with
 | zero => intro S d _ h; omega
 | succ n ih =>
  intro S d hp hd;rw [wC];unfold iL;cases d with
  | non => simp! [if_true]; rfl
  | bl b => simp! [if_true]; rfl
  | int i => simp! [if_true]; rfl
  | str x => simp! [if_true]; rfl
  | ins _ _ _ => exact hp.elim
  | dct => exact hp.elim
  | opq _ => exact hp.elim
  | lst xs =>
   have hl := hp.1;have lc : Dq false (.nm 1) fT (aN (aW n) (aB (aE 1) aJ)) [some (.dat (.lst xs)), none] [1] xs S = .ok (.dat (.lst xs)) S := by
    have := jK (cl := false) (t := .nm 1) (e := aN (aW n) (aB (aE 1) aJ)) (ρ := [some (.dat (.lst xs)), none]) (S := S) (f := fun x : PH.D => x) (g := fun x : PH.D => x) (xs := xs) (vs := [1]) (sz hl) fun x hx => ⟨_, rfl, by
     have hd' : PH.D.hts xs + 1 < n + 1 := hd;have h1 := pA hx;have e := ih (S := S) (oI hp.2 hx) (by omega)
     show (aN (aW n) (aB (aE 1) aJ)) [some (.dat (.lst xs)), some (.dat x)] S = _
     simp! [e]⟩
    rw [List.map_id'] at this;exact this
   simp! [Fh, lc];rfl
  | tup xs =>
   have hl := hp.1;have lc : Dq false (.nm 1) fT (aN (aW n) (aB (aE 1) aJ)) [some (.dat (.tup xs)), none] [1] xs S = .ok (.dat (.lst xs)) S := by
    have := jK (cl := false) (t := .nm 1) (e := aN (aW n) (aB (aE 1) aJ)) (ρ := [some (.dat (.tup xs)), none]) (S := S) (f := fun x : PH.D => x) (g := fun x : PH.D => x) (xs := xs) (vs := [1]) (sz hl) fun x hx => ⟨_, rfl, by
     have hd' : PH.D.hts xs + 1 < n + 1 := hd;have h1 := pA hx;have e := ih (S := S) (oI hp.2 hx) (by omega)
     show (aN (aW n) (aB (aE 1) aJ)) [some (.dat (.tup xs)), some (.dat x)] S = _
     simp! [e]⟩
    rw [List.map_id'] at this;exact this
   simp! [Fh, lc];rfl
def T3 (x y z : Nat) : Nat -> Nat := fun g => if g = 0 then x else if g = 1 then y else z
def noEq (x : String) : Er := ⟨"NoEquation", ["place"], [.str (Str.ofString x)]⟩
section
variable {R : aM} {ks : List Int} {n : Nat} {v0 v3 v4 v5 v8 v9 v10 v11 v12 v13 v14 : Option Vl}
theorem draw0 {X : aM} {k : Int} (h2 : 2 <= ks.length) (h1 : 0 < k) (hk : k <= 1000) : ∃ (d : Nat) (ks' : List Int), bB [.cel 0, .dat (.int k)] (PL ks :: X) = .ok (.dat (.int (d : Int))) (PL ks' :: X) /\ (d : Int) < k /\ ks'.length = ks.length := by
 obtain ⟨d, k1, e1, d0, d1, l1⟩ := cH (S := PL ks :: X) (p := 0) (ks := ks) ⟨rfl, h2⟩ (k := k) h1 (by omega)
 rw [bN] at e1;refine ⟨d.toNat, k1, ?_, by omega, l1⟩
 rw [e1, Int.toNat_of_nonneg d0]
end
theorem jX {j : Int} {m : Nat} : eS j (m + 1) = .int j :: eS (j + 1) m := by
 unfold eS;rw [List.range_succ_eq_map, cS, List.map_map]
 show PH.D.int (j + (0 : Nat)) :: _ = _
 congr 1
 ·congr 1; omega
 ·refine lI fun k _ => ?_
  show PH.D.int (j + ((k + 1 : Nat) : Int)) = PH.D.int (j + 1 + (k : Int))
  congr 1; omega
def gD (d : PH.D) (b : Int) : Bool := match d with
 | .int i => decide (0 <= i) && decide (i < b)
 | _ => false
section
variable {S : aM}
theorem wO {xs : List PH.D} (h : PH.D.Pls xs) : ∀ x ∈ xs, x.Pl := by
 induction xs with
 | nil => intro x hx; cases hx
 | cons y r ih =>
  intro x hx;rcases aQ.mp hx with rfl | hx
  ·exact h.1
  ·exact ih h.2 x hx
end
section
variable {S : aM}
theorem nP {d : PH.D} (h : d.Pl) {b : Int} : hJ [.dat d, .dat (.int b)] S = .ok (.dat (.bl (gD d b))) S := by
 rw [Bl];unfold lC;have w : nI [.dat d] S = .ok (.dat (.bl (match d with | .int _ => true | _ => false))) S := by
  rw [DO];unfold nL;cases d with
  | ins c ns xs => exact h.elim
  | dct => exact h.elim
  | opq _ => exact h.elim
  | _ => rfl
 cases d with
 | int i =>
  by_cases h0 : 0 <= i
  ·have e : gD (.int i) b = decide (i < b) := by
    show (decide (0 <= i) && decide (i < b)) = _
    rw [decide_eq_true h0]; rfl
   rw [e];simp! [w, fK, decide_eq_true h0];rfl
  ·have e : gD (.int i) b = false := by
    show (decide (0 <= i) && decide (i < b)) = _
    rw [decide_eq_false h0]; rfl
   rw [e];simp! [w, fK, decide_eq_false h0];rfl
 | ins c ns xs => exact h.elim
 | dct => exact h.elim
 | opq _ => exact h.elim
 | _ => simp! [w]; rfl
def eR (d : PH.D) (n : Int) : Bool := match d with
 | .tup [a, b] => gD a n && gD b 2
 | _ => false
theorem uZ {d : PH.D} (hp : d.Pl) {n : Int} : cZ [.dat d, .dat (.int n)] S = .ok (.dat (.bl (eR d n))) S := by
 rw [qN];unfold fC;cases d with
 | tup xs =>
  have i : ∀ S, fIsi "tuple" (.dat (.tup xs)) S = .ok (.dat (.bl true)) S := fun _ => rfl
  have hl : ∀ S, dJ (.dat (.tup xs)) S = .ok (.dat (.int (xs.length : Int))) S := fun _ => rfl
  match xs, hp with
  | [], _ => rfl
  | [a], _ => rfl
  | [a, b], hp =>
   have w1 := nP (S := S) hp.2.1 (b := n);have w2 := nP (S := S) hp.2.2.1 (b := 2);have e : eR (.tup [a, b]) n = (gD a n && gD b 2) := rfl;rw [e];have i0 : ∀ S, bS (.dat (.tup [a, b])) (.dat (.int 0)) S = .ok (.dat a) S := fun _ => rfl
   have i1 : ∀ S, bS (.dat (.tup [a, b])) (.dat (.int 1)) S = .ok (.dat b) S := fun _ => rfl
   have h2 : ∀ S, dJ (.dat (.tup [a, b])) S = .ok (.dat (.int 2)) S := fun _ => rfl
   have ii : ∀ S, fIsi "tuple" (.dat (.tup [a, b])) S = .ok (.dat (.bl true)) S := fun _ => rfl
   cases q : gD a n with
   | true => rw [q] at w1; simp! [ii, h2, i0, i1, w1, w2]; rfl
   | false => rw [q] at w1; simp! [ii, h2, i0, i1, w1]; rfl
  | a :: b :: c :: r, _ =>
   have ne : ∀ S, zE (.dat (.int (((a :: b :: c :: r).length : Nat) : Int))) (.dat (.int 2)) S = .ok (.dat (.bl true)) S := fun S => by
    show Res.ok (Vl.dat (.bl (!decide ((((a :: b :: c :: r).length : Nat) : Int) = 2)))) S = _
    rw [decide_eq_false (by simp only [cJ]; omega)]
    rfl
   have h2 : ∀ S, dJ (.dat (.tup (a :: b :: c :: r))) S = .ok (.dat (.int (((a :: b :: c :: r).length : Nat) : Int))) S := fun _ => rfl
   have ii : ∀ S, fIsi "tuple" (.dat (.tup (a :: b :: c :: r))) S = .ok (.dat (.bl true)) S := fun _ => rfl
   obtain ⟨z, hz⟩ : ∃ z : Int, z = (((a :: b :: c :: r).length : Nat) : Int) := ⟨_, rfl⟩;rw [<- hz] at ne h2;have nz : ¬ z = 2 := by rw [hz]; simp only [cJ]; omega
   simp! [ii, h2, decide_eq_false nz];rfl
 | ins c ns xs => exact hp.elim
 | dct => exact hp.elim
 | opq _ => exact hp.elim
 | _ => rfl
end
section
variable {S : aM}
def bL : Int -> List PH.D -> Bool
 | _, [] => true
 | l, .int i :: r => if (0 <= i /\ i < 3) /\ l <= i then bL (i + 1) r else false
 | _, _ :: _ => false
def gN (d : PH.D) : Bool := match d with
 | .lst [] => false
 | .lst (x :: r) => bL 0 (x :: r)
 | _ => false
theorem kK {a0 : Option Vl} : ∀ (rest : List PH.D) (l : Int), PH.D.Pls rest -> -10 <= l -> l <= 10 ->
  ∃ l', loop (.nm 2) cY rest [a0, some (.dat (.int l)), none] S = if bL l rest = true then .next [a0, some (.dat (.int l')), none] S else .ret (.dat (.bl false)) S
 | [], l, _, _, _ => ⟨l, by rw [if_pos (show bL l [] = true from rfl)]; rfl⟩
 | x :: r, l, hp, h1, h2 => by
  have w := nP (S := S) hp.1 (b := 3);cases q : gD x 3 with
  | false =>
   refine ⟨0, ?_⟩
   have e : bL l (x :: r) = false := by
    cases x with
    | int i =>
     have q' : (decide (0 <= i) && decide (i < 3)) = false := q;rw [bL, if_neg];intro z;rw [decide_eq_true z.1.1, decide_eq_true z.1.2] at q';cases q'
    | _ => rfl
   rw [q] at w;rw [e, loop];simp only [tJ, dD, bN];rw [cY];simp! [w]
  | true =>
   cases x with
   | int i =>
    have q' : (decide (0 <= i) && decide (i < 3)) = true := q;rw [fO, decide_eq_true_eq, decide_eq_true_eq] at q';rw [q] at w
    by_cases hl : i < l
    ·refine ⟨0, ?_⟩
     have e : bL l (.int i :: r) = false := by
      rw [bL, if_neg];intro z;omega
     rw [e, loop];simp only [tJ, dD, bN];rw [cY];simp! [w, decide_eq_true hl]
    ·obtain ⟨l', ih⟩ := kK (a0 := a0) r (i + 1) hp.2 (by omega) (by omega)
     refine ⟨l', ?_⟩
     have e : bL l (.int i :: r) = bL (i + 1) r := by
      rw [bL, if_pos ⟨q', by omega⟩]
     rw [e, <- ih, loop];simp only [tJ, dD, bN];rw [cY];simp! [w, decide_eq_false hl]
   | _ => cases q
theorem C7 {d : PH.D} (hp : d.Pl) : fH [.dat d] S = .ok (.dat (.bl (gN d))) S := by
 rw [uV];unfold gR;cases d with
 | lst xs =>
  cases xs with
  | nil => rfl
  | cons x r =>
   obtain ⟨l', lp⟩ := kK (S := S) (a0 := some (.dat (.lst (x :: r)))) (x :: r) 0 hp.2 (by decide) (by decide)
   have i : ∀ S, fIsi "list" (.dat (.lst (x :: r))) S = .ok (.dat (.bl true)) S := fun _ => rfl
   have it : ∀ S, itemsOf (.dat (.lst (x :: r))) S = .ok (x :: r) S := fun _ => rfl
   have tt : ∀ ρ : Ev, lk ρ 0 = some (.dat (.lst (x :: r))) -> aZ (aE 0) ρ S = .ok true S := fun ρ h => by
    unfold aZ;simp! [h];rfl
   have t0 := tt [some (.dat (.lst (x :: r))), none, none] rfl;have e : gN (.lst (x :: r)) = bL 0 (x :: r) := rfl;rw [e]
   by_cases h : bL 0 (x :: r) = true
   ·rw [if_pos h] at lp
    rw [h];simp! [i, t0, it, lp];rfl
   ·rw [if_neg h] at lp
    rw [show bL 0 (x :: r) = false by simpa using h]
    simp! [i, t0, it, lp];rfl
 | ins c ns xs => exact hp.elim
 | dct => exact hp.elim
 | opq _ => exact hp.elim
 | _ => rfl
def iU (d : PH.D) (n : Int) : Bool := match d with
 | .lst xs => decide (1 <= xs.length) && decide (xs.length <= 3) && xs.all fun x => eR x n
 | _ => false
theorem G7 {α : Type} (f : α -> Bool) (xs : List α) : qK (.dat (.lst (xs.map fun x => PH.D.bl (f x)))) S = .ok (.dat (.bl (xs.all f))) S := by
 have : ∀ xs : List α, lH (xs.map fun x => PH.D.bl (f x)) = some (xs.map f) := fun xs => by
  induction xs with
  | nil => rfl
  | cons x r ih => simp only [cS, lH, ih]
 simp only [qK, eD, this]
 congr 3
 simp
theorem A2 {d : PH.D} (hp : d.Pl) {n : Int} : dR [.dat d, .dat (.int n), .dat (.int 3)] S = .ok (.dat (.bl (iU d n))) S := by
 rw [nD];unfold dU;cases d with
 | lst xs =>
  have i : ∀ S, fIsi "list" (.dat (.lst xs)) S = .ok (.dat (.bl true)) S := fun _ => rfl
  have it : ∀ S, itemsOf (.dat (.lst xs)) S = .ok xs S := fun _ => rfl
  have hl : ∀ S, dJ (.dat (.lst xs)) S = .ok (.dat (.int (xs.length : Int))) S := fun _ => rfl
  have lc : Dq false (.nm 3) fT (aN cZ (aB (aE 3) (aB (aE 1) aJ))) [some (.dat (.lst xs)), some (.dat (.int n)), some (.dat (.int 3)), none] [3] xs S = .ok (.dat (.lst (xs.map fun x => PH.D.bl (eR x n)))) S := by
   have k := jK (cl := false) (t := .nm 3) (e := aN cZ (aB (aE 3) (aB (aE 1) aJ))) (ρ := [some (.dat (.lst xs)), some (.dat (.int n)), some (.dat (.int 3)), none]) (S := S) (f := id) (g := fun x => PH.D.bl (eR x n)) (xs := xs) (vs := [3]) (sz (by have := hp.1; omega)) fun x hx => ⟨_, rfl, by
    have := uZ (S := S) (wO hp.2 x hx) (n := n);simp! [this, id]⟩
   rw [List.map_id] at k;rw [k];rfl
  have al := G7 (S := S) (fun x => eR x n) xs
  by_cases h1 : (1 : Int) <= (xs.length : Int)
  ·by_cases h3 : (xs.length : Int) <= 3
   ·have e : iU (.lst xs) n = xs.all fun x => eR x n := by
     show (decide (1 <= xs.length) && decide (xs.length <= 3) && xs.all fun x => eR x n) = _
     rw [decide_eq_true (by omega), decide_eq_true (by omega)]
     rfl
    rw [e];simp! [i, hl, fK, decide_eq_true h1, decide_eq_true h3, it, lc, al];rfl
   ·have e : iU (.lst xs) n = false := by
     show (decide (1 <= xs.length) && decide (xs.length <= 3) && xs.all fun x => eR x n) = _
     rw [decide_eq_false (show ¬ xs.length <= 3 by omega), Bool.and_false]
     rfl
    rw [e];simp! [i, hl, fK, decide_eq_true h1, decide_eq_false h3];rfl
  ·have e : iU (.lst xs) n = false := by
    show (decide (1 <= xs.length) && decide (xs.length <= 3) && xs.all fun x => eR x n) = _
    rw [decide_eq_false (show ¬ 1 <= xs.length by omega)]
    rfl
   rw [e];simp! [i, hl, fK, decide_eq_false h1];rfl
 | ins c ns xs => exact hp.elim
 | dct => exact hp.elim
 | opq _ => exact hp.elim
 | _ => rfl
end
section
variable {bs : List (List Stt)} {T T' : Nat -> Nat} {X : Nat} {S : aM} {qs : List Eqn} {G : List Plc -> List (List En)} {r : Option (List Plc) × List PH.D} {p : Nat} {ks : List Int}
theorem rC {xs : List PH.D} {i : Int} (h0 : 0 <= i) (h1 : i < xs.length) : ∃ d, d ∈ xs /\ ∀ S : aM, bS (.dat (.lst xs)) (.dat (.int i)) S = .ok (.dat d) S := by
 obtain ⟨n, rfl⟩ : ∃ n : Nat, i = (n : Int) := ⟨i.toNat, by omega⟩
 have hn : n < xs.length := by omega
 exact ⟨xs[n], iQ hn, fun S => ixLk (bI hn)⟩
end
def wd60 : List Str := ["home", "swap", "undo", "first", "last", "ring"]
def mm60 : List Int := [1, 2, 2, 2, 2, 3]
def ll60 : List (List Int) := [[0], [0, 1], [0, 1], [0, 1], [0, 1], [0, 1, 2]]
def rr60 : List (List Int) := [[], [1, 0], [], [0], [1], [1, 2, 0]]
def words60 : List (Str × PH.D) := [("home", .tup [.int 1, .tup [.int 0], .tup []]), ("swap", .tup [.int 2, .tup [.int 0, .int 1], .tup [.int 1, .int 0]]), ("undo", .tup [.int 2, .tup [.int 0, .int 1], .tup []]), ("first", .tup [.int 2, .tup [.int 0, .int 1], .tup [.int 0]]), ("last", .tup [.int 2, .tup [.int 0, .int 1], .tup [.int 1]]), ("ring", .tup [.int 3, .tup [.int 0, .int 1, .int 2], .tup [.int 1, .int 2, .int 0]])]
def lG : PH.D -> Option Nat
 | .str s => if s = "home" then some 0 else if s = "swap" then some 1 else if s = "undo" then some 2 else if s = "first" then some 3 else if s = "last" then some 4 else if s = "ring" then some 5 else none
 | _ => none
def len60 : PH.D -> Int
 | .lst xs => (xs.length : Int)
 | _ => 0
def iD (xs : List Int) : PH.D := .lst (xs.map PH.D.int)
def C9 (r : PH.D) : PH.D := match r with
 | .non => iD [0, 1, 2]
 | d => d
inductive Du60 where
 | no (x : String) | ok (k : Nat)
def EY (k : Nat) (r : PH.D) : Du60 := match r with
 | .non => .ok k
 | r => if gN r = true then .ok k else .no "parts"
def eL (w v r : PH.D) : Du60 := match lG w with
 | none => .no "equation"
 | some k => if iU v 3 = true /\ len60 v = mm60.getD k 0 then EY k r else .no "variables"
def hY (v r : PH.D) : Du60 -> PH.D
 | .no x => .tup [.str "refused", .str x]
 | .ok k => .tup [.str "told", .tup [v, iD (ll60.getD k []), iD (rr60.getD k []), C9 r]]
theorem rJ {w : PH.D} {k : Nat} (h : lG w = some k) : k < 6 /\ w = .str (wd60.getD k "") := by
 cases w with
 | str s =>
  unfold lG at h;dsimp only at h
  repeat' (split at h)
  all_goals first | (cases h; done) | skip
  all_goals (rename_i e; cases h; subst e; exact ⟨by decide, rfl⟩)
 | _ => cases h
theorem EA {s : Str} (h : lG (.str s) = none) : ∀ x ∈ wd60, s ≠ x := by
 unfold lG at h;dsimp only at h;intro x hx;simp only [wd60, aQ, bC, or_false] at hx
 repeat' (split at h)
 all_goals first | (cases h; done) | skip
 rcases hx with rfl | rfl | rfl | rfl | rfl | rfl <;> assumption
theorem CF {s : Str} (h : lG (.str s) = none) : words60.lookup s = none := by
 have := EA h;have ne : ∀ x ∈ wd60, (s == x) = false := fun x hx => by simpa using this x hx
 unfold words60;simp only [List.lookup];rw [ne "home" (by decide +kernel), ne "swap" (by decide +kernel), ne "undo" (by decide +kernel), ne "first" (by decide +kernel), ne "last" (by decide +kernel), ne "ring" (by decide +kernel)]
def RP (r : PH.D) : Prop := (r.Pl /\ r.ht <= 3) \/ r = .dct
theorem wQ {S : aM} {r : PH.D} (h : RP r) : fH [.dat r] S = .ok (.dat (.bl (gN r))) S := by
 rcases h with h | rfl
 ·exact C7 h.1
 ·rfl
theorem xE {S : aM} {k : Nat} (hk : k < 6) : kD words60 (.dat (.str (wd60.getD k ""))) S = .ok (.dat (.tup [.int (mm60.getD k 0), .tup ((ll60.getD k []).map PH.D.int), .tup ((rr60.getD k []).map PH.D.int)])) S /\ gG true words60 (.dat (.str (wd60.getD k ""))) S = .ok (.dat (.bl false)) S := by
 rcases (by omega : k = 0 \/ k = 1 \/ k = 2 \/ k = 3 \/ k = 4 \/ k = 5) with rfl | rfl | rfl | rfl | rfl | rfl <;> exact ⟨rfl, rfl⟩
theorem fno60 {S : aM} {s : Str} (h : lG (.str s) = none) : gG true words60 (.dat (.str s)) S = .ok (.dat (.bl true)) S := by
 unfold gG;dsimp only;rw [if_pos rfl, CF h];rfl
theorem lR {r : PH.D} (h : gN r = true) : ∃ xs, r = .lst xs := by
 cases r with
 | lst xs => exact ⟨xs, rfl⟩
 | _ => cases h
theorem tP {v : PH.D} {n : Int} (h : iU v n = true) : ∃ xs, v = .lst xs := by
 cases v with
 | lst xs => exact ⟨xs, rfl⟩
 | _ => cases h
section
variable {S : aM} {w v r : PH.D}
def kE (v r : PH.D) (k : Nat) : List Cell := (match r with
  | .lst xs => [.lst [.int 0, .int 1, .int 2], .lst xs]
  | _ => [.lst [.int 0, .int 1, .int 2]]) ++ [(match v with
  | .lst xs => .lst xs
  | _ => .dead), .lst ((ll60.getD k []).map PH.D.int), .lst ((rr60.getD k []).map PH.D.int)]
def oZ (r : PH.D) (n : Nat) : List TIt := match r with
  | .lst _ => [.inr (n + 2), .inr (n + 3), .inr (n + 4), .inr (n + 1)]
  | _ => [.inr (n + 1), .inr (n + 2), .inr (n + 3), .inr n]
theorem isn60 (hn : r ≠ .non) : eV true (.dat r) (.dat .non) S = .ok (.dat (.bl true)) S := by
 cases r <;> first | exact absurd rfl hn | rfl
theorem AR {k : Nat} (hn : r ≠ .non) : EY k r = if gN r = true then .ok k else .no "parts" := by
 cases r <;> first | exact absurd rfl hn | rfl
theorem vI {x : String} (hw : w.Pl) (hv : v.Pl) (hr : RP r) (h : eL w v r = .no x) : eB [.dat w, .dat v, .dat r] S = .err (noEq x) S := by
 rw [rL];unfold iA;cases q : lG w with
 | none =>
  have e : x = "equation" := by
   unfold eL at h;rw [q] at h;cases h;rfl
  subst e;cases w with
  | str s =>
   have i : ∀ S, fIsi "str" (.dat (.str s)) S = .ok (.dat (.bl true)) S := fun _ => rfl
   have kd : ∀ S, gG true words60 (.dat (.str s)) S = .ok (.dat (.bl true)) S := fun S => fno60 q
   unfold words60 at kd;simp! [i, kd];rfl
  | ins c ns xs => exact hw.elim
  | dct => exact hw.elim
  | opq _ => exact hw.elim
  | _ => rfl
 | some k =>
  obtain ⟨hk, rfl⟩ := rJ q;unfold eL at h;rw [q] at h;have va := A2 (S := S) hv (n := 3);have i : ∀ S, fIsi "str" (.dat (.str (wd60.getD k ""))) S = .ok (.dat (.bl true)) S := fun _ => rfl
  have kd : ∀ S, gG true words60 (.dat (.str (wd60.getD k ""))) S = .ok (.dat (.bl false)) S := fun S => (xE hk).2
  have ki : ∀ S, kD words60 (.dat (.str (wd60.getD k ""))) S = .ok (.dat (.tup [.int (mm60.getD k 0), .tup ((ll60.getD k []).map PH.D.int), .tup ((rr60.getD k []).map PH.D.int)])) S := fun S => (xE hk).1
  unfold words60 at kd ki;dsimp only at h;cases q1 : iU v 3 with
  | false =>
   rw [q1] at h va;rw [if_neg (by simp)] at h
   cases h;simp! [i, kd, ki, va];rfl
  | true =>
   obtain ⟨xs, rfl⟩ := tP q1;rw [q1] at va;have hl : ∀ S, dJ (.dat (.lst xs)) S = .ok (.dat (.int (xs.length : Int))) S := fun _ => rfl
   by_cases q2 : (xs.length : Int) = mm60.getD k 0
   ·rw [if_pos ⟨q1, q2⟩] at h
    have pa := wQ (S := S) hr
    by_cases hn : r = .non
    ·subst hn; cases h
    ·have isn : ∀ S, eV true (.dat r) (.dat .non) S = .ok (.dat (.bl true)) S := fun S => isn60 hn
     rw [AR hn] at h;split at h
     ·cases h
     ·rename_i q3
      cases h;rw [Bool.eq_false_iff.mpr q3] at pa;simp! [i, kd, ki, va, hl, decide_eq_true q2, isn, pa];rfl
   ·rw [if_neg (fun z => q2 z.2)] at h
    cases h;simp! [i, kd, ki, va, hl, decide_eq_false q2];rfl
theorem oQ {k : Nat} (hw : w.Pl) (hv : v.Pl) (hr : RP r) (h : eL w v r = .ok k) : eB [.dat w, .dat v, .dat r] S = .ok (.tc (oZ r S.length)) (S ++ kE v r k) /\ k < 6 /\ (∃ xs, v = .lst xs) /\ (r = .non \/ ∃ xs, r = .lst xs) := by
 rw [rL];unfold iA;cases q : lG w with
 | none =>
  unfold eL at h;rw [q] at h;cases h
 | some k' =>
  obtain ⟨hk, rfl⟩ := rJ q;unfold eL at h;rw [q] at h;have va := A2 (S := S) hv (n := 3);have i : ∀ S, fIsi "str" (.dat (.str (wd60.getD k' ""))) S = .ok (.dat (.bl true)) S := fun _ => rfl
  have kd : ∀ S, gG true words60 (.dat (.str (wd60.getD k' ""))) S = .ok (.dat (.bl false)) S := fun S => (xE hk).2
  have ki : ∀ S, kD words60 (.dat (.str (wd60.getD k' ""))) S = .ok (.dat (.tup [.int (mm60.getD k' 0), .tup ((ll60.getD k' []).map PH.D.int), .tup ((rr60.getD k' []).map PH.D.int)])) S := fun S => (xE hk).1
  unfold words60 at kd ki;dsimp only at h;split at h
  ·rename_i q1
   obtain ⟨xs, rfl⟩ := tP q1.1;rw [q1.1] at va;have q2 : (xs.length : Int) = mm60.getD k' 0 := q1.2;have hl : ∀ S, dJ (.dat (.lst xs)) S = .ok (.dat (.int (xs.length : Int))) S := fun _ => rfl
   have nl : newL true [.int 0, .int 1, .int 2] S = .ok (.cel S.length) (S ++ [.lst [.int 0, .int 1, .int 2]]) := rfl;have li : ∀ (T : aM) (ys : List PH.D), gE true (.dat (.lst ys)) T = .ok (.cel T.length) (T ++ [.lst ys]) := fun _ _ => rfl
   have lt : ∀ (T : aM) (ys : List PH.D), gE true (.dat (.tup ys)) T = .ok (.cel T.length) (T ++ [.lst ys]) := fun _ _ => rfl
   have kt : ∀ (T : aM) (a b c d : Nat), Ex [.cel a, .cel b, .cel c, .cel d] T = .ok (.tc [.inr a, .inr b, .inr c, .inr d]) T := fun _ _ _ _ _ => rfl
   cases r with
   | non =>
    cases h;refine ⟨?_, hk, ⟨xs, rfl⟩, .inl rfl⟩
    have isn0 : ∀ S, eV true (.dat .non) (.dat .non) S = .ok (.dat (.bl false)) S := fun _ => rfl
    simp! [isn0, i, kd, ki, va, hl, decide_eq_true q2, nl, li, lt, sR, kt];simp only [oZ, kE, cM, mG, xS, List.append_assoc, cK, bW];rfl
   | lst ys =>
    rw [AR (by simp)] at h
    split at h
    ·rename_i q3
     cases h;have pa := wQ (S := S) hr;rw [q3] at pa;refine ⟨?_, hk, ⟨xs, rfl⟩, .inr ⟨ys, rfl⟩⟩
     have isn : ∀ S, eV true (.dat (.lst ys)) (.dat .non) S = .ok (.dat (.bl true)) S := fun _ => rfl
     simp! [i, kd, ki, va, hl, decide_eq_true q2, isn, pa, nl, li, lt, sR, kt];simp only [oZ, kE, cM, mG, xS, List.append_assoc, cK, bW];rfl
    ·cases h
   | _ =>
    rw [AR (by simp)] at h
    split at h
    ·rename_i q3
     obtain ⟨ys, e⟩ := lR q3;cases e
    ·cases h
  ·cases h
end
section
variable {S : aM} {w v r : PH.D}
theorem Ag {d : PH.D} (h : d.Pl) {b : Int} : dC [.dat d, .dat (.int 0), .dat (.int b)] S = .ok (.dat (.bl (gD d (b + 1)))) S := by
 rw [qP];unfold fE;cases d with
 | int i =>
  have e : gD (.int i) (b + 1) = (decide (0 <= i) && decide (i <= b)) := by
   show (decide (0 <= i) && decide (i < b + 1)) = _
   congr 1
   exact decide_eq_decide.mpr ⟨fun h => by omega, fun h => by omega⟩
  rw [e]
  by_cases h0 : 0 <= i
  ·simp! [decide_eq_true h0]
   rfl
  ·simp! [decide_eq_false h0]
   rfl
 | ins c ns xs => exact h.elim
 | dct => exact h.elim
 | opq _ => exact h.elim
 | _ => rfl
theorem var60 {d : PH.D} (h : d.Pl) : fR [.dat d] S = .ok (.dat (.bl (eR d 3))) S := by
 rw [tF];unfold fV;cases d with
 | tup xs =>
  have i : ∀ S, fIsi "tuple" (.dat (.tup xs)) S = .ok (.dat (.bl true)) S := fun _ => rfl
  match xs, h with
  | [], _ => rfl
  | [_], _ => rfl
  | [a, b], h =>
   have a1 := Ag (S := S) (d := a) h.2.1 (b := 2);have b1 := Ag (S := S) (d := b) h.2.2.1 (b := 1);have l2 : ∀ S, dJ (.dat (.tup [a, b])) S = .ok (.dat (.int 2)) S := fun _ => rfl
   have i0 : ∀ S, bS (.dat (.tup [a, b])) (.dat (.int 0)) S = .ok (.dat a) S := fun _ => rfl
   have i1 : ∀ S, bS (.dat (.tup [a, b])) (.dat (.int 1)) S = .ok (.dat b) S := fun _ => rfl
   show _ = Res.ok (Vl.dat (.bl (gD a 3 && gD b 2))) S
   rw [show (2 : Int) + 1 = 3 from rfl] at a1
   rw [show (1 : Int) + 1 = 2 from rfl] at b1
   cases q : gD a 3 with
   | false =>
    rw [q] at a1;simp! [i, l2, i0, a1];rfl
   | true =>
    rw [q] at a1;simp! [i, l2, i0, i1, a1, b1];rfl
  | a :: b :: c :: s, _ =>
   have hl : ∀ S, dJ (.dat (.tup (a :: b :: c :: s))) S = .ok (.dat (.int (((a :: b :: c :: s).length : Nat) : Int))) S := fun _ => rfl
   obtain ⟨m, hm⟩ : ∃ m : Int, m = (((a :: b :: c :: s).length : Nat) : Int) := ⟨_, rfl⟩;rw [<- hm] at hl;have n2 : ¬ m = 2 := by rw [hm]; simp only [cJ]; omega
   have i' : ∀ S, fIsi "tuple" (.dat (.tup (a :: b :: c :: s))) S = .ok (.dat (.bl true)) S := fun _ => rfl
   simp! [i', hl, decide_eq_false n2];rfl
 | ins c ns xs => exact h.elim
 | dct => exact h.elim
 | opq _ => exact h.elim
 | _ => rfl
theorem tO {a0 a1 a2 a3 a4 a5 a6 : Option Vl} {x : PH.D} (h : x.Pl) : dY [a0, a1, a2, a3, a4, a5, a6, some (.dat x)] S = if eR x 3 = true then .next [a0, a1, a2, a3, a4, a5, a6, none] S else .ret (.dat (.tup [.str "refused", .str "variables"])) S := by
 have va := var60 (S := S) h;unfold dY;cases q : eR x 3 with
 | true => rw [q] at va; simp! [va]
 | false => rw [q] at va; simp! [va]
theorem mI {a0 a1 a2 a3 a4 a5 a6 : Option Vl} : ∀ xs : List PH.D, PH.D.Pls xs -> loop (.nm 7) dY xs [a0, a1, a2, a3, a4, a5, a6, none] S = if xs.all (fun x => eR x 3) = true then .next [a0, a1, a2, a3, a4, a5, a6, none] S else .ret (.dat (.tup [.str "refused", .str "variables"])) S
 | [], _ => rfl
 | x :: r, h => by
  have ih := mI (a0 := a0) (a1 := a1) (a2 := a2) (a3 := a3) (a4 := a4) (a5 := a5) (a6 := a6) r h.2;have t := tO (S := S) (a0 := a0) (a1 := a1) (a2 := a2) (a3 := a3) (a4 := a4) (a5 := a5) (a6 := a6) h.1;rw [lK];cases q : eR x 3 with
  | true =>
   rw [q, if_pos rfl] at t;rw [Bool.true_and, <- ih];exact hQ (ρ1 := [a0, a1, a2, a3, a4, a5, a6, some (.dat x)]) rfl t
  | false =>
   rw [q, if_neg (by simp)] at t
   rw [Bool.false_and, if_neg (by simp), loop]
   simp only [tJ, mN, dD, bN];rw [t]
theorem jW {xs : List PH.D} (hp : PH.D.Pls xs) (hl : xs.length <= 1000) : ∀ (rest : List PH.D) (k : Nat) (l : Int), xs.drop k = rest -> (k = 0 /\ l = 0 \/ ∃ i : Int, 0 < k /\ xs[k - 1]? = some (.int i) /\ l = i + 1 /\ 0 <= i) ->
  loop (.nm 1) bT (eS (k : Int) rest.length) [some (.dat (.lst xs)), none] S = if bL l rest = true then .next [some (.dat (.lst xs)), none] S else .ret (.dat (.bl false)) S
 | [], k, l, _, _ => rfl
 | x :: r, k, l, hd, hk => by
  have hlt : k < xs.length := by
   rcases Nat.lt_or_ge k xs.length with h | h
   ·exact h
   ·rw [List.drop_eq_nil_iff.mpr h] at hd; cases hd
  have hx : xs[k]? = some x := by
   rw [cO hlt] at hd;rw [bI hlt, (List.cons.inj hd).1]
  have hr : xs.drop (k + 1) = r := by
   rw [cO hlt] at hd;exact (List.cons.inj hd).2
  have px := wO hp x (fY hx);have ix : ∀ T, bS (.dat (.lst xs)) (.dat (.int (k : Int))) T = .ok (.dat x) T := fun T => FB rfl hx
  have ii := Ag (S := S) px (b := 2);rw [show (2 : Int) + 1 = 3 from rfl] at ii
  rw [cJ, jX];have stop : bT [some (.dat (.lst xs)), some (.dat (.int (k : Int)))] S = .ret (.dat (.bl false)) S -> loop (.nm 1) bT (.int (k : Int) :: eS ((k : Int) + 1) r.length) [some (.dat (.lst xs)), none] S = .ret (.dat (.bl false)) S := fun t => by
   rw [loop];simp only [tJ, mN, dD, bN];rw [t]
  cases q : gD x 3 with
  | false =>
   rw [q] at ii;have e : bL l (x :: r) = false := by
    cases x with
    | int i =>
     have : ¬ (0 <= i /\ i < 3) := fun z => by
      have : (decide (0 <= i) && decide (i < 3)) = false := q;rw [decide_eq_true z.1, decide_eq_true z.2] at this;cases this
     rw [bL, if_neg (fun z => this z.1)]
    | _ => rfl
   rw [e, if_neg (by simp)]
   refine stop ?_
   unfold bT;simp! [ix, ii]
  | true =>
   rw [q] at ii;cases x with
   | int i =>
    have hi : 0 <= i /\ i < 3 := by
     have : (decide (0 <= i) && decide (i < 3)) = true := q
     simpa using this
    rcases hk with ⟨rfl, rfl⟩ | ⟨p, hk0, hp', rfl, hp0⟩
    ·have ix0 : ∀ T, bS (.dat (.lst xs)) (.dat (.int 0)) T = .ok (.dat (.int i)) T := ix
     have t : bT [some (.dat (.lst xs)), some (.dat (.int 0))] S = .next [some (.dat (.lst xs)), none] S := by
      unfold bT;simp! [ix0, ii]
     have eg : bL 0 (.int i :: r) = bL (i + 1) r := by rw [bL]; exact if_pos ⟨hi, hi.1⟩
     have ih := jW hp hl r 1 (i + 1) hr (.inr ⟨i, by decide, hx, rfl, hi.1⟩)
     rw [eg, <- ih];exact hQ (ρ1 := [some (.dat (.lst xs)), some (.dat (.int 0))]) rfl t
    ·have k1 : (k : Int) - 1 = ((k - 1 : Nat) : Int) := by omega
     have ixp : ∀ T, bS (.dat (.lst xs)) (.dat (.int ((k - 1 : Nat) : Int))) T = .ok (.dat (.int p)) T := fun T => FB rfl hp'
     by_cases hle : p + 1 <= i
     ·have t : bT [some (.dat (.lst xs)), some (.dat (.int (k : Int)))] S = .next [some (.dat (.lst xs)), none] S := by
       unfold bT;simp! [ix, ii, decide_eq_true (show (k : Int) > 0 by omega), k1, ixp, decide_eq_false (show ¬ i <= p by omega)]
      have ih := jW hp hl r (k + 1) (i + 1) hr (.inr ⟨i, by omega, by rw [Nat.add_sub_cancel]; exact hx, rfl, hi.1⟩)
      have eg : bL (p + 1) (.int i :: r) = bL (i + 1) r := by rw [bL]; exact if_pos ⟨hi, hle⟩
      rw [eg, <- ih, show ((k : Int) + 1) = ((k + 1 : Nat) : Int) by omega]
      exact hQ (ρ1 := [some (.dat (.lst xs)), some (.dat (.int (k : Int)))]) rfl t
     ·have eg : bL (p + 1) (.int i :: r) = false := by rw [bL]; exact if_neg fun z => hle z.2
      rw [eg, if_neg (by simp)]
      refine stop ?_
      unfold bT;simp! [ix, ii, decide_eq_true (show (k : Int) > 0 by omega), k1, ixp, decide_eq_true (show i <= p by omega)]
   | _ => cases q
theorem row60 (h : RP r) : hL [.dat r] S = .ok (.dat (.bl (gN r))) S := by
 rcases h with h | rfl
 ·rw [zN]
  unfold jN;cases r with
  | lst xs =>
   cases xs with
   | nil => rfl
   | cons x s =>
    have i : ∀ S, fIsi "list" (.dat (.lst (x :: s))) S = .ok (.dat (.bl true)) S := fun _ => rfl
    have hl : ∀ S, dJ (.dat (.lst (x :: s))) S = .ok (.dat (.int (((x :: s).length : Nat) : Int))) S := fun _ => rfl
    have rg : ∀ T, oX (.dat (.int (((x :: s).length : Nat) : Int))) T = .ok (eS 0 (x :: s).length) T := fun T => by
     have := h.1.1;rw [kW (by omega) (by omega), fF]
    have n1 : ¬ (((x :: s).length : Nat) : Int) < 1 := by simp only [cJ]; omega
    have lp := jW (S := S) h.1.2 h.1.1 (x :: s) 0 0 rfl (.inl ⟨rfl, rfl⟩);have lp : loop (.nm 1) bT (eS 0 (s.length + 1)) [some (.dat (.lst (x :: s))), none] S = _ := lp
    show _ = Res.ok (Vl.dat (.bl (bL 0 (x :: s)))) S
    generalize hm : (((x :: s).length : Nat) : Int) = m at hl rg n1;cases q : bL 0 (x :: s) with
    | true =>
     rw [q, if_pos rfl] at lp;simp! [i, hl, decide_eq_false n1, rg, lp];rfl
    | false =>
     rw [q, if_neg (by simp)] at lp
     simp! [i, hl, decide_eq_false n1, rg, lp];rfl
  | ins c ns xs => exact h.1.elim
  | dct => rfl
  | opq _ => exact h.1.elim
  | _ => rfl
 ·rfl
end
theorem vC : ∀ ws : List Str, D.pys (ws.map D.str) = some (ws.map PyData.str)
 | [] => rfl
 | w :: r => by rw [cS, D.pys, vC r]; rfl
theorem in60 {neg : Bool} {w : Str} {ws : List Str} {S : aM} {b : Bool} (h : shp (.str w) (.list (ws.map PyData.str)) = true) (hb : ((ws.map PyData.str).any fun z => PyData.eqv z (.str w)) = b) : vX neg (.dat (.str w)) (.dat (.lst (ws.map D.str))) S = .ok (.dat (.bl (if neg then !b else b))) S := by
 have e : jY S (.dat (.lst (ws.map D.str))) = some (.list (ws.map PyData.str)) := by
  show D.py _ = _
  rw [D.py, vC]
 unfold vX;rw [e];dsimp only [jY, D.py];rw [if_pos h, hb]
def tI : PH.D := .lst (wd60.map PH.D.str)
section
variable {S : aM} {w v r : PH.D}
theorem dM : bY [] S = .ok (.dat tI) S := rfl
theorem wX {neg : Bool} {s : Str} (hs : PyData.strOk s = true) : vX neg (.dat (.str s)) (.dat tI) S = .ok (.dat (.bl (if neg then (lG (.str s)).isNone else (lG (.str s)).isSome))) S := by
 have sh : shp (.str s) (.list (wd60.map PyData.str)) = true := by
  have h1 : SeqAt.shaped (.str s) = true := by
   show (PyData.strOk s && decide (PyData.depth (.str s) <= 64)) = true
   rw [hs];rfl
  have h2 : SeqAt.shaped (.list (wd60.map PyData.str)) = true := by decide +kernel
  show (SeqAt.shaped (.str s) && SeqAt.shaped (.list (wd60.map PyData.str))) = true
  rw [h1, h2];rfl
 cases q : lG (.str s) with
 | none =>
  have := EA q;have e := in60 (S := S) (neg := neg) (w := s) (ws := wd60) (b := false) sh (by
   rw [List.any_eq_false];intro x hx;obtain ⟨y, hy, rfl⟩ := wD.mp hx;have := this y hy;have e : PyData.eqv (.str y) (.str s) = (y == s) := by first | rfl | simp [PyData.eqv]
   rw [e]
   simpa using fun z => this z.symm)
  unfold tI;rw [e];cases neg <;> rfl
 | some k =>
  obtain ⟨hk, e⟩ := rJ q;cases e;have e := in60 (S := S) (neg := neg) (w := wd60.getD k "") (ws := wd60) (b := true) sh (by
   rcases (by omega : k = 0 \/ k = 1 \/ k = 2 \/ k = 3 \/ k = 4 \/ k = 5) with rfl | rfl | rfl | rfl | rfl | rfl <;> decide +kernel)
  unfold tI;rw [e];cases neg <;> rfl
theorem Ah {k : Nat} (hk : k < 6) : gX (.dat tI) (.dat (.str (wd60.getD k ""))) S = .ok (.dat (.int (k : Int))) S := by
 have e : jY S (.dat tI) = some (.list (wd60.map PyData.str)) := by
  show D.py _ = _
  unfold tI;rw [D.py, vC]
 unfold gX;rw [e];dsimp only [jY, D.py];rcases (by omega : k = 0 \/ k = 1 \/ k = 2 \/ k = 3 \/ k = 4 \/ k = 5) with rfl | rfl | rfl | rfl | rfl | rfl
 ·rw [if_pos ⟨by decide +kernel, by decide +kernel⟩, show sP (wd60.map PyData.str) (.str (wd60.getD 0 "")) = some 0 by decide +kernel]
 ·rw [if_pos ⟨by decide +kernel, by decide +kernel⟩, show sP (wd60.map PyData.str) (.str (wd60.getD 1 "")) = some 1 by decide +kernel]
 ·rw [if_pos ⟨by decide +kernel, by decide +kernel⟩, show sP (wd60.map PyData.str) (.str (wd60.getD 2 "")) = some 2 by decide +kernel]
 ·rw [if_pos ⟨by decide +kernel, by decide +kernel⟩, show sP (wd60.map PyData.str) (.str (wd60.getD 3 "")) = some 3 by decide +kernel]
 ·rw [if_pos ⟨by decide +kernel, by decide +kernel⟩, show sP (wd60.map PyData.str) (.str (wd60.getD 4 "")) = some 4 by decide +kernel]
 ·rw [if_pos ⟨by decide +kernel, by decide +kernel⟩, show sP (wd60.map PyData.str) (.str (wd60.getD 5 "")) = some 5 by decide +kernel]
end
section
variable {S : aM} {w v r : PH.D}
def mmD : PH.D := .lst (mm60.map PH.D.int)
def llD : PH.D := .lst (ll60.map iD)
def rrD : PH.D := .lst (rr60.map iD)
theorem Dd {k : Nat} (hk : k < 6) : bS (.dat mmD) (.dat (.int (k : Int))) S = .ok (.dat (.int (mm60.getD k 0))) S := by
 rcases (by omega : k = 0 \/ k = 1 \/ k = 2 \/ k = 3 \/ k = 4 \/ k = 5) with rfl | rfl | rfl | rfl | rfl | rfl <;> rfl
theorem ll_at {k : Nat} (hk : k < 6) : bS (.dat llD) (.dat (.int (k : Int))) S = .ok (.dat (iD (ll60.getD k []))) S := by
 rcases (by omega : k = 0 \/ k = 1 \/ k = 2 \/ k = 3 \/ k = 4 \/ k = 5) with rfl | rfl | rfl | rfl | rfl | rfl <;> rfl
theorem rr_at {k : Nat} (hk : k < 6) : bS (.dat rrD) (.dat (.int (k : Int))) S = .ok (.dat (iD (rr60.getD k []))) S := by
 rcases (by omega : k = 0 \/ k = 1 \/ k = 2 \/ k = 3 \/ k = 4 \/ k = 5) with rfl | rfl | rfl | rfl | rfl | rfl <;> rfl
theorem De {k : Nat} (hk : k < 6) : 1 <= mm60.getD k 0 /\ mm60.getD k 0 <= 3 := by
 rcases (by omega : k = 0 \/ k = 1 \/ k = 2 \/ k = 3 \/ k = 4 \/ k = 5) with rfl | rfl | rfl | rfl | rfl | rfl <;> decide
abbrev xH : FS := (aO (bG (oV (cU (aZ (m1 (fIsi "str") (aE 0)))) (mB (aR (vX true) (aE 0) (aN bY aJ)))) (aX (cP (aB (mC (.str "refused")) (aB (mC (.str "equation")) aJ)))) aV)
 (aO (bO (yL (aN bY aJ) (aE 0)) (.nm 6))
 (aO (bG (oV (cU (aZ (m1 (fIsi "list") (aE 1)))) (mB (aR zE (m1 dJ (aE 1)) (aR bS (aE 3) (aE 6))))) (aX (cP (aB (mC (.str "refused")) (aB (mC (.str "variables")) aJ)))) aV)
 (aO (kR (jA (aE 1)) (.nm 7) dY)
 (aO (bG (mB (aR (eV false) (aE 2) (mC .non))) (aX (cP (aB (mC (.str "told")) (aB (cP (aB (aN (aW 10) (aB (aE 1) aJ)) (aB (aR bS (aE 4) (aE 6)) (aB (aR bS (aE 5) (aE 6)) (aB (cF false (aB (mC (.int 0)) (aB (mC (.int 1)) (aB (mC (.int 2)) aJ)))) aJ))))) aJ)))) aV)
 (aO (bG (cU (aZ (aN hL (aB (aE 2) aJ)))) (aX (cP (aB (mC (.str "refused")) (aB (mC (.str "parts")) aJ)))) aV)
 (aX (cP (aB (mC (.str "told")) (aB (cP (aB (aN (aW 10) (aB (aE 1) aJ)) (aB (aR bS (aE 4) (aE 6)) (aB (aR bS (aE 5) (aE 6)) (aB (aN (aW 10) (aB (aE 2) aJ)) aJ))))) aJ))))))))))
theorem DG {a b c : Option Vl} : jO [a, b, c, none, none, none, none, none] S = xH [a, b, c, some (.dat mmD), some (.dat llD), some (.dat rrD), none, none] S := (rfl)
theorem BP (hw : w.Pl) (hv : v.Pl /\ v.ht <= 4) (hr : RP r) : hM [.dat w, .dat v, .dat r] S = .ok (.dat (hY v r (eL w v r))) S := by
 rw [zO, DG];unfold xH eL;cases q : lG w with
 | none =>
  cases w with
  | str s =>
   have i : ∀ S, fIsi "str" (.dat (.str s)) S = .ok (.dat (.bl true)) S := fun _ => rfl
   have ni : ∀ S, vX true (.dat (.str s)) (.dat tI) S = .ok (.dat (.bl true)) S := fun S => by
    rw [wX hw, q]; rfl
   simp! [i, dM, ni];rfl
  | ins c ns xs => exact hw.elim
  | dct => exact hw.elim
  | opq _ => exact hw.elim
  | _ => rfl
 | some k =>
  obtain ⟨hk, rfl⟩ := rJ q;obtain ⟨m1, m3⟩ := De hk;have i : ∀ S, fIsi "str" (.dat (.str (wd60.getD k ""))) S = .ok (.dat (.bl true)) S := fun _ => rfl
  have ni : ∀ S, vX true (.dat (.str (wd60.getD k ""))) (.dat tI) S = .ok (.dat (.bl false)) S := fun S => by
   rw [wX hw, q]; rfl
  have ix : ∀ S, gX (.dat tI) (.dat (.str (wd60.getD k ""))) S = .ok (.dat (.int (k : Int))) S := fun S => Ah hk
  have kx : ∀ {b : FE} {ρ : Ev} {S : aM}, F5 b ρ (.dat tI) S = (b ρ S).bind (gX (.dat tI)) := fun {b ρ S} => rfl
  have ma : ∀ S, bS (.dat mmD) (.dat (.int (k : Int))) S = .ok (.dat (.int (mm60.getD k 0))) S := fun S => Dd hk
  have la : ∀ S, bS (.dat llD) (.dat (.int (k : Int))) S = .ok (.dat (iD (ll60.getD k []))) S := fun S => ll_at hk
  have ra : ∀ S, bS (.dat rrD) (.dat (.int (k : Int))) S = .ok (.dat (iD (rr60.getD k []))) S := fun S => rr_at hk
  dsimp only;cases v with
  | lst xs =>
   have il : ∀ S, fIsi "list" (.dat (.lst xs)) S = .ok (.dat (.bl true)) S := fun _ => rfl
   have hl : ∀ S, dJ (.dat (.lst xs)) S = .ok (.dat (.int (xs.length : Int))) S := fun _ => rfl
   have it : ∀ S, itemsOf (.dat (.lst xs)) S = .ok xs S := fun _ => rfl
   by_cases q2 : (xs.length : Int) = mm60.getD k 0
   ·have lp := mI (S := S) (a0 := some (.dat (.str (wd60.getD k "")))) (a1 := some (.dat (.lst xs))) (a2 := some (.dat r)) (a3 := some (.dat mmD)) (a4 := some (.dat llD)) (a5 := some (.dat rrD)) (a6 := some (.dat (.int (k : Int)))) xs hv.1.2
    have hva : iU (.lst xs) 3 = xs.all fun x => eR x 3 := by
     show (decide (1 <= xs.length) && decide (xs.length <= 3) && xs.all fun x => eR x 3) = _
     rw [decide_eq_true (show 1 <= xs.length by omega), decide_eq_true (show xs.length <= 3 by omega)]
     rfl
    cases q1 : xs.all fun x => eR x 3 with
    | false =>
     rw [q1] at lp hva;rw [if_neg (by simp)] at lp
     rw [if_neg (fun z => by rw [hva] at z; cases z.1)]
     simp! [i, dM, ni, pE, kx, ix, il, hl, ma, decide_eq_true q2, it, lp];rfl
    | true =>
     rw [q1] at lp hva;rw [if_pos rfl] at lp;rw [if_pos ⟨hva, q2⟩];have cp := jM 10 (S := S) (d := .lst xs) hv.1 (by have := hv.2; omega)
     by_cases hn : r = .non
     ·subst hn
      have isn : ∀ S, eV false (.dat .non) (.dat .non) S = .ok (.dat (.bl true)) S := fun _ => rfl
      simp! [i, dM, ni, pE, kx, ix, il, hl, ma, decide_eq_true q2, it, lp, isn, cp, la, ra];rfl
     ·have isn : ∀ S, eV false (.dat r) (.dat .non) S = .ok (.dat (.bl false)) S := fun S => by
       cases r <;> first | exact absurd rfl hn | rfl
      have ro := row60 (S := S) hr;rw [AR hn];cases q3 : gN r with
      | false =>
       rw [q3] at ro;simp! [i, dM, ni, pE, kx, ix, il, hl, ma, decide_eq_true q2, it, lp, isn, ro];rfl
      | true =>
       rw [q3] at ro;obtain ⟨ys, rfl⟩ := lR q3;have hp : (PH.D.lst ys).Pl /\ (PH.D.lst ys).ht <= 3 := by
        rcases hr with h | h
        ·exact h
        ·cases h
       have cp2 := jM 10 (S := S) (d := .lst ys) hp.1 (by have := hp.2; omega)
       simp! [i, dM, ni, pE, kx, ix, il, hl, ma, decide_eq_true q2, it, lp, isn, ro, cp, cp2, la, ra];rfl
   ·rw [if_neg (fun z => q2 z.2)]
    simp! [i, dM, ni, pE, kx, ix, il, hl, ma, decide_eq_false q2];rfl
  | ins c ns xs => exact hv.1.elim
  | dct => exact hv.1.elim
  | opq _ => exact hv.1.elim
  | _ =>
   rw [if_neg (fun z => by cases z.1)]
   simp! [i, dM, ni, pE, kx, ix];rfl
end
section
variable {S : aM} {w v r : PH.D}
def lM (r : PH.D) (n : Nat) : Du60 -> Vl
 | .no x => .tc [.inl (.str "refused"), .inl (.str (Str.ofString x))]
 | .ok _ => .tc [.inl (.str "told"), .tup (oZ r n)]
def rR (v r : PH.D) (S : aM) : Du60 -> aM
 | .no _ => S
 | .ok k => S ++ kE v r k
abbrev qR : FS := (bG (aZ (aE 3)) (bO (sM eB .non (aB (aE 0) (aB (aE 1) aJ))) (.nm 5)) (bO (sL 2 eB (aB (aE 0) (aB (aE 1) aJ)) (aE 2)) (.nm 5)))
theorem AY {md : FD} {x y : Vl} {ma : FE} {ρ : Ev} {S : aM} : vN 2 md ma ρ [x, y] S = (ma ρ S).bind (nJ md [x, y]) := rfl
theorem xP (hw : w.Pl) (hv : v.Pl) (hr : RP r) {b : Bool} (hb : b = true -> r = .non) : dE [.dat w, .dat v, .dat r, .dat (.bl b)] S = .ok (lM r S.length (eL w v r)) (rR v r S (eL w v r)) := by
 rw [uW];unfold gS;have kt2 : ∀ (T : aM) (x y : PH.D), Ex [.dat x, .dat y] T = .ok (.tc [.inl x, .inl y]) T := fun _ _ _ => rfl
 have ktt : ∀ (T : aM) (x : PH.D) (ys : List TIt), Ex [.dat x, .tc ys] T = .ok (.tc [.inl x, .tup ys]) T := fun _ _ _ => rfl
 cases q : eL w v r with
 | no x =>
  have nm := vI (S := S) hw hv hr q;have tb : qR [some (.dat w), some (.dat v), some (.dat r), some (.dat (.bl b)), some (.dat .non), some (.dat .non), some (.dat (.bl true)), none] S = .err (noEq x) [some (.dat w), some (.dat v), some (.dat r), some (.dat (.bl b)), some (.dat .non), some (.dat .non), some (.dat (.bl true)), none] S := by
   unfold qR;cases b with
   | true =>
    have := hb rfl;subst this;simp! [sT, pD, cK, bW, nm]
   | false => simp! [sS, AY, lX, cK, bW, nm]
  have tr : mQ ["NoEquation"] qR [("NoEquation", 7, [(4, .f "place"), (6, .is "HomeError" true)])] [some (.dat w), some (.dat v), some (.dat r), some (.dat (.bl b)), some (.dat .non), some (.dat .non), some (.dat (.bl true)), none] S = .next [some (.dat w), some (.dat v), some (.dat r), some (.dat (.bl b)), some (.dat (.str (Str.ofString x))), some (.dat .non), some (.dat (.bl true)), none] S := by
   rw [Am, tb];rfl
  have isn : ∀ S, eV false (.dat .non) (.dat .non) S = .ok (.dat (.bl true)) S := fun _ => rfl
  simp! [tr, isn, sR, kt2];rfl
 | ok k =>
  obtain ⟨nm, hk, ⟨xs, rfl⟩, hrr⟩ := oQ (S := S) hw hv hr q;have tb : qR [some (.dat w), some (.dat (.lst xs)), some (.dat r), some (.dat (.bl b)), some (.dat .non), some (.dat .non), some (.dat (.bl true)), none] S = .next [some (.dat w), some (.dat (.lst xs)), some (.dat r), some (.dat (.bl b)), some (.dat .non), some (.tc (oZ r S.length)), some (.dat (.bl true)), none] (S ++ kE (.lst xs) r k) := by
   unfold qR;cases b with
   | true =>
    have := hb rfl;subst this;simp! [sT, pD, cK, bW, nm]
   | false => simp! [sS, AY, lX, cK, bW, nm]
  have tr : mQ ["NoEquation"] qR [("NoEquation", 7, [(4, .f "place"), (6, .is "HomeError" true)])] [some (.dat w), some (.dat (.lst xs)), some (.dat r), some (.dat (.bl b)), some (.dat .non), some (.dat .non), some (.dat (.bl true)), none] S = .next [some (.dat w), some (.dat (.lst xs)), some (.dat r), some (.dat (.bl b)), some (.dat .non), some (.tc (oZ r S.length)), some (.dat (.bl true)), none] (S ++ kE (.lst xs) r k) := by
   rw [Am, tb];rfl
  have isn : ∀ (ys : List TIt) S, eV false (.tc ys) (.dat .non) S = .ok (.dat (.bl false)) S := fun _ _ => rfl
  simp! [tr, isn, sR, ktt];rfl
end
section
variable {S T C : aM} {w v r : PH.D}
theorem get60 {i : Nat} : (S ++ C)[S.length + i]? = C[i]? := by
 rw [aS (by omega), wF]
theorem mK {i : Nat} {c : Cell} : (S ++ C).set (S.length + i) c = S ++ C.set i c := by
 rw [xT _ _ (by omega), wF]
theorem tN {n k : Nat} {es : List PH.D} (h : T[n]? = some (.lst es)) : Bn T (k + 1) n = some (.lst es) := by
 unfold Bn;rw [h]
theorem EK {d : Du60} (hd : d = eL w v r) (hk : ∀ k, d = .ok k -> (∃ xs, v = .lst xs) /\ (r = .non \/ ∃ ys, r = .lst ys)) : A0 (Bn (rR v r S d) 4) (lM r S.length d) = some (hY v r d) := by
 cases d with
 | no x => rfl
 | ok k =>
  obtain ⟨⟨xs, rfl⟩, rfl | ⟨ys, rfl⟩⟩ := hk k rfl
  ·show A0 (Bn (S ++ [.lst [.int 0, .int 1, .int 2], .lst xs, .lst ((ll60.getD k []).map PH.D.int), .lst ((rr60.getD k []).map PH.D.int)]) 4) (.tc [.inl (.str "told"), .tup [.inr (S.length + 1), .inr (S.length + 2), .inr (S.length + 3), .inr (S.length + 0)]]) = _
   have g1 := tN (k := 3) (T := S ++ [.lst [.int 0, .int 1, .int 2], .lst xs, .lst ((ll60.getD k []).map PH.D.int), .lst ((rr60.getD k []).map PH.D.int)]) (n := S.length + 1) (es := xs) (get60.trans rfl);have g2 := tN (k := 3) (T := S ++ [.lst [.int 0, .int 1, .int 2], .lst xs, .lst ((ll60.getD k []).map PH.D.int), .lst ((rr60.getD k []).map PH.D.int)]) (n := S.length + 2) (es := (ll60.getD k []).map PH.D.int) (get60.trans rfl);have g3 := tN (k := 3) (T := S ++ [.lst [.int 0, .int 1, .int 2], .lst xs, .lst ((ll60.getD k []).map PH.D.int), .lst ((rr60.getD k []).map PH.D.int)]) (n := S.length + 3) (es := (rr60.getD k []).map PH.D.int) (get60.trans rfl);have g0 := tN (k := 3) (T := S ++ [.lst [.int 0, .int 1, .int 2], .lst xs, .lst ((ll60.getD k []).map PH.D.int), .lst ((rr60.getD k []).map PH.D.int)]) (n := S.length + 0) (es := [.int 0, .int 1, .int 2]) (get60.trans rfl);simp only [A0, jH, zT, qA, g1, g2, g3, g0];rfl
  ·show A0 (Bn (S ++ [.lst [.int 0, .int 1, .int 2], .lst ys, .lst xs, .lst ((ll60.getD k []).map PH.D.int), .lst ((rr60.getD k []).map PH.D.int)]) 4) (.tc [.inl (.str "told"), .tup [.inr (S.length + 2), .inr (S.length + 3), .inr (S.length + 4), .inr (S.length + 1)]]) = _
   have g1 := tN (k := 3) (T := S ++ [.lst [.int 0, .int 1, .int 2], .lst ys, .lst xs, .lst ((ll60.getD k []).map PH.D.int), .lst ((rr60.getD k []).map PH.D.int)]) (n := S.length + 1) (es := ys) (get60.trans rfl);have g2 := tN (k := 3) (T := S ++ [.lst [.int 0, .int 1, .int 2], .lst ys, .lst xs, .lst ((ll60.getD k []).map PH.D.int), .lst ((rr60.getD k []).map PH.D.int)]) (n := S.length + 2) (es := xs) (get60.trans rfl);have g3 := tN (k := 3) (T := S ++ [.lst [.int 0, .int 1, .int 2], .lst ys, .lst xs, .lst ((ll60.getD k []).map PH.D.int), .lst ((rr60.getD k []).map PH.D.int)]) (n := S.length + 3) (es := (ll60.getD k []).map PH.D.int) (get60.trans rfl);have g4 := tN (k := 3) (T := S ++ [.lst [.int 0, .int 1, .int 2], .lst ys, .lst xs, .lst ((ll60.getD k []).map PH.D.int), .lst ((rr60.getD k []).map PH.D.int)]) (n := S.length + 4) (es := (rr60.getD k []).map PH.D.int) (get60.trans rfl);simp only [A0, jH, zT, qA, g1, g2, g3, g4];rfl
theorem BO {d : Du60} (hd : d = eL w v r) (hv : v.Pl /\ v.ht <= 4) (hr : RP r) : (hY v r d).Pl /\ (hY v r d).ht < 20 := by
 have s1 : PyData.strOk (Str.ofString "refused") = true := by decide +kernel
 have s2 : PyData.strOk (Str.ofString "told") = true := by decide +kernel
 have s3 : PyData.strOk (Str.ofString "equation") = true := by decide +kernel
 have s4 : PyData.strOk (Str.ofString "variables") = true := by decide +kernel
 have s5 : PyData.strOk (Str.ofString "parts") = true := by decide +kernel
 have iPl : ∀ xs : List Int, xs.length <= 10 -> (iD xs).Pl /\ (iD xs).ht <= 1 := fun xs h => by
  have := AU (k := 0) (ds := xs.map PH.D.int) (by rw [bR]; omega) fun d hd => by
   obtain ⟨i, _, rfl⟩ := wD.mp hd;exact ⟨trivial, cC _⟩
  exact this
 cases d with
 | no x =>
  have hx : PyData.strOk (Str.ofString x) = true := by
   unfold eL at hd;split at hd
   ·cases hd; exact s3
   ·split at hd
    ·unfold EY at hd
     split at hd
     ·cases hd
     ·split at hd
      ·cases hd
      ·cases hd; exact s5
    ·cases hd; exact s4
  refine ⟨?_, ?_⟩
  ·simp [hY, PH.D.Pl, PH.D.Pls, s1, hx]
  ·simp [hY, PH.D.ht, PH.D.hts]
 | ok k =>
  have hk : k < 6 /\ (r = .non \/ ∃ ys, r = .lst ys) := by
   unfold eL at hd;split at hd
   ·cases hd
   ·rename_i k' q
    obtain ⟨h6, _⟩ := rJ q;split at hd
    ·by_cases hn : r = .non
     ·subst hn
      cases hd;exact ⟨h6, .inl rfl⟩
     ·rw [AR hn] at hd
      split at hd
      ·rename_i q3
       cases hd;exact ⟨h6, .inr (lR q3)⟩
      ·cases hd
    ·cases hd
  obtain ⟨h6, hrr⟩ := hk;have l1 := iPl (ll60.getD k []) (by rcases (by omega : k = 0 \/ k = 1 \/ k = 2 \/ k = 3 \/ k = 4 \/ k = 5) with rfl | rfl | rfl | rfl | rfl | rfl <;> decide)
  have l2 := iPl (rr60.getD k []) (by rcases (by omega : k = 0 \/ k = 1 \/ k = 2 \/ k = 3 \/ k = 4 \/ k = 5) with rfl | rfl | rfl | rfl | rfl | rfl <;> decide)
  have l3 : (C9 r).Pl /\ (C9 r).ht <= 3 := by
   rcases hrr with rfl | ⟨ys, rfl⟩
   ·have := iPl [0, 1, 2] (by decide)
    exact ⟨this.1, xR this.2 (by decide)⟩
   ·rcases hr with h | h
    ·exact h
    ·cases h
  refine ⟨⟨by simp, s2, ⟨by simp, hv.1, l1.1, l2.1, l3.1, trivial⟩, trivial⟩, ?_⟩
  have a1 := hv.2;have a2 := l1.2;have a3 := l2.2;have a4 := l3.2
  show max 0 (max (max v.ht (max (iD (ll60.getD k [])).ht (max (iD (rr60.getD k [])).ht (max (C9 r).ht 0))) + 1) 0) + 1 < 20
  omega
theorem vF {d : Du60} (hd : d = eL w v r) (hv : v.Pl /\ v.ht <= 4) (hr : RP r) (hk : ∀ k, d = .ok k -> (∃ xs, v = .lst xs) /\ (r = .non \/ ∃ ys, r = .lst ys)) : F2 (bA 20) [lM r S.length d, .dat (hY v r d)] (rR v r S d) = .ok (.dat (.bl true)) (rR v r S d) := by
 obtain ⟨p1, p2⟩ := BO hd hv hr;refine F0 (es := [hY v r d, hY v r d]) ?_ (oC 20 p1 p2) rfl
 have := EK (S := S) hd hk;rw [jH, this];rfl
def zV (X : aM) : Prop := ∀ c ∈ X, ∃ ds, c = Cell.lst ds
variable {a0 a1 a2 a3 a4 a5 a6 a7 a8 a9 : Option Vl}
theorem app60 {n : Nat} {ds : List PH.D} (h : T[n]? = some (.lst ds)) (hl : ds.length <= 1000) : bX [a0, a1, a2, a3, a4, a5, a6, a7, a8, a9, some (.cel n)] T = .next [a0, a1, a2, a3, a4, a5, a6, a7, a8, a9, none] (T.set n (.lst (ds ++ [.int 7]))) := by
 have ap := B9 (d := .int 7) h (Nat.lt_of_le_of_lt hl (by decide))
 unfold bX;simp! [B4 h, ap]
theorem uF {n : Nat} {ds : List PH.D} {r : List TIt} {o : Out} (h : T[n]? = some (.lst ds)) (hl : ds.length <= 1000) (hr : kU (.nm 10) bX r [a0, a1, a2, a3, a4, a5, a6, a7, a8, a9, none] (T.set n (.lst (ds ++ [.int 7]))) = o) : kU (.nm 10) bX (.inr n :: r) [a0, a1, a2, a3, a4, a5, a6, a7, a8, a9, none] T = o := by
 rw [kU]
 show (match bX [a0, a1, a2, a3, a4, a5, a6, a7, a8, a9, some (.cel n)] T with | .next ρ2 S2 => _ | .cnt ρ2 S2 => _ | .brk ρ2 S2 => _ | .ret d S2 => _ | .err e ρ2 S2 => _ | .stuck => _) = o
 rw [app60 h hl];exact hr
theorem sev60 {k : Nat} (hk : k < 6) {xs : List PH.D} (hx : xs.length <= 1000) (hr : r = .non \/ ∃ ys, r = .lst ys /\ ys.length <= 1000) : ∃ C' : aM, kU (.nm 10) bX (oZ r S.length) [a0, a1, a2, a3, a4, a5, a6, a7, a8, a9, none] (S ++ kE (.lst xs) r k) = .next [a0, a1, a2, a3, a4, a5, a6, a7, a8, a9, none] (S ++ C') /\ zV C' := by
 have l1 : (ll60.getD k []).length <= 10 := by rcases (by omega : k = 0 \/ k = 1 \/ k = 2 \/ k = 3 \/ k = 4 \/ k = 5) with rfl | rfl | rfl | rfl | rfl | rfl <;> decide
 have l2 : (rr60.getD k []).length <= 10 := by rcases (by omega : k = 0 \/ k = 1 \/ k = 2 \/ k = 3 \/ k = 4 \/ k = 5) with rfl | rfl | rfl | rfl | rfl | rfl <;> decide
 rcases hr with rfl | ⟨ys, rfl, hy⟩
 ·refine ⟨[.lst ([.int 0, .int 1, .int 2] ++ [.int 7]), .lst (xs ++ [.int 7]), .lst ((ll60.getD k []).map PH.D.int ++ [.int 7]), .lst ((rr60.getD k []).map PH.D.int ++ [.int 7])], ?_, fun c hc => ?_⟩
  ·show kU (.nm 10) bX [.inr (S.length + 1), .inr (S.length + 2), .inr (S.length + 3), .inr (S.length + 0)] _ (S ++ [.lst [.int 0, .int 1, .int 2], .lst xs, .lst ((ll60.getD k []).map PH.D.int), .lst ((rr60.getD k []).map PH.D.int)]) = _
   refine uF (ds := xs) (get60.trans rfl) hx ?_
   rw [mK];refine uF (ds := (ll60.getD k []).map PH.D.int) (get60.trans rfl) (by rw [bR]; omega) ?_
   rw [mK];refine uF (ds := (rr60.getD k []).map PH.D.int) (get60.trans rfl) (by rw [bR]; omega) ?_
   rw [mK];refine uF (ds := [.int 0, .int 1, .int 2]) (get60.trans rfl) (by decide) ?_
   rw [mK];rfl
  ·simp only [aQ, bC, or_false] at hc
   rcases hc with rfl | rfl | rfl | rfl <;> exact ⟨_, rfl⟩
 ·refine ⟨[.lst [.int 0, .int 1, .int 2], .lst (ys ++ [.int 7]), .lst (xs ++ [.int 7]), .lst ((ll60.getD k []).map PH.D.int ++ [.int 7]), .lst ((rr60.getD k []).map PH.D.int ++ [.int 7])], ?_, fun c hc => ?_⟩
  ·show kU (.nm 10) bX [.inr (S.length + 2), .inr (S.length + 3), .inr (S.length + 4), .inr (S.length + 1)] _ (S ++ [.lst [.int 0, .int 1, .int 2], .lst ys, .lst xs, .lst ((ll60.getD k []).map PH.D.int), .lst ((rr60.getD k []).map PH.D.int)]) = _
   refine uF (ds := xs) (get60.trans rfl) hx ?_
   rw [mK];refine uF (ds := (ll60.getD k []).map PH.D.int) (get60.trans rfl) (by rw [bR]; omega) ?_
   rw [mK];refine uF (ds := (rr60.getD k []).map PH.D.int) (get60.trans rfl) (by rw [bR]; omega) ?_
   rw [mK];refine uF (ds := ys) (get60.trans rfl) hy ?_
   rw [mK];rfl
  ·simp only [aQ, bC, or_false] at hc
   rcases hc with rfl | rfl | rfl | rfl | rfl <;> exact ⟨_, rfl⟩
end
def dX (S : aM) (p : Nat) (ks : List Int) (xs : List PH.D) : aM := S.set p (PL ks) ++ [.lst xs]
section
variable {S : aM} {p : Nat} {ks : List Int}
theorem gA {xs : List PH.D} {k0 : List Int} (hP : PoolAt S p ks) (hl : k0.length = ks.length) : PoolAt (dX S p k0 xs) p k0 := by
 have h1 := hP.next hl;refine ⟨?_, h1.2⟩
 unfold dX;rw [aI (by have := (aF.mp h1.1).1; exact this)]
 exact h1.1
theorem gO {xs : List PH.D} : (dX S p ks xs)[S.length]? = some (.lst xs) := by
 unfold dX;rw [aS (by simp)]
 simp
theorem eU {xs : List PH.D} {k0 k1 : List Int} (hP : PoolAt S p ks) : (dX S p k0 xs).set p (PL k1) = dX S p k1 xs := by
 unfold dX;rw [List.set_append_left _ _ (by have := (aF.mp hP.1).1; rw [gI]; exact this), cQ]
theorem oR {xs : List PH.D} {c : Cell} : (dX S p ks xs).set S.length c = S.set p (PL ks) ++ [c] := by
 unfold dX;rw [xT _ _ (by simp)]
 simp
theorem nH {d : PH.D} {c : Cell} (ls : LS S) : (trunc S.length (.ok (.dat d) (S.set p (PL ks) ++ [c])) : Res Vl) = .ok (.dat d) (S.set p (PL ks)) :=
 xW (LS.all ls.set) (by rw [gI])
def Sl (n : Nat) (d : PH.D) : Prop := d.Pl /\ d.ht <= n
theorem Sl.mono {n m : Nat} {d : PH.D} (h : Sl n d) (hm : n <= m) : Sl m d := ⟨h.1, xR h.2 hm⟩
theorem lN {i : Int} {n : Nat} : Sl n (.int i) := ⟨trivial, eQ n⟩
theorem rT {n : Nat} {ds : List PH.D} (hl : ds.length <= 1000) (h : ∀ d ∈ ds, Sl n d) : Sl (n + 1) (.lst ds) := AU hl h
theorem sl_tup {n : Nat} {ds : List PH.D} (hl : ds.length <= 1000) (h : ∀ d ∈ ds, Sl n d) : Sl (n + 1) (.tup ds) := EM hl h
theorem oP (hP : PoolAt S p ks) {lo hi : Int} (h1 : lo <= hi) (h2 : hi - lo <= 100) {odd : Bool} : ∃ (d : PH.D) (ks' : List Int), dF [.cel p, .dat (.int lo), .dat (.int hi), .dat (.bl odd)] S = .ok (.dat d) (S.set p (PL ks')) /\ Sl 1 d /\ ks'.length = ks.length := by
 have s1 : PyData.strOk (Str.ofString "1") = true := by decide +kernel
 obtain ⟨j, k1, e1, _, _, l1⟩ := cH hP (k := hi - lo + 1) (by omega) (by omega)
 obtain ⟨j2, k2, e2, _, _, l2⟩ := cH (hP.next l1) (k := 6) (by decide) (by decide)
 obtain ⟨j3, k3, e3, b0, b1, l3⟩ := cH ((hP.next l1).next l2) (k := 5) (by decide) (by decide)
 simp only [cQ] at e2 e3;rw [tG];unfold fW;cases odd with
 | false =>
  refine ⟨.int (lo + j), k1, ?_, lN, by omega⟩
  simp! [e1];rfl
 | true =>
  by_cases h6 : j2 = 0
  ·obtain ⟨d, hd, ixd⟩ := rC (xs := [.bl true, .bl false, .non, .str "1", .lst [.int 1]]) b0 (by show j3 < 5; exact b1)
   refine ⟨d, k3, ?_, ?_, by omega⟩
   ·have kl5 : ∀ T, oY false [.dat (.bl true), .dat (.bl false), .dat .non, .dat (.str "1"), .dat (.lst [.int 1])] T = .ok (.dat (.lst [.bl true, .bl false, .non, .str "1", .lst [.int 1]])) T := fun _ => rfl
    simp! [e1, e2, decide_eq_true h6, kl5, e3, ixd];rfl
   ·simp only [aQ, bC, or_false] at hd
    rcases hd with rfl | rfl | rfl | rfl | rfl <;> exact ⟨by simp [PH.D.Pl, PH.D.Pls, s1], by simp [PH.D.ht, PH.D.hts]⟩
  ·refine ⟨.int (lo + j), k2, ?_, lN, by omega⟩
   simp! [e1, e2, decide_eq_false h6];rfl
theorem EI (hP : PoolAt S p ks) : ∃ (d : PH.D) (ks' : List Int), iZ [.cel p] S = .ok (.dat d) (S.set p (PL ks')) /\ Sl 1 d /\ ks'.length = ks.length := by
 have sw : ∀ x ∈ wd60, PyData.strOk x = true := by decide +kernel
 have s1 : PyData.strOk (Str.ofString "Home") = true := by decide +kernel
 have s2 : PyData.strOk (Str.ofString "") = true := by decide +kernel
 have s3 : PyData.strOk (Str.ofString "swap ") = true := by decide +kernel
 have s4 : PyData.strOk (Str.ofString "rings") = true := by decide +kernel
 have s5 : PyData.strOk (Str.ofString "las") = true := by decide +kernel
 have s6 : PyData.strOk (Str.ofString "home") = true := by decide +kernel
 obtain ⟨j, k1, e1, h0, h1, l1⟩ := cH hP (k := 12) (by decide) (by decide)
 obtain ⟨j2, k2, e2, b0, b1, l2⟩ := cH (hP.next l1) (k := 10) (by decide) (by decide)
 simp only [cQ] at e2;rw [Bm];unfold lD
 by_cases h9 : j < 9
 ·have m0 := eM j (show (6 : Int) ≠ 0 by decide)
  have m1 := eP j (show (0 : Int) < 6 by decide)
  obtain ⟨d, hd, ixd⟩ := rC (xs := wd60.map PH.D.str) m0 (by show j % 6 < 6; exact m1)
  refine ⟨d, k1, ?_, ?_, by omega⟩
  ·have ixd' : ∀ T, bS (.dat tI) (.dat (.int (j % 6))) T = .ok (.dat d) T := ixd
   simp! [e1, decide_eq_true h9, dM, lW (show (0 : Int) < 6 by decide), ixd']
   rfl
  ·obtain ⟨x, hx, rfl⟩ := wD.mp hd
   exact ⟨sw x hx, eQ 1⟩
 ·obtain ⟨d, hd, ixd⟩ := rC (xs := [.str "Home", .str "", .str "swap ", .str "rings", .str "las", .non, .int 3, .bl true, .lst [.str "home"], .tup [.str "home"]]) b0 (by show j2 < 10; exact b1)
  refine ⟨d, k2, ?_, ?_, by omega⟩
  ·have kl : ∀ T, oY false [.dat (.str "Home"), .dat (.str ""), .dat (.str "swap "), .dat (.str "rings"), .dat (.str "las"), .dat .non, .dat (.int 3), .dat (.bl true), .dat (.lst [.str "home"]), .dat (.tup [.str "home"])] T = .ok (.dat (.lst [.str "Home", .str "", .str "swap ", .str "rings", .str "las", .non, .int 3, .bl true, .lst [.str "home"], .tup [.str "home"]])) T := fun _ => rfl
   simp! [e1, decide_eq_false h9, kl, e2, ixd];rfl
  ·simp only [aQ, bC, or_false] at hd
   rcases hd with rfl | rfl | rfl | rfl | rfl | rfl | rfl | rfl | rfl | rfl <;> exact ⟨by simp [PH.D.Pl, PH.D.Pls, s1, s2, s3, s4, s5, s6], by simp [PH.D.ht, PH.D.hts]⟩
theorem Ea (hP : PoolAt S p ks) : S.set p (PL ks) = S := by
 apply nE
 intro i;rw [aK]
 by_cases h : p = i
 ·subst h
  rw [if_pos rfl, if_pos (aF.mp hP.1).1];exact hP.1.symm
 ·rw [if_neg h]
theorem uA {e : FE} {t : Tg} {ρ : Ev} {Q : PH.D -> Prop} (hmd : ∀ (S : aM) (ks : List Int) (d : PH.D), PoolAt S p ks -> ∃ ρ1, tJ t (.dat d) ρ = some ρ1 /\ ∃ (x : PH.D) (ks' : List Int), e ρ1 S = .ok (.dat x) (S.set p (PL ks')) /\ Q x /\ ks'.length = ks.length) : ∀ (ds : List PH.D) (S : aM) (ks : List Int), PoolAt S p ks -> ∃ (xs : List PH.D) (ks' : List Int), jZ t fT e ρ ds S = .ok xs (S.set p (PL ks')) /\ xs.length = ds.length /\ (∀ x ∈ xs, Q x) /\ ks'.length = ks.length
 | [], S, ks, h => ⟨[], ks, by rw [Ea h]; rfl, rfl, (fun x h => by cases h), rfl⟩
 | d :: r, S, ks, h => by
  obtain ⟨ρ1, h1, x, k1, e1, hx, l1⟩ := hmd S ks d h;obtain ⟨xs, k2, e2, z1, z2, z3⟩ := uA hmd r _ k1 (h.next l1);rw [cQ] at e2;refine ⟨x :: xs, k2, ?_, by simp [z1], fun y hy => ?_, by omega⟩
  ·simp only [jZ, h1, fT, e1, e2, if_true]
  ·rcases aQ.mp hy with rfl | hy
   ·exact hx
   ·exact z2 y hy
theorem BR (hP : PoolAt S p ks) : ∃ (d : PH.D) (ks' : List Int), eG [.cel p] S = .ok (.dat d) (S.set p (PL ks')) /\ RP d /\ ks'.length = ks.length := by
 have s1 : PyData.strOk (Str.ofString "012") = true := by decide +kernel
 obtain ⟨j, k1, e1, h0, h1, l1⟩ := cH hP (k := 6) (by decide) (by decide)
 have P1 := hP.next l1;obtain ⟨j7, k7, e7, c0, c1, l7⟩ := cH P1 (k := 7) (by decide) (by decide)
 obtain ⟨j5, k5, e5, b0, b1, l5⟩ := cH P1 (k := 5) (by decide) (by decide)
 simp only [cQ] at e7 e5;rw [tH];unfold fX
 by_cases z0 : j = 0
 ·refine ⟨.non, k1, ?_, .inl ⟨trivial, by decide⟩, by omega⟩
  simp! [e1, decide_eq_true z0];rfl
 ·by_cases z3 : j < 3
  ·obtain ⟨d, hd, ixd⟩ := rC (xs := [.lst [.int 0], .lst [.int 1], .lst [.int 2], .lst [.int 0, .int 1], .lst [.int 0, .int 2], .lst [.int 1, .int 2], .lst [.int 0, .int 1, .int 2]]) c0 (by show j7 < 7; exact c1)
   refine ⟨d, k7, ?_, .inl ?_, by omega⟩
   ·have kl : ∀ T, oY false [.dat (.lst [.int 0]), .dat (.lst [.int 1]), .dat (.lst [.int 2]), .dat (.lst [.int 0, .int 1]), .dat (.lst [.int 0, .int 2]), .dat (.lst [.int 1, .int 2]), .dat (.lst [.int 0, .int 1, .int 2])] T = .ok (.dat (.lst [.lst [.int 0], .lst [.int 1], .lst [.int 2], .lst [.int 0, .int 1], .lst [.int 0, .int 2], .lst [.int 1, .int 2], .lst [.int 0, .int 1, .int 2]])) T := fun _ => rfl
    simp! [e1, decide_eq_false z0, decide_eq_true z3, kl, e7, ixd];rfl
   ·simp only [aQ, bC, or_false] at hd
    rcases hd with rfl | rfl | rfl | rfl | rfl | rfl | rfl <;> exact ⟨by simp [PH.D.Pl, PH.D.Pls], by simp [PH.D.ht, PH.D.hts]⟩
  ·by_cases z4 : j = 3
   ·obtain ⟨d, hd, ixd⟩ := rC (xs := [.tup [.int 0, .int 1], .int 0, .str "012", .bl true, .dct]) b0 (by show j5 < 5; exact b1)
    refine ⟨d, k5, ?_, ?_, by omega⟩
    ·have kl : ∀ T, oY false [.dat (.tup [.int 0, .int 1]), .dat (.int 0), .dat (.str "012"), .dat (.bl true), .dat .dct] T = .ok (.dat (.lst [.tup [.int 0, .int 1], .int 0, .str "012", .bl true, .dct])) T := fun _ => rfl
     simp! [e1, decide_eq_false z0, decide_eq_false z3, decide_eq_true z4, kl, e5, ixd];rfl
    ·simp only [aQ, bC, or_false] at hd
     rcases hd with rfl | rfl | rfl | rfl | rfl
     ·exact .inl ⟨by simp [PH.D.Pl, PH.D.Pls], by simp [PH.D.ht, PH.D.hts]⟩
     ·exact .inl ⟨trivial, by decide⟩
     ·exact .inl ⟨s1, eQ 3⟩
     ·exact .inl ⟨trivial, by decide⟩
     ·exact .inr rfl
   ·obtain ⟨n, k2, e2, n0, n1, l2⟩ := cH P1 (k := 5) (by decide) (by decide)
    obtain ⟨m, rfl⟩ : ∃ m : Nat, n = (m : Int) := ⟨n.toNat, by omega⟩
    rw [cQ] at e2;obtain ⟨xs, k9, e9, z1, z2, z9⟩ := uA (p := p) (e := cR) (t := .nm 2) (ρ := [some (.cel p), some (.dat (.int j)), none]) (Q := Sl 1) (fun T k d h => ⟨[some (.cel p), some (.dat (.int j)), some (.dat d)], rfl, by
     obtain ⟨x, k', e, sx, l⟩ := oP h (lo := -1) (hi := 3) (by decide) (by decide) (odd := decide (j = 5))
     refine ⟨x, k', ?_, sx, l⟩
     unfold cR;simp! [e]⟩) (eS 0 m) (S.set p (PL k2)) k2 (hP.next (by omega))
    rw [cQ] at e9;have rl : (eS 0 m).length = m := by unfold eS; simp
    have rg : ∀ T, oX (.dat (.int (m : Int))) T = .ok (eS 0 m) T := fun T => by rw [kW (by omega) (by omega), fF]
    have lc : Dq false (.nm 2) fT cR [some (.cel p), some (.dat (.int j)), none] [2] (eS 0 m) (S.set p (PL k2)) = .ok (.dat (.lst xs)) (S.set p (PL k9)) := by
     unfold Dq;rw [if_pos (by rw [rl]; exact sz (by omega))]
     show (match jZ (.nm 2) fT cR [some (.cel p), some (.dat (.int j)), none] (eS 0 m) (S.set p (PL k2)) with
      | .ok es S2 => newL false es S2
      | _ => .stuck) = _
     rw [e9];rfl
    refine ⟨.lst xs, k9, ?_, .inl ((rT (n := 1) (by omega) z2).mono (by decide)), by omega⟩
    simp! [e1, decide_eq_false z0, decide_eq_false z3, decide_eq_false z4, e2, rg, lc];rfl
end
section
variable {S : aM} {p : Nat} {ks : List Int} {a1 a3 a7 a8 : Option Vl}
theorem tX (hP : PoolAt S p ks) {k0 : List Int} (hk : k0.length = ks.length) {xs : List PH.D} (hx : xs.length <= 10) {odd : Bool} {a5 : Option Vl} : ∃ (a b : PH.D) (ks' : List Int), cW [some (.cel p), a1, some (.dat (.bl odd)), a3, some (.cel S.length), a5, none, a7, a8] (dX S p k0 xs) = .next [some (.cel p), a1, some (.dat (.bl odd)), a3, some (.cel S.length), none, none, a7, a8] (dX S p ks' (xs ++ [.tup [a, b]])) /\ Sl 1 a /\ Sl 1 b /\ ks'.length = ks.length := by
 have P0 := gA (xs := xs) hP hk;have ap : ∀ (k : List Int) (d : PH.D), qJ (.cel S.length) (.dat d) (dX S p k xs) = .ok (.dat .non) (dX S p k (xs ++ [d])) := fun k d => by
  rw [B9 (gO (S := S) (p := p) (ks := k)) (Nat.lt_of_le_of_lt hx (by decide)), oR]
  rfl
 have ka : ∀ {b : FE} {ρ : Ev} {k : List Int}, CL b ρ (.cel S.length) (dX S p k xs) = (b ρ (dX S p k xs)).bind (qJ (.cel S.length)) := fun {b ρ k} => B4 gO
 unfold cW;cases odd with
 | true =>
  obtain ⟨a, k1, e1, sa, l1⟩ := oP P0 (lo := -1) (hi := 4) (by decide) (by decide) (odd := true)
  rw [eU hP] at e1;have P1 := gA (xs := xs) hP (l1.trans hk);obtain ⟨b, k2, e2, sb, l2⟩ := oP P1 (lo := -1) (hi := 2) (by decide) (by decide) (odd := true)
  rw [eU hP] at e2;refine ⟨a, b, k2, ?_, sa, sb, by omega⟩
  simp! [e1, e2, ka, ap]
 | false =>
  obtain ⟨a, k1, e1, _, _, l1⟩ := cH P0 (k := 3) (by decide) (by decide)
  rw [eU hP] at e1;have P1 := gA (xs := xs) hP (l1.trans hk);obtain ⟨b, k2, e2, _, _, l2⟩ := cH P1 (k := 2) (by decide) (by decide)
  rw [eU hP] at e2;refine ⟨.int a, .int b, k2, ?_, lN, lN, by omega⟩
  simp! [e1, e2, ka, ap]
def G9 (d : PH.D) : Prop := ∃ a b, d = .tup [a, b] /\ Sl 1 a /\ Sl 1 b
theorem mO (hP : PoolAt S p ks) {odd : Bool} : ∀ (n : Nat) (lo : Int) (k0 : List Int) (xs : List PH.D), k0.length = ks.length -> xs.length + n <= 10 -> (∀ x ∈ xs, G9 x) -> ∃ (xs' : List PH.D) (ks' : List Int), loop (.nm 5) cW (eS lo n) [some (.cel p), a1, some (.dat (.bl odd)), a3, some (.cel S.length), none, none, a7, a8] (dX S p k0 xs) = .next [some (.cel p), a1, some (.dat (.bl odd)), a3, some (.cel S.length), none, none, a7, a8] (dX S p ks' xs') /\ xs'.length = xs.length + n /\ (∀ x ∈ xs', G9 x) /\ ks'.length = ks.length
 | 0, lo, k0, xs, hk, hl, hx => ⟨xs, k0, rfl, rfl, hx, hk⟩
 | n + 1, lo, k0, xs, hk, hl, hx => by
  obtain ⟨a, b, k1, e1, sa, sb, l1⟩ := tX (a1 := a1) (a3 := a3) (a7 := a7) (a8 := a8) (a5 := some (.dat (.int lo))) hP hk (xs := xs) (by omega) (odd := odd)
  obtain ⟨xs', k2, e2, z2, h2, l2⟩ := mO hP (odd := odd) n (lo + 1) k1 (xs ++ [.tup [a, b]]) l1 (by simp; omega) fun x hh => by
   rcases jR.mp hh with h | h
   ·exact hx x h
   ·rw [List.mem_singleton.mp h]; exact ⟨a, b, rfl, sa, sb⟩
  refine ⟨xs', k2, ?_, by rw [z2]; simp; omega, h2, l2⟩
  rw [jX, <- e2];exact hQ (ρ1 := [some (.cel p), a1, some (.dat (.bl odd)), a3, some (.cel S.length), some (.dat (.int lo)), none, a7, a8]) rfl e1
theorem pr_sl {d : PH.D} (h : G9 d) : Sl 2 d := by
 obtain ⟨a, b, rfl, sa, sb⟩ := h;exact sl_tup (n := 1) (by simp) fun x hx => by
  simp only [aQ, bC, or_false] at hx;rcases hx with rfl | rfl
  ·exact sa
  ·exact sb
theorem tQ (hP : PoolAt S p ks) (ls : LS S) {w : PH.D} (hw : w.Pl) : ∃ (v : PH.D) (ks' : List Int), dO [.cel p, .dat w] S = .ok (.dat v) (S.set p (PL ks')) /\ Sl 3 v /\ ks'.length = ks.length := by
 obtain ⟨j1, k1, e1, _, _, l1⟩ := cH hP (k := 3) (by decide) (by decide)
 obtain ⟨j2, k2, e2, b0, b1, l2⟩ := cH (hP.next l1) (k := 5) (by decide) (by decide)
 obtain ⟨j3, k3, e3, _, _, l3⟩ := cH ((hP.next l1).next l2) (k := 4) (by decide) (by decide)
 simp only [cQ] at e2 e3;have l3' : k3.length = ks.length := by omega
 -- how many
 obtain ⟨m, hm, em⟩ : ∃ m : Nat, m <= 5 /\ (bG (kS (mB (aR fGt (aN bB (aB (aE 0) (aB (mC (.int 4)) aJ))) (mC (.int 0)))) (kS (aZ (m1 (fIsi "str") (aE 1))) (mB (aR (vX false) (aE 1) (aN bY aJ))))) (bO (aR bS (cF false (aB (mC (.int 1)) (aB (mC (.int 2)) (aB (mC (.int 2)) (aB (mC (.int 2)) (aB (mC (.int 2)) (aB (mC (.int 3)) aJ))))))) (yL (aN bY aJ) (aE 1))) (.nm 3)) aV) [some (.cel p), some (.dat w), some (.dat (.bl (decide (j1 = 0)))), some (.dat (.int j2)), none, none, none, none, none] (S.set p (PL k2)) =
   .next [some (.cel p), some (.dat w), some (.dat (.bl (decide (j1 = 0)))), some (.dat (.int (m : Int))), none, none, none, none, none] (S.set p (PL k3)) := by
  have kl6 : ∀ T, oY false [.dat (.int 1), .dat (.int 2), .dat (.int 2), .dat (.int 2), .dat (.int 2), .dat (.int 3)] T = .ok (.dat mmD) T := fun _ => rfl
  by_cases h3 : j3 > 0
  ·cases w with
   | str s =>
    have i : ∀ S, fIsi "str" (.dat (.str s)) S = .ok (.dat (.bl true)) S := fun _ => rfl
    cases q : lG (.str s) with
    | none =>
     have ni : ∀ S, vX false (.dat (.str s)) (.dat tI) S = .ok (.dat (.bl false)) S := fun S => by
      rw [wX hw, q]; rfl
     refine ⟨j2.toNat, by omega, ?_⟩
     rw [show ((j2.toNat : Nat) : Int) = j2 by omega]
     simp! [e3, decide_eq_true h3, i, dM, ni]
    | some k =>
     obtain ⟨hk, e⟩ := rJ q;cases e;have ni : ∀ S, vX false (.dat (.str (wd60.getD k ""))) (.dat tI) S = .ok (.dat (.bl true)) S := fun S => by
      rw [wX hw, q]; rfl
     have ix : ∀ S, gX (.dat tI) (.dat (.str (wd60.getD k ""))) S = .ok (.dat (.int (k : Int))) S := fun S => Ah hk
     have kx : ∀ {b : FE} {ρ : Ev} {S : aM}, F5 b ρ (.dat tI) S = (b ρ S).bind (gX (.dat tI)) := fun {b ρ S} => rfl
     have ma : ∀ S, bS (.dat mmD) (.dat (.int (k : Int))) S = .ok (.dat (.int (mm60.getD k 0))) S := fun S => Dd hk
     obtain ⟨m1, m3⟩ := De hk;refine ⟨(mm60.getD k 0).toNat, by omega, ?_⟩
     rw [show (((mm60.getD k 0).toNat : Nat) : Int) = mm60.getD k 0 by omega]
     simp! [e3, decide_eq_true h3, i, dM, ni, kl6, pE, kx, ix, ma]
   | ins c ns xs => exact hw.elim
   | dct => exact hw.elim
   | opq _ => exact hw.elim
   | _ =>
    refine ⟨j2.toNat, by omega, ?_⟩
    rw [show ((j2.toNat : Nat) : Int) = j2 by omega]
    simp! [e3, decide_eq_true h3]
  ·refine ⟨j2.toNat, by omega, ?_⟩
   rw [show ((j2.toNat : Nat) : Int) = j2 by omega]
   simp! [e3, decide_eq_false h3]
 have nl : newL true [] (S.set p (PL k3)) = .ok (.cel S.length) (dX S p k3 []) := by
  show Res.ok (Vl.cel (S.set p (PL k3)).length) _ = _
  rw [gI];rfl
 obtain ⟨xs, k4, e4, z4, h4, l4⟩ := mO (a1 := some (.dat w)) (a3 := some (.dat (.int (m : Int)))) (a7 := none) (a8 := none) hP (odd := decide (j1 = 0)) m 0 k3 [] l3' (by show 0 + m <= 10; omega) (fun x h => by cases h)
 have rg : ∀ T, oX (.dat (.int (m : Int))) T = .ok (eS 0 m) T := fun T => by rw [kW (by omega) (by omega), fF]
 have P4 := gA (xs := xs) hP l4;obtain ⟨j5, k5, e5, _, _, l5⟩ := cH P4 (k := 12) (by decide) (by decide)
 rw [eU hP] at e5;have l5' := l5.trans l4;have hxl : xs.length <= 10 := by rw [z4]; show 0 + m <= 10; omega
 have sx : ∀ x ∈ xs, Sl 2 x := fun x hx => pr_sl (h4 x hx)
 have tpl : fTuple (.cel S.length) (dX S p k5 xs) = .ok (.dat (.tup xs)) (dX S p k5 xs) := by
  have := gO (S := S) (p := p) (ks := k5) (xs := xs);simp only [fTuple, eD, this]
 have fz : ∀ (k : List Int) (ys : List PH.D), CI (.cel S.length) (dX S p k ys) = .ok (.dat (.lst ys)) (S.set p (PL k) ++ [.dead]) := fun k ys => by
  rw [Fm (gO (S := S) (p := p) (ks := k)), oR]
 have tr : mY (.cel S.length) (dX S p k5 xs) = .ok (!xs.isEmpty) (dX S p k5 xs) := by
  have := gO (S := S) (p := p) (ks := k5) (xs := xs);simp only [mY, eD, this]
 rw [qO];unfold fD
 by_cases h0 : j5 = 0
 ·refine ⟨.tup xs, k5, ?_, sl_tup (n := 2) (by omega) sx, l5'⟩
  simp! [e1, e2, em, nl, rg, e4, e5, decide_eq_true h0, tpl];exact nH ls
 ·by_cases hs : j5 = 1 /\ xs ≠ []
  ·obtain ⟨h1, hxs⟩ := hs
   subst h1;have hpos : 0 < xs.length := List.length_pos_iff.mpr hxs;have P5 := gA (xs := xs) hP l5';obtain ⟨at', k6, e6, c0, c1, l6⟩ := cH P5 (k := (xs.length : Int)) (by omega) (by omega)
   rw [eU hP] at e6;obtain ⟨a, rfl⟩ : ∃ a : Nat, at' = (a : Int) := ⟨at'.toNat, by omega⟩
   have P6 := gA (xs := xs) hP (l6.trans l5');obtain ⟨j7, k7, e7, d0, d1, l7⟩ := cH P6 (k := 5) (by decide) (by decide)
   rw [eU hP] at e7;have hlt : a < xs.length := by omega
   have hx : xs[a]? = some xs[a] := bI hlt;obtain ⟨x, y, exy, sx1, sy1⟩ := h4 xs[a] (iQ hlt);rw [exy] at hx;have ix : ∀ k, bS (.cel S.length) (.dat (.int (a : Int))) (dX S p k xs) = .ok (.dat (.tup [x, y])) (dX S p k xs) := fun k => by
    have h := gO (S := S) (p := p) (ks := k) (xs := xs);have q := FB (S := dX S p k xs) (xs := xs) (t := (a : Int)) (n := a) rfl hx;simp only [bS, eD, h] at q ⊢;exact q
   have li : ∀ T, gE false (.dat (.tup [x, y])) T = .ok (.dat (.lst [x, y])) T := fun _ => rfl
   have ad : ∀ T, gK false (.dat (.tup [x, y])) (.dat (.tup [.int 0])) T = .ok (.dat (.tup [x, y, .int 0])) T := fun _ => rfl
   have sl1 : ∀ T, DB false (.dat (.tup [x, y])) none (some 1) T = .ok (.dat (.tup [x])) T := fun _ => rfl
   have kl5 : ∀ T, oY false [.dat (.lst [x, y]), .dat (.tup [x, y, .int 0]), .dat (.tup [x]), .dat (.int 0), .dat .non] T = .ok (.dat (.lst [.lst [x, y], .tup [x, y, .int 0], .tup [x], .int 0, .non])) T := fun _ => rfl
   obtain ⟨d, hd, ixd⟩ := rC (xs := [.lst [x, y], .tup [x, y, .int 0], .tup [x], .int 0, .non]) d0 (by show j7 < 5; exact d1)
   have sd : Sl 2 d := by
    simp only [aQ, bC, or_false] at hd;have s2 : ∀ z ∈ [x, y], Sl 1 z := fun z hz => by
     simp only [aQ, bC, or_false] at hz;rcases hz with rfl | rfl
     ·exact sx1
     ·exact sy1
    have s3 : ∀ z ∈ [x, y, .int 0], Sl 1 z := fun z hz => by
     simp only [aQ, bC, or_false] at hz;rcases hz with rfl | rfl | rfl
     ·exact sx1
     ·exact sy1
     ·exact lN
    rcases hd with rfl | rfl | rfl | rfl | rfl
    ·exact rT (n := 1) (by simp) s2
    ·exact sl_tup (n := 1) (by simp) s3
    ·exact sl_tup (n := 1) (by simp) fun z hz => by rw [List.mem_singleton.mp hz]; exact sx1
    ·exact lN
    ·exact ⟨trivial, eQ 2⟩
   have ln : dJ (.cel S.length) (dX S p k5 xs) = .ok (.dat (.int (xs.length : Int))) (dX S p k5 xs) := Aq gO;have st := By (a := aR bS (cF false (aB (m1 (gE false) (aR bS (aE 4) (aE 8))) (aB (aR (gK false) (aR bS (aE 4) (aE 8)) (cP (aB (mC (.int 0)) aJ))) (aB (mSl false (aR bS (aE 4) (aE 8)) yJ (qZ (mC (.int 1)))) (aB (mC (.int 0)) (aB (mC .non) aJ)))))) (aN bB (aB (aE 0) (aB (mC (.int 5)) aJ)))) (o := aE 4) (i := aE 8) (ρ := [some (.cel p), some (.dat w), some (.dat (.bl (decide (j1 = 0)))), some (.dat (.int (m : Int))), some (.cel S.length), none, none, some (.dat (.int 1)), some (.dat (.int (a : Int)))]) (S := dX S p k6 xs) (S1 := dX S p k7 xs) (d := d) (n := S.length) (k := (a : Int)) (j := a) (by simp! [ix, li, ad, sl1, kl5, e7, ixd]) rfl rfl gO rfl hlt
   rw [oR] at st;have st : _ = Out.next _ (dX S p k7 (xs.set a d)) := st;have ne : (!xs.isEmpty) = true := by cases xs with
    | nil => exact absurd rfl hxs
    | cons _ _ => rfl
   rw [ne] at tr;refine ⟨.lst (xs.set a d), k7, ?_, rT (n := 2) (by rw [gI]; omega) fun z hz => ?_, by omega⟩
   ·simp! [e1, e2, em, nl, rg, e4, e5, tr, ln, e6, st, wZ, fz]
    exact nH ls
   ·rcases tK hz with h | rfl
    ·exact sx z h
    ·exact sd
  ·refine ⟨.lst xs, k5, ?_, rT (n := 2) (by omega) sx, l5'⟩
   by_cases h1 : j5 = 1
   ·have hxs : xs = [] := Classical.byContradiction fun z => hs ⟨h1, z⟩
    subst hxs;simp! [e1, e2, em, nl, rg, e4, e5, decide_eq_false h0, decide_eq_true h1, tr, List.isEmpty_nil, wZ, fz];exact nH ls
   ·simp! [e1, e2, em, nl, rg, e4, e5, decide_eq_false h0, decide_eq_false h1, wZ, fz]
    exact nH ls
end
section
variable {X : aM} {ks : List Int} {w v r : PH.D} {v0 v2 : Option Vl}
theorem ls60 {k : List Int} (h : zV X) : LS (PL k :: X) := fun c hc m => by
 rcases aQ.mp hc with rfl | hc
 ·rfl
 ·obtain ⟨ds, rfl⟩ := h c hc
  rfl
theorem wV {C : aM} (h : zV X) (h2 : zV C) : zV (X ++ C) := fun c hc => by
 rcases jR.mp hc with hc | hc
 ·exact h c hc
 ·exact h2 c hc
theorem Eo {k : Nat} {xs : List PH.D} (hr : r = .non \/ ∃ ys, r = .lst ys) : zV (kE (.lst xs) r k) := fun c hc => by
 rcases hr with rfl | ⟨ys, rfl⟩
 ·simp only [kE, cK, bW, aQ, bC, or_false] at hc
  rcases hc with rfl | rfl | rfl | rfl <;> exact ⟨_, rfl⟩
 ·simp only [kE, cK, bW, aQ, bC, or_false] at hc
  rcases hc with rfl | rfl | rfl | rfl | rfl <;> exact ⟨_, rfl⟩
theorem yE {S : aM} (h : RP r) : aW 10 [.dat r] S = .ok (.dat r) S := by
 rcases h with h | rfl
 ·exact jM 10 h.1 (by have := h.2; omega)
 ·rfl
abbrev uP : FS := (aO (bG (oV (cU (aZ (aN (bA 20) (aB (aR bS (aE 8) (mC (.int 0))) (aB (aE 4) aJ))))) (kS (cU (aZ (aN (bA 20) (aB (aR bS (aE 8) (mC (.int 1))) (aB (aE 5) aJ))))) (mB (aR zD (aE 5) (mC .dct))))) (aX (mC (.bl false))) aV)
 (aO (bG (cU (aZ (mRd (bA 20) (aB (aE 9) (aB (aE 7) aJ))))) (aX (mC (.bl false))) aV)
 (bG (mB (aR iP (aR qH (aE 9) (mC (.int 0))) (mC (.str "told")))) (aO (oW (aR qH (aE 9) (mC (.int 1))) (.nm 10) bX)
 (aO (bG (cU (aZ (aN (bA 20) (aB (aR bS (aE 8) (mC (.int 0))) (aB (aE 4) aJ))))) (aX (mC (.bl false))) aV)
 (bG (cU (aZ (mRd (bA 20) (aB (aN dE (aB (aE 3) (aB (aR bS (aE 8) (mC (.int 0))) (aB (aR bS (aE 8) (mC (.int 1))) (aB (aE 6) aJ))))) (aB (aE 7) aJ))))) (aX (mC (.bl false))) aV))) aV)))
theorem BN {k0 : List Int} (hX : zV X) (hw : w.Pl) (hv : Sl 3 v) (hr : RP r) {b : Bool} (hb : b = true -> r = .non) : ∃ (X' : aM) (u : Option Vl), uP [v0, some (.cel 0), v2, some (.dat w), some (.dat v), some (.dat r), some (.dat (.bl b)), some (.dat (hY v r (eL w v r))), some (.dat (.lst [v, r])), some (lM r (PL k0 :: X).length (eL w v r)), none] (rR v r (PL k0 :: X) (eL w v r)) =
  .next [v0, some (.cel 0), v2, some (.dat w), some (.dat v), some (.dat r), some (.dat (.bl b)), some (.dat (hY v r (eL w v r))), some (.dat (.lst [v, r])), some (lM r (PL k0 :: X).length (eL w v r)), u] (PL k0 :: X') /\ zV X' := by
 have hv4 : v.Pl /\ v.ht <= 4 := ⟨hv.1, by have := hv.2; omega⟩
 have i0 : ∀ T, bS (.dat (.lst [v, r])) (.dat (.int 0)) T = .ok (.dat v) T := fun _ => rfl
 have i1 : ∀ T, bS (.dat (.lst [v, r])) (.dat (.int 1)) T = .ok (.dat r) T := fun _ => rfl
 have sv : ∀ {T : aM}, bA 20 [.dat v, .dat v] T = .ok (.dat (.bl true)) T := fun {T} => oC 20 hv.1 (by have := hv.2; omega)
 -- the first question
 have c1 : ∀ {ρ : Ev} {T : aM}, lk ρ 8 = some (.dat (.lst [v, r])) -> lk ρ 4 = some (.dat v) -> lk ρ 5 = some (.dat r) -> (bG (oV (cU (aZ (aN (bA 20) (aB (aR bS (aE 8) (mC (.int 0))) (aB (aE 4) aJ))))) (kS (cU (aZ (aN (bA 20) (aB (aR bS (aE 8) (mC (.int 1))) (aB (aE 5) aJ))))) (mB (aR zD (aE 5) (mC .dct))))) (aX (mC (.bl false))) aV) ρ T = .next ρ T := fun {ρ T} h8 h4 h5 => by
  rcases hr with h | rfl
  ·have sr := oC 20 (S := T) h.1 (by have := h.2; omega)
   simp! [h8, h4, h5, i0, i1, sv, sr]
  ·have sr : bA 20 [.dat .dct, .dat .dct] T = .ok (.dat (.bl false)) T := rfl
   have ne : zD (.dat .dct) (.dat .dct) T = .ok (.dat (.bl false)) T := rfl;simp! [h8, h4, h5, i0, i1, sv, sr, ne]
 cases q : eL w v r with
 | no x =>
  have sm := vF (S := PL k0 :: X) (d := eL w v r) rfl hv4 hr (fun k h => by rw [q] at h; cases h)
  rw [q] at sm;refine ⟨X, none, ?_, hX⟩
  have st : rR v r (PL k0 :: X) (.no x) = PL k0 :: X := rfl;rw [st] at sm ⊢;have ix : ∀ T, qH (lM r (PL k0 :: X).length (.no x)) (.dat (.int 0)) T = .ok (.dat (.str "refused")) T := fun _ => rfl
  have ne : ∀ T, iP (.dat (.str "refused")) (.dat (.str "told")) T = .ok (.dat (.bl false)) T := fun _ => rfl
  unfold uP;generalize lM r (PL k0 :: X).length (.no x) = tc at sm ix ⊢;rw [Ao, c1 rfl rfl rfl];simp! [g_rd, sm, ix, ne]
 | ok k =>
  obtain ⟨_, hk, ⟨xs, rfl⟩, hrr⟩ := oQ (S := PL k0 :: X) hw hv.1 hr q;have fk : ∀ k', eL w (.lst xs) r = .ok k' -> (∃ xs', PH.D.lst xs = .lst xs') /\ (r = .non \/ ∃ ys, r = .lst ys) := fun k' _ => ⟨⟨xs, rfl⟩, hrr⟩
  have sm := vF (S := PL k0 :: X) (d := eL w (.lst xs) r) rfl hv4 hr fk;rw [q] at sm;have hrl : r = .non \/ ∃ ys, r = .lst ys /\ ys.length <= 1000 := by
   rcases hrr with h | ⟨ys, rfl⟩
   ·exact .inl h
   ·rcases hr with h | h
    ·exact .inr ⟨ys, rfl, h.1.1⟩
    ·cases h
  obtain ⟨C, e7, hC⟩ := sev60 (S := PL k0 :: X) (a0 := v0) (a1 := some (.cel 0)) (a2 := v2) (a3 := some (.dat w)) (a4 := some (.dat (.lst xs))) (a5 := some (.dat r)) (a6 := some (.dat (.bl b))) (a7 := some (.dat (hY (.lst xs) r (.ok k)))) (a8 := some (.dat (.lst [.lst xs, r]))) (a9 := some (lM r (PL k0 :: X).length (.ok k))) hk hv.1.1 hrl;have as2 := xP (S := (PL k0 :: X) ++ C) hw hv.1 hr hb;have sm2 := vF (S := (PL k0 :: X) ++ C) (d := eL w (.lst xs) r) rfl hv4 hr fk;rw [q] at as2 sm2;refine ⟨X ++ C ++ kE (.lst xs) r k, none, ?_, wV (wV hX hC) (Eo hrr)⟩
  have ix : ∀ T, qH (lM r (PL k0 :: X).length (.ok k)) (.dat (.int 0)) T = .ok (.dat (.str "told")) T := fun _ => rfl
  have ix1 : ∀ T, qH (lM r (PL k0 :: X).length (.ok k)) (.dat (.int 1)) T = .ok (.tc (oZ r (PL k0 :: X).length)) T := fun _ => rfl
  have ne : ∀ T, iP (.dat (.str "told")) (.dat (.str "told")) T = .ok (.dat (.bl true)) T := fun _ => rfl
  have il : (oZ r (PL k0 :: X).length).length <= 1000 := by
   rcases hrr with rfl | ⟨ys, rfl⟩ <;> simp [oZ]
  have st1 : rR (.lst xs) r (PL k0 :: X) (.ok k) = (PL k0 :: X) ++ kE (.lst xs) r k := rfl;have st2 : rR (.lst xs) r ((PL k0 :: X) ++ C) (.ok k) = PL k0 :: (X ++ C ++ kE (.lst xs) r k) := rfl;rw [st1] at sm ⊢;rw [st2] at as2 sm2;unfold uP;generalize lM r (PL k0 :: X).length (.ok k) = tc at sm ix ix1 e7 ⊢;generalize lM r ((PL k0 :: X) ++ C).length (.ok k) = tc2 at as2 sm2;generalize oZ r (PL k0 :: X).length = I at ix1 e7 il;generalize PL k0 :: (X ++ C ++ kE (.lst xs) r k) = T3 at as2 sm2 ⊢;generalize (PL k0 :: X) ++ kE (.lst xs) r k = T1 at sm e7 ⊢;generalize (PL k0 :: X) ++ C = T2 at as2 e7;rw [Ao, c1 rfl rfl rfl];simp! [g_rd, sm, ix, ix1, ne, Cm, B2 il, e7, i0, i1, sv, as2, sm2]
theorem EL (h2 : 2 <= ks.length) (hX : zV X) : ∃ (X' : aM) (ks' : List Int), fG [v0, some (.cel 0), v2, none, none, none, none, none, none, none, none] (PL ks :: X) = .next [v0, some (.cel 0), none, none, none, none, none, none, none, none, none] (PL ks' :: X') /\ zV X' /\ ks'.length = ks.length := by
 obtain ⟨w, k1, e1, sw, l1⟩ := EI (S := PL ks :: X) (p := 0) (ks := ks) ⟨rfl, h2⟩;rw [bN] at e1;obtain ⟨v, k2, e2, sv, l2⟩ := tQ (S := PL k1 :: X) (p := 0) (ks := k1) ⟨rfl, by omega⟩ (ls60 hX) sw.1
 rw [bN] at e2;obtain ⟨r, k3, e3, hr, l3⟩ := BR (S := PL k2 :: X) (p := 0) (ks := k2) ⟨rfl, by omega⟩
 rw [bN] at e3;obtain ⟨b, k4, e4, hb, l4⟩ : ∃ (b : Bool) (k4 : List Int), (eI (aR (eV false) (aE 5) (mC .non)) (aR iP (aN bB (aB (aE 1) (aB (mC (.int 2)) aJ))) (mC (.int 0)))) [v0, some (.cel 0), v2, some (.dat w), some (.dat v), some (.dat r), none, none, none, none, none] (PL k3 :: X) = .ok (.dat (.bl b)) (PL k4 :: X) /\ (b = true -> r = .non) /\ k4.length = ks.length := by
  by_cases hn : r = .non
  ·subst hn
   obtain ⟨j, k4, e4, _, l4⟩ := draw0 (X := X) (ks := k3) (by omega) (k := 2) (by decide) (by decide)
   have isn : ∀ S, eV false (.dat .non) (.dat .non) S = .ok (.dat (.bl true)) S := fun _ => rfl
   refine ⟨decide ((j : Int) = 0), k4, ?_, fun _ => rfl, by omega⟩
   simp! [isn, e4]
  ·have isn : ∀ S, eV false (.dat r) (.dat .non) S = .ok (.dat (.bl false)) S := fun S => by
    cases r <;> first | exact absurd rfl hn | rfl
   refine ⟨false, k3, ?_, fun h => (by cases h), by omega⟩
   simp! [isn]
 have hv4 : v.Pl /\ v.ht <= 4 := ⟨sv.1, by have := sv.2; omega⟩
 have e5 := BP (S := PL k4 :: X) sw.1 hv4 hr;have cv := jM 10 (S := PL k4 :: X) sv.1 (by have := sv.2; omega)
 have cr := yE (S := PL k4 :: X) hr;have e6 := xP (S := PL k4 :: X) sw.1 sv.1 hr hb;obtain ⟨X', u, e7, hX'⟩ := BN (v0 := v0) (v2 := v2) (k0 := k4) hX sw.1 sv hr hb;refine ⟨X', k4, ?_, hX', l4⟩
 have i0 : ∀ T, bS (.dat (.lst [v, r])) (.dat (.int 0)) T = .ok (.dat v) T := fun _ => rfl
 have i1 : ∀ T, bS (.dat (.lst [v, r])) (.dat (.int 1)) T = .ok (.dat r) T := fun _ => rfl
 have b0 : fG = fJ [2, 3, 4, 5, 6, 7, 8, 9, 10] (aO (bO (aN iZ (aB (aE 1) aJ)) (.nm 3))
 (aO (bO (aN dO (aB (aE 1) (aB (aE 3) aJ))) (.nm 4))
 (aO (bO (aN eG (aB (aE 1) aJ)) (.nm 5))
 (aO (bO (eI (aR (eV false) (aE 5) (mC .non)) (aR iP (aN bB (aB (aE 1) (aB (mC (.int 2)) aJ))) (mC (.int 0)))) (.nm 6))
 (aO (bO (aN hM (aB (aE 3) (aB (aE 4) (aB (aE 5) aJ)))) (.nm 7))
 (aO (bO (cF false (aB (aN (aW 10) (aB (aE 4) aJ)) (aB (aN (aW 10) (aB (aE 5) aJ)) aJ))) (.nm 8))
 (aO (bO (aN dE (aB (aE 3) (aB (aR bS (aE 8) (mC (.int 0))) (aB (aR bS (aE 8) (mC (.int 1))) (aB (aE 6) aJ))))) (.nm 9)) uP))))))) := rfl
 rw [b0];generalize uP = TL at e7 ⊢;generalize (eI (aR (eV false) (aE 5) (mC .non)) (aR iP (aN bB (aB (aE 1) (aB (mC (.int 2)) aJ))) (mC (.int 0)))) = PLN at e4 ⊢;generalize lM r (PL k4 :: X).length (eL w v r) = tc at e6 e7;generalize rR v r (PL k4 :: X) (eL w v r) = T1 at e6 e7;generalize hY v r (eL w v r) = du at e5 e7;simp! [e1, e2, e3, e4, e5, cv, cr, i0, i1, e6, e7]
theorem wG : ∀ (n : Nat) (lo : Int) (ks : List Int) (X : aM), 2 <= ks.length -> zV X -> ∃ (X' : aM) (ks' : List Int), loop (.nm 2) fG (eS lo n) [v0, some (.cel 0), none, none, none, none, none, none, none, none, none] (PL ks :: X) = .next [v0, some (.cel 0), none, none, none, none, none, none, none, none, none] (PL ks' :: X') /\ zV X'
 | 0, lo, ks, X, _, hX => ⟨X, ks, rfl, hX⟩
 | n + 1, lo, ks, X, h2, hX => by
  obtain ⟨X1, k1, e1, h1, l1⟩ := EL (v0 := v0) (v2 := some (.dat (.int lo))) h2 hX;obtain ⟨X2, k2, e2, hX2⟩ := wG n (lo + 1) k1 X1 (by omega) h1
  refine ⟨X2, k2, ?_, hX2⟩
  rw [jX, <- e2];exact hQ (ρ1 := [v0, some (.cel 0), some (.dat (.int lo)), none, none, none, none, none, none, none, none]) rfl e1
end
theorem law_true_k60 : ∀ ns : List Int, ns.length <= 63 -> ∃ S, m_law_k60 [.scr ns] [] = .ok (.dat (.bl true)) S := by
 intro ns hn;refine ⟨[], ?_⟩
 rw [zM];obtain ⟨k0, e0, h0⟩ := C6 (S := []) hn;simp only [bW] at e0;have rg : ∀ T, oX (.dat (.int 3)) T = .ok (eS 0 3) T := fun T => rfl
 obtain ⟨X, k1, e1, hX⟩ := wG (v0 := some (.scr ns)) 3 0 k0 [] h0 (fun c h => by cases h)
 unfold iB;simp! [e0, rg, e1];rfl
end PH
open PySem PySem.W PySem.Calls PyProof.Rows
set_option maxHeartbeats 0 in
theorem PySem.Challenge.cw_penhome_k60_named_equations_holds : PySem.Challenge.rw_penhome_k60_named_equations.Holds := by
 w_on; o_law
 refine HandSHeadRun.head_any (r := OpenLaw.row PySem.Challenge.rw_penhome_k60_named_equations) (q := view (OpenLaw.row PySem.Challenge.rw_penhome_k60_named_equations).prog [26]) (H := PHZ.hk) (ob := PHZ.ob) (M := 8000) (loose := PHZ.loose) (d := HandSHeadRun.topDef (OpenLaw.row PySem.Challenge.rw_penhome_k60_named_equations).prog 26) (kwd := []) PHZ.ob_eq
  (by kernel_rfl) (fun s => by kernel_rfl) PHZ.run_ (by kernel_rfl) (by kernel_rfl) (by kernel_rfl) (by rfl) (by first | assumption | decide +kernel) (by decide +kernel) ⟨rfl, rfl, rfl, rfl, rfl, by decide +kernel⟩ ?hw ?hc
 case hw => w_witness2
 case hc =>
  refine PH.walk_x (l := PySem.Challenge.rw_penhome_k60_named_equations) (n := 63) (k := 22) (x := "_law_script") rfl (by decide) (by kernel_rfl) ⟨rfl, by decide, by decide⟩ ?F
  intro w mg fa h Y G hmg0;obtain ⟨K, KX, c⟩ := Y;have hmg : mg ("law" : PySem.Str) = some (.ref fa) := by
   have e : (HandSHeadRun.topDef (OpenLaw.row PySem.Challenge.rw_penhome_k60_named_equations).prog 26).name = ("law" : PySem.Str) := by kernel_rfl
   rw [<- e];exact hmg0
  have T := PHZ.txt (w := w) KX G c;have e := hmg.symm.trans T.G_law_k60;cases e;obtain ⟨fd, b, F⟩ := PHZ.law_fn (P := (PySem.Challenge.rw_penhome_k60_named_equations).prog) T;exact ⟨K, fd, PH.spF K PH.m_law_k60, KX, fun s v => b s [v] rfl, fun H a ns hl hO hS => PH.law_start PH.law_true_k60 H a ns hl hO hS, fun base _ _ => F base⟩
