import PyProof.Rows.All
import Wide.All
import OpenK.AllK
import Wide.FinOn
import HandS.Head2
import HandS.HeadHook4
import HandS.HeadWalk
import HandS.EndTab
import HandS.NestedK
import OpenK.KCell
import HandS.ForMost
import HandS.ForExc
import HandS.Lambda
import HandS.Flow
import HandS.TupAny
import HandS.TupMul
import HandS.Deep
import HandS.IsInst
import HandS.Style
import KE.DataEq
import HandS.Star
import HandS.Rev
import HandS.Text
import PyProof.WalksMore
import PyProof.SumWalkG
import HandS.Zip
import HandS.Exc
import HandS.Nested
import HandS.Comp
import HandS.WordsExc
import HandS.Defaults
import HandS.Property
import HandS.RaiseMore
import HandS.TupSets
import HandS.SetFor
import PyProof.ReprRoads
import PyProof.FitsInt
import PyProof.StrLawsRepr
import OpenK.KOps
import OpenK.KMeth
import HandS.ClsMeth
import HandS.HeadNt
import HandS.FStr
import KE.GoesEnum
import PyProof.Rows.MatchSeqLen
import KE.KUnpack
import KE.DataCmp
import HandS.SortInts
import KE.DataMinMax
import HandS.ExcOwn
import HandS.ExcIs
import HandS.ExcField
import HandS.HotCalls
import KE.KExcIs
import KE.Datum
import KE.KIndexOf
import KE.DatumOrd
import HandS.ExcInit
import KE.KExcSuper
import PyProof.InstEq
import PyProof.EqKinds
import HandS.OwnEq
import KE.KOpsOwn
import PyProof.ListStr
import PyProof.ReprNest
import PyProof.ReprDict
import PyProof.StrHeap
import PyProof.ListRange
import PyProof.Rows.GenSrcRange
import HandS.Sort
import PySem.Challenge.RW_burstlimits_k22_limits_refused
set_option Elab.async false
set_option linter.all false
set_option maxRecDepth 100000
set_option maxHeartbeats 0
namespace FC
open PySem PySem.Spec PyProof.Rows L2
/-! ### the head: defs wherever they stand, Bool facts -/
structure DefP where
  ad : PySem.W.Frag → Addr
  name : Str
  qual : Str
  params : Arguments
  body : List Stmt
  scope : Scope
  cl : List Str
def fnWA (K : PySem.W.Frag) (a : Addr) : He.FnW := match K.lookup a with
  | some ⟨_, _, .func fd, _⟩ => some (fd.name, fd.qualname, fd.params, fd.body, fd.scope, fd.globals, fd.closure.map fun c => (c.1, 0), fd.builtins)
  | _ => none
def DefP.val (d : DefP) : He.FnW := some (d.name, d.qual, d.params, .stmts d.body, d.scope, mainGlobals, d.cl.map fun x => (x, 0), builtinsNs)
def DefP.ok (K : PySem.W.Frag) (d : DefP) : Bool := PySem.W.keepIn K (.ref (d.ad K)) && (match K.lookup (d.ad K) with
  | some ⟨_, _, .func fd, _⟩ => PySem.W.codeIn K fd.code d.qual && (He.dflB K fd.defaults [] && He.kwdB K fd.kwdefaults [])
  | _ => false)
theorem DefP.any {K : PySem.W.Frag} {d : DefP} (e : fnWA K (d.ad K) = d.val) (c : d.ok K = true) : PySem.W.keepIn K (.ref (d.ad K)) = true ∧ ∃ (oc : Value) (od : Option Addr) (dV kV doc pm : Value) (an : Option Addr) (cdv ct : Value) (osl : Array (Option Value)) (cl : List (Str × Addr)),
    K.lookup (d.ad K) = some ⟨oc, od, .func (PySem.W.fnX d.name d.qual d.params d.body d.scope cl dV kV doc pm an cdv ct), osl⟩ ∧ (cl.map fun c => (c.1, (0 : Addr))) = d.cl.map (fun x => (x, 0)) ∧ PySem.W.codeIn K cdv d.qual = true ∧ DflV K dV [] ∧ KwdV K kV [] := by
  obtain ⟨kp, c2⟩ := He.ba c
  unfold fnWA at e
  cases q : K.lookup (d.ad K) with
  | none => rw [q] at c2; cases c2
  | some o =>
    obtain ⟨oc, od, dt, osl⟩ := o
    rw [q] at c2 e
    cases dt with
    | func fd =>
      obtain ⟨a1, a2, a3, a4, a5, a6, a7, a8, a9, a10, a11, a12, a13, a14, a15⟩ := fd
      have e2 : (some (a1, a2, a3, a4, a5, a6, a7.map (fun c => (c.1, (0 : Addr))), a15) : He.FnW) = some (d.name, d.qual, d.params, .stmts d.body, d.scope, mainGlobals, d.cl.map (fun x => (x, 0)), builtinsNs) := e
      simp only [Option.some.injEq, Prod.mk.injEq] at e2
      obtain ⟨h1, h2, h3, h4, h5, h6, h7, h8⟩ := e2
      subst h1 h2 h3 h4 h5 h6 h8
      have c3 : (PySem.W.codeIn K a13 d.qual && (He.dflB K a8 [] && He.kwdB K a9 [])) = true := c2
      obtain ⟨k1, k2⟩ := He.ba c3
      obtain ⟨k3, k4⟩ := He.ba k2
      exact ⟨kp, oc, od, a8, a9, a10, a11, a12, a13, a14, osl, a7, rfl, h7, k1, He.dflB_ok k3, He.kwdB_ok k4⟩
    | _ => cases c2
theorem DefP.funD {K : PySem.W.Frag} {d : DefP} (e : fnWA K (d.ad K) = d.val) (c : d.ok K = true) (hc : d.cl = []) : ∃ fd, FunD K d.name d.qual d.params d.body d.scope [] [] (d.ad K) fd := by
  obtain ⟨kp, oc, od, dV, kV, doc, pm, an, cdv, ct, osl, cl, lk, h7, k1, k3, k4⟩ := DefP.any e c
  rw [hc] at h7
  have e7 : cl = [] := List.map_eq_nil_iff.mp h7
  subst e7
  exact ⟨_, ⟨oc, od, dV, kV, doc, pm, an, cdv, ct, osl, rfl, lk, k1, k3, k4⟩, kp⟩
/-- a def that closes over __class__ -/
theorem DefP.funX {K : PySem.W.Frag} {d : DefP} (e : fnWA K (d.ad K) = d.val) (c : d.ok K = true) (hc : d.cl = [("__class__" : Str)]) : ∃ (oc : Value) (od : Option Addr) (dV kV doc pm : Value) (an : Option Addr) (cdv ct : Value) (osl : Array (Option Value)) (cc : Addr),
    K.lookup (d.ad K) = some ⟨oc, od, .func (PySem.W.fnX d.name d.qual d.params d.body d.scope [("__class__", cc)] dV kV doc pm an cdv ct), osl⟩ ∧ PySem.W.codeIn K cdv d.qual = true := by
  obtain ⟨kp, oc, od, dV, kV, doc, pm, an, cdv, ct, osl, cl, lk, h7, k1, k3, k4⟩ := DefP.any e c
  rw [hc] at h7
  match cl, h7, lk with
  | [(y, cc)], h7, lk =>
    have ey : y = "__class__" := by
      simp only [List.map_cons, List.map_nil, List.cons.injEq, Prod.mk.injEq, and_true] at h7
      exact h7
    subst ey
    exact ⟨oc, od, dV, kV, doc, pm, an, cdv, ct, osl, cc, lk, k1⟩
/-- the code object of the def at a, its table -/
def codeA (K : PySem.W.Frag) (a : Addr) : Addr := match K.lookup a with
  | some ⟨_, _, .func fd, _⟩ => (match fd.code with
    | .ref c => c
    | _ => 0)
  | _ => 0
def tabA (K : PySem.W.Frag) (a : Addr) : Addr := He.tabOf K (codeA K a)
/-- the tables of the defs that hold lambdas: empty, each its own -/
def tabsL (g : Addr → Option Obj) (lf : List DefP) (K : PySem.W.Frag) : Bool := (lf.all fun d => PySem.W.codeHdIn K (codeA K (d.ad K)) (tabA K (d.ad K)) && (match g (tabA K (d.ad K)) with
  | some o => He.emptyTab o
  | none => false)) && decide ((lf.map fun d => tabA K (d.ad K)).Nodup)
structure Tab0 (lf : List DefP) (K : PySem.W.Frag) (h : Heap) : Prop where
  hd : ∀ d ∈ lf, PySem.W.codeHdIn K (codeA K (d.ad K)) (tabA K (d.ad K)) = true
  out : ∀ d ∈ lf, K.lookup (tabA K (d.ad K)) = none
  emp : ∀ d ∈ lf, h.get? (tabA K (d.ad K)) = some { cls := .none, data := .fields #[] }
  nd : (lf.map fun d => tabA K (d.ad K)).Nodup
theorem tab0_of {lf : List DefP} {h : Heap} {as : List Addr} (e : tabsL h.get? lf (He.frT h.get? as) = true) : Tab0 lf (He.frT h.get? as) h := by
  obtain ⟨e1, e2⟩ := He.ba e
  have key : ∀ d ∈ lf, PySem.W.codeHdIn (He.frT h.get? as) (codeA (He.frT h.get? as) (d.ad (He.frT h.get? as))) (tabA (He.frT h.get? as) (d.ad (He.frT h.get? as))) = true ∧ ∃ o, h.get? (tabA (He.frT h.get? as) (d.ad (He.frT h.get? as))) = some o ∧ He.emptyTab o = true := fun d hd => by
    obtain ⟨k1, k2⟩ := He.ba (List.all_eq_true.mp e1 d hd)
    refine ⟨k1, ?_⟩
    split at k2
    · rename_i o q; exact ⟨o, q, k2⟩
    · cases k2
  exact ⟨fun d hd => (key d hd).1, fun d hd => let ⟨_, _, q, z⟩ := key d hd; He.frT_none q z, fun d hd => by
    obtain ⟨_, o, q, z⟩ := key d hd
    rw [q, He.emptyTab_eq z], of_decide_eq_true e2⟩
/-- an address as a number, worked out -/
def forceN {β : Type} (a : Nat) (k : Nat → β) : β := match a with
  | 0 => k 0
  | m + 1 => k (Nat.succ m)
def bitIn (s a : Nat) : Bool := Nat.beq (Nat.land (Nat.shiftRight s a) 1) 1
def goB {β : Type} : List Addr → Nat → List Addr → (Nat → List Addr → β) → β
  | [], s, out, k => k s out
  | a :: as, s, out, k => forceN a fun a => match bitIn s a with
    | true => goB as s out k
    | false => forceN (Nat.lor s (Nat.shiftLeft 1 a)) fun s => goB as s (a :: out) k
def lvB (g : Addr → Option Obj) : Nat → List Addr → Nat → List Addr → List Addr
  | 0, _, _, all => all
  | n + 1, fr, s, all => goB (fr.flatMap fun a => match g a with
    | some o => He.refsD o
    | none => []) s [] fun s new => lvB g n new s (new ++ all)
/-- what can be reached from the globals in so many steps, each address once -/
def asB (g : Addr → Option Obj) (n : Nat) : List Addr := (lvB g n [mainGlobals] (Nat.shiftLeft 1 mainGlobals) [mainGlobals]).reverse
abbrev AlP : Type := Bool × List He.FnW
def obsK (ex : PySem.W.Frag → Bool) (fn : List DefP) (K : PySem.W.Frag) : AlP := (ex K && fn.all fun d => d.ok K, fn.map fun d => fnWA K (d.ad K))
def valP (fn : List DefP) : AlP := (true, fn.map DefP.val)
def obsP (n : Nat) (ex : PySem.W.Frag → Bool) (fn lf : List DefP) (g : Addr → Option Obj) : AlP × Bool := (obsK ex fn (He.frT g (asB g n ++ [cStatics])), tabsL g lf (He.frT g (asB g n ++ [cStatics])))
def hookP (n : Nat) (ex : PySem.W.Frag → Bool) (fn lf : List DefP) : PySem.W.Hook where
  α := AlP × Bool
  obs := fun s => obsP n ex fn lf s.heap.get?
  val := fun _ => (valP fn, true)
  says := fun _ h => ∃ K : PySem.W.Frag, K.In h ∧ obsK ex fn K = valP fn ∧ Tab0 lf K h
  of := fun _ _ e => ⟨_, He.frT_in, congrArg (fun z : AlP × Bool => z.1) e, tab0_of (congrArg (fun z : AlP × Bool => z.2) e)⟩
  keeps := fun _ _ _ ⟨K, hK, c, t⟩ k => ⟨K, PySem.W.Frag.In.keeps hK k, c, t.hd, t.out, fun d hd => k _ _ (t.emp d hd), t.nd⟩
theorem obsP_eq {n : Nat} {ex : PySem.W.Frag → Bool} {fn lf : List DefP} {g : Addr → Option Obj} {s : Shared} (h : ∀ a, g a = s.heap.get? a) : obsP n ex fn lf g = (hookP n ex fn lf).obs s := by
  have e : g = s.heap.get? := funext h
  rw [e] <;> rfl
theorem saysP_ex {ex : PySem.W.Frag → Bool} {fn : List DefP} {K : PySem.W.Frag} (c : obsK ex fn K = valP fn) : ex K = true := (He.ba (congrArg (fun z : AlP => z.1) c : (ex K && fn.all fun d => d.ok K) = true)).1
theorem saysP_def {ex : PySem.W.Frag → Bool} {fn : List DefP} {K : PySem.W.Frag} (c : obsK ex fn K = valP fn) (i : Nat) {d : DefP} (h : fn[i]? = some d) (hc : d.cl = []) : ∃ fd, FunD K d.name d.qual d.params d.body d.scope [] [] (d.ad K) fd := by
  have c2 := (He.ba (congrArg (fun z : AlP => z.1) c : (ex K && fn.all fun d => d.ok K) = true)).2
  have e : (fn.map fun d => fnWA K (d.ad K)) = fn.map DefP.val := congrArg (fun z : AlP => z.2) c
  have e2 : (fn.map fun d => fnWA K (d.ad K))[i]? = (fn.map DefP.val)[i]? := by rw [e]
  rw [List.getElem?_map, List.getElem?_map, h] at e2
  exact DefP.funD (Option.some.inj e2) (List.all_eq_true.mp c2 d (List.mem_of_getElem? h)) hc
theorem saysP_defX {ex : PySem.W.Frag → Bool} {fn : List DefP} {K : PySem.W.Frag} (c : obsK ex fn K = valP fn) (i : Nat) {d : DefP} (h : fn[i]? = some d) (hc : d.cl = [("__class__" : Str)]) : ∃ (oc : Value) (od : Option Addr) (dV kV doc pm : Value) (an : Option Addr) (cdv ct : Value) (osl : Array (Option Value)) (cc : Addr),
    K.lookup (d.ad K) = some ⟨oc, od, .func (PySem.W.fnX d.name d.qual d.params d.body d.scope [("__class__", cc)] dV kV doc pm an cdv ct), osl⟩ ∧ PySem.W.codeIn K cdv d.qual = true := by
  have c2 := (He.ba (congrArg (fun z : AlP => z.1) c : (ex K && fn.all fun d => d.ok K) = true)).2
  have e : (fn.map fun d => fnWA K (d.ad K)) = fn.map DefP.val := congrArg (fun z : AlP => z.2) c
  have e2 : (fn.map fun d => fnWA K (d.ad K))[i]? = (fn.map DefP.val)[i]? := by rw [e]
  rw [List.getElem?_map, List.getElem?_map, h] at e2
  exact DefP.funX (Option.some.inj e2) (List.all_eq_true.mp c2 d (List.mem_of_getElem? h)) hc
/-- the head's run, thrice: what the kit looks at, what it sees, what is observed -/
theorem run_three {r : PySem.W.OpenRow} {q : Program} {H : PySem.W.Hook} {ob : PySem.W.SharedT → H.α} {M : Nat} {loose : List Str} {w : World}
    (h0 : ∀ os : OsState, (HandSHeadRun.endF (HandSHeadRun.stepQ (HandSHeadRun.denQ HandSHeadRun.tabQ) r.prog w) M r.prog w os).map (fun s => HandSHeadRun.looksF r.prog (PySem.W.boot_heap w.params) s.abs) = some true)
    (h1 : ∀ os : OsState, (HandSHeadRun.endF (HandSHeadRun.stepQ (HandSHeadRun.denQ HandSHeadRun.tabQ) r.prog w) M r.prog w os).map (fun s => HandSHeadRun.seenQ q loose (importedModules r.prog.main.body) (fun s => PySem.W.xlAt q [] s && PySem.W.recOk r.toRowW.records s) s.abs) = some (PySem.W.openGood q loose))
    (h2 : ∀ os : OsState, (HandSHeadRun.endF (HandSHeadRun.stepQ (HandSHeadRun.denQ HandSHeadRun.tabQ) r.prog w) M r.prog w os).map (fun s => ob s) = some (H.val w)) : HandSHeadRun.RunEq r q H ob M loose w := by
  intro os
  have a := h0 os
  have c := h1 os
  have b := h2 os
  obtain ⟨s, e, a⟩ := Option.map_eq_some_iff.mp a
  rw [e] at b c ⊢
  have b : ob s = H.val w := Option.some.inj b
  have a : HandSHeadRun.looksF r.prog (PySem.W.boot_heap w.params) s.abs = true := a
  have c : HandSHeadRun.seenQ q loose (importedModules r.prog.main.body) (fun s => PySem.W.xlAt q [] s && PySem.W.recOk r.toRowW.records s) s.abs = PySem.W.openGood q loose := Option.some.inj c
  rw [Option.map_some]
  congr 1
  rw [a, c, b]
/-- further facts -/
inductive Fb where
  | fa (f : He.Fa)
  | isi (x : Str)
  | kit (x y : Str) (b : Bool)
  | kitT (x : Str) (T : String)
  | kitN (t : String) (x : Str)
  | call (x : Str)
  | prop (x f : Str)
  | spec (x m : Str)
  | bf (f : PySem.W.Frag → Bool)
def prG (K : PySem.W.Frag) (Ca : Addr) (f : Str) : Addr := match PySem.W.recIn K (He.ma K Ca f) "property" with
  | some (.ref g :: _) => g
  | _ => 0
def Fb.ok (K : PySem.W.Frag) : Fb → Bool
  | .fa f => f.ok K
  | .isi x => (He.Fa.cls x).ok K && (He.eqO (PySem.W.findIn K (.ref (He.ga K x)) "__class__") (some (some (.builtin "object.__class__"))) && (He.eqO (PySem.W.specialIn K (.builtin "object.__class__") "__get__") (some (some (.builtin "getset_descriptor.__get__"))) && (decide (PySem.W.takesIn K (.builtin "object.__class__") = some true) && decide (PySem.W.mroIn K (He.ga K x) (.type "object") = some true))))
  | .kit x y b => decide (PySem.W.kitOne K (.ref (He.ga K x)) (.ref (He.ga K y)) = some b)
  | .kitT x T => decide (PySem.W.kitOne K (.ref (He.ga K x)) (.type T) = some false)
  | .kitN t x => decide (PySem.W.kitOne K (.type t) (.ref (He.ga K x)) = some false)
  | .call x => He.eqO (PySem.W.findIn K (.ref (He.ga K x)) "__call__") (some (some (.ref (He.ma K (He.ga K x) "__call__")))) && (PySem.W.isFn K (.ref (He.ma K (He.ga K x) "__call__")) && PySem.W.fnIn K (He.ma K (He.ga K x) "__call__"))
  | .prop x f => He.eqO (PySem.W.findIn K (.ref (He.ga K x)) f) (some (some (.ref (He.ma K (He.ga K x) f)))) && (He.eqO (PySem.W.specialIn K (.ref (He.ma K (He.ga K x) f)) "__get__") (some (some (.builtin "property.__get__"))) && (decide (PySem.W.takesIn K (.ref (He.ma K (He.ga K x) f)) = some true) && (match PySem.W.recIn K (He.ma K (He.ga K x) f) "property" with
    | some (.ref _ :: _) => true
    | _ => false)))
  | .spec x m => He.eqO (PySem.W.findIn K (.ref (He.ga K x)) m) (some (some (.ref (He.ma K (He.ga K x) m)))) && (PySem.W.isFn K (.ref (He.ma K (He.ga K x) m)) && PySem.W.fnIn K (He.ma K (He.ga K x) m))
  | .bf f => f K
end FC
namespace FC
open PySem PySem.Spec PyProof.Rows L2
def tyNs : List String := ["NoneType", "bool", "int", "str", "list", "tuple"]
def cmB (K : PySem.W.Frag) (Ca : Addr) (mn : Str) : Bool := He5.wrapB K Ca "classmethod" "classmethod.__get__" mn && PySem.W.fnIn K (He5.wf K Ca "classmethod" mn)
def isiN (T : Addr) (K : PySem.W.Frag) : Bool := tyNs.all fun t => decide (PySem.W.kitOne K (.type t) (.ref T) = some false)
def rsB (K : PySem.W.Frag) (a : Addr) : Bool := PySem.W.excIn K a [.type "ValueError", .type "Exception", .type "BaseException", .type "object"] "ValueError.__new__" && (PySem.W.keepIn K (.ref a) && (decide (PySem.W.subIn K (.ref a) (.type "BaseException") = some true) && decide (PySem.W.typeIn K (.ref a) = some (.type "type"))))
def exdB (K : PySem.W.Frag) (D : Addr) : Bool :=
  (PySem.W.clsIn K D).isSome && (He.eqO (PySem.W.findIn K (.ref D) "__getattribute__") (some (some (.builtin "BaseException.__getattribute__"))) && (He.eqO (PySem.W.findIn K (.ref D) "__getattr__") (some none) && (decide (PySem.W.subIn K (.ref D) (.type "BaseException") = some true) &&
  (He.eqO (PySem.W.findIn K (.ref D) "__class__") (some (some (.builtin "object.__class__"))) && (He.eqO (PySem.W.specialIn K (.builtin "object.__class__") "__get__") (some (some (.builtin "getset_descriptor.__get__"))) && (decide (PySem.W.takesIn K (.builtin "object.__class__") = some true) && decide (PySem.W.mroIn K D (.type "object") = some true)))))))
def kdB (xs : List Str) (b : Str) (K : PySem.W.Frag) : Bool := (List.range xs.length).all fun c => exdB K (He.ga K (xs.getD c "")) && (decide (PySem.W.kitOne K (.ref (He.ga K (xs.getD c ""))) (.type "ValueError") = some true) &&
  (decide (PySem.W.exmOne K (.ref (He.ga K (xs.getD c ""))) (.ref (He.ga K b)) = some true) && (List.range xs.length).all fun j => decide (PySem.W.kitOne K (.ref (He.ga K (xs.getD c ""))) (.ref (He.ga K (xs.getD j ""))) = some (decide (c = j)))))
def xfdB (K : PySem.W.Frag) (a : Addr) : Bool := xfB K a && (He.eqO (PySem.W.findIn K (.ref a) "amount") (some none) && He.eqO (PySem.W.findIn K (.ref a) "limit") (some none))
def ccOf (K : PySem.W.Frag) (a : Addr) : Addr := match K.lookup a with
  | some ⟨_, _, .func fd, _⟩ => (match fd.closure with
    | (_, c) :: _ => c
    | _ => 0)
  | _ => 0
def oexB (K : PySem.W.Frag) (C : Addr) : Bool := (match K.lookup C with
  | some ⟨.type "type", _, .cls cd, sl⟩ => (match cd.mro, sl.toList with
    | .ref c :: bm, [_, _, _, _, some (.builtin n), _] => c == C && (n == "ValueError.__new__" && (!cd.hasDel && (cd.hasDict && PySem.HandSPX.refsVE bm)))
    | _, _ => false)
  | _ => false) && (He.eqO (PySem.W.findIn K (.ref C) "__setattr__") (some (some (.builtin "object.__setattr__"))) && (decide (PySem.W.subIn K (.ref C) (.type "BaseException") = some true) && (decide (PySem.W.typeIn K (.ref C) = some (.type "type")) && PySem.W.keepIn K (.ref C))))
def dflN (K : PySem.W.Frag) (f : Addr) : Bool := match K.lookup f with
  | some ⟨_, _, .func fd, _⟩ => decide (fd.defaults = Value.none)
  | _ => false
def tooB (fl : Str) (K : PySem.W.Frag) (C f : Addr) (x1 x2 : Str) : Bool := dflN K f && (oexB K C && ((match K.lookup (codeA K f) with
  | some ⟨_, _, .fields vs, _⟩ => (match (vs[2]? : Option Value) with
    | some (.str y _) => y == fl
    | _ => false)
  | _ => false) && ((match K.lookup (ccOf K f) with
  | some ⟨_, _, .cell (some (.ref c)), _⟩ => c == C
  | _ => false) && (He.eqO (PySem.W.findIn K (.ref C) "__init__") (some (some (.ref f))) && (decide (PySem.W.typeIn K (.ref f) = some (.type "function")) && (decide (PySem.W.mroIn K C (.ref C) = some true) && (He.eqO (PySem.W.nsIn K cStatics "thirdparty.any") (some none) &&
  (He.eqO (PySem.W.ks_superIn K C C "__init__") (some (some (.builtin "ValueError.__init__"))) && (decide (PySem.W.subIn K (.ref C) (.type "ValueError") = some true) && (He.eqO (PySem.W.findIn K (.ref C) x1) (some none) && He.eqO (PySem.W.findIn K (.ref C) x2) (some none)))))))))))
def tyEs : List String := ["NoneType", "bool", "int", "str", "list", "tuple", "dict"]
def kitTB (K : PySem.W.Frag) (Ca : Addr) : Bool := (["int", "bool", "str", "tuple", "list"] : List String).all fun T => decide (PySem.W.kitOne K (.ref Ca) (.type T) = some false)
def conB (K : PySem.W.Frag) (Ca : Addr) (f z : Str) : Bool := match PySem.W.findIn K (.ref Ca) f with
  | some (some (.str y t)) => (y == z) && (He.eqO (PySem.W.specialIn K (.str y t) "__get__") (some none) && !PySem.W.copiedNames.contains f)
  | _ => false
end FC
namespace G22
open PySem PySem.Spec PyProof.Rows L2 FC
abbrev top (i : Nat) : Stmt := PySem.Challenge.pw_burstlimits_k22_limits_refused.main.body.getD i (.Pass ⟨0, 0, 0, 0⟩)
abbrev s__law_pen : Stmt := top 43
abbrev N__law_pen : List Str := ["_law_cell"]
abbrev s__law_cell_at : Stmt := top 42
abbrev N__law_cell_at : List Str := ["_law_script", "_law_k"]
abbrev s__law_draw : Stmt := top 44
abbrev N__law_draw : List Str := ["_law_pen_here", "_law_many", "_law_found", "_law_mixed"]
abbrev s__law_seven : Stmt := top 59
abbrev N__law_seven : List Str := ["_law_pen_here", "_law_at"]
abbrev s__law_odds : Stmt := top 56
abbrev N__law_odds : List Str := ["_law_found"]
abbrev s_is_integer : Stmt := top 20
abbrev N_is_integer : List Str := ["thing"]
abbrev s_is_between : Stmt := top 21
abbrev N_is_between : List Str := ["thing", "least", "most"]
abbrev s_is_pair : Stmt := top 22
abbrev N_is_pair : List Str := ["thing"]
abbrev s_are_pairs : Stmt := top 31
abbrev N_are_pairs : List Str := ["things", "thing"]
abbrev s_Limits___init__ : Stmt := inClass (top 32) 0
abbrev N_Limits___init__ : List Str := ["self", "pairs"]
abbrev s_number_in : Stmt := top 29
abbrev N_number_in : List Str := ["word", "sign"]
abbrev s_pair_in : Stmt := top 30
abbrev N_pair_in : List Str := ["line", "most", "length"]
abbrev s_Limits_read : Stmt := inClass (top 32) 1
abbrev N_Limits_read : List Str := ["cls", "text", "found", "line"]
abbrev s__law_text : Stmt := top 49
abbrev N__law_text : List Str := ["_law_pairs_here", "_law_size", "_law_number"]
abbrev s__law_made : Stmt := top 50
abbrev N__law_made : List Str := ["_law_pairs_here"]
abbrev s_need_limits : Stmt := top 33
abbrev N_need_limits : List Str := ["thing"]
abbrev s_Gate___init__ : Stmt := inClass (top 40) 1
abbrev N_Gate___init__ : List Str := ["self", "limits"]
abbrev s_Limits_pairs : Stmt := inClass (top 32) 5
abbrev N_Limits_pairs : List Str := ["self"]
abbrev s__law_objects : Stmt := top 57
abbrev N__law_objects : List Str := ["_law_made_here"]
abbrev s__law_pick : Stmt := top 45
abbrev N__law_pick : List Str := ["_law_pen_here", "_law_some"]
abbrev s__law_pairs : Stmt := top 48
abbrev N__law_pairs : List Str := ["_law_pen_here", "_law_many", "_law_great", "_law_found", "_law_turn", "_law_pair"]
abbrev s__law_is_limit : Stmt := top 52
abbrev N__law_is_limit : List Str := ["_law_thing", "_law_one"]
abbrev s__law_are_limits : Stmt := top 53
abbrev N__law_are_limits : List Str := ["_law_some", "_law_one"]
abbrev s_Limits___repr__ : Stmt := inClass (top 32) 13
abbrev N_Limits___repr__ : List Str := ["self"]
abbrev s_Gate_come : Stmt := inClass (top 40) 3
abbrev N_Gate_come : List Str := ["self"]
abbrev s_Gate___len__ : Stmt := inClass (top 40) 17
abbrev N_Gate___len__ : List Str := ["self"]
abbrev s_Gate_through : Stmt := inClass (top 40) 6
abbrev N_Gate_through : List Str := ["self"]
abbrev s_Gate_waiting : Stmt := inClass (top 40) 7
abbrev N_Gate_waiting : List Str := ["self"]
abbrev s_Gate___repr__ : Stmt := inClass (top 40) 20
abbrev N_Gate___repr__ : List Str := ["self"]
abbrev s__law_kind : Stmt := top 46
abbrev N__law_kind : List Str := ["_law_e", "_law_marks", "_law_words"]
abbrev s__law_said : Stmt := top 47
abbrev N__law_said : List Str := ["_law_call", "_law_e", "_law_word"]
abbrev s__law_due : Stmt := top 55
abbrev N__law_due : List Str := ["_law_pairs_here"]
abbrev s_Limits___getitem__ : Stmt := inClass (top 32) 9
abbrev N_Limits___getitem__ : List Str := ["self", "number"]
abbrev s_Limits___len__ : Stmt := inClass (top 32) 7
abbrev N_Limits___len__ : List Str := ["self"]
abbrev s_Limits_text : Stmt := inClass (top 32) 4
abbrev N_Limits_text : List Str := ["self", "length", "most"]
abbrev s__law_seen : Stmt := top 54
abbrev N__law_seen : List Str := ["_law_made_here", "_law_every", "_law_at"]
abbrev s__law_direct : Stmt := top 51
abbrev N__law_direct : List Str := ["_law_some"]
abbrev s__law_is_right : Stmt := top 58
abbrev N__law_is_right : List Str := ["_law_some", "_law_due_here", "_law_kept", "_law_said_here", "_law_turn"]
abbrev s_law : Stmt := top 60
abbrev N_law : List Str := ["_law_script", "_law_cell", "_law_pen_here", "_law_lap", "_law_some", "_law_seven_here", "_law_at", "_law_rows", "_law_thing", "_law_row"]
abbrev xn : List Str := ["NoLimit", "NoLimits", "NoRow", "NoRows", "NoNumber", "NoLength", "NoLengths", "NoAmount", "NoText", "NothingDone", "TooMany", "Full", "Late"]
abbrev fl : Str := "/claim/cut.py"
abbrev s_TooMany___init__ : Stmt := inClass (top 13) 0
def fb : List Fb := [.fa (.free "max"), .fa (.free "len"), .fa (.free "range"), .fa (.glo "_law_draw"), .isi "Limits", .bf (fun K => kitTB K (He.ga K "Limits")), .isi "Gate", .bf (fun K => kitTB K (He.ga K "Gate")), .fa (.free "int"), .fa (.free "isinstance"), .fa (.free "bool"), .fa (.glo "is_integer"), .fa (.free "tuple"), .fa (.int "MOST_LENGTH" 20), .fa (.glo "is_between"), .fa (.int "MOST_NUMBER" 20), .fa (.glo "is_pair"), .fa (.free "all"), .fa (.free "set"), .fa (.glo "are_pairs"), .bf (fun K => rsB K (He.ga K "NoLimit")), .fa (.glo "NoLimit"), .fa (.int "MOST_LIMITS" 6), .fa (.free "super"), .fa (.glo "TooMany"), .fa (.cls "Limits"), .fa (.noat "Limits" "kept"), .fa (.str "DIGITS" "0123456789"), .fa (.str "HEAD" "at most "), .fa (.glo "number_in"), .fa (.free "str"), .bf (fun K => rsB K (He.ga K "NoText")), .fa (.glo "NoText"), .fa (.glo "pair_in"), .fa (.mkr "Limits"), .fa (.glo "_law_text"), .bf (fun K => PySem.W.readsIn K (He.ga K "Limits") (.type "type")), .bf (fun K => cmB K (He.ga K "Limits") "read"), .fa (.glo "Limits"), .bf (fun K => isiN (He.ga K "Limits") K), .kit "Limits" "Limits" true, .bf (fun K => rsB K (He.ga K "NoLimits")), .fa (.glo "NoLimits"), .fa (.glo "need_limits"), .fa (.cls "Gate"), .fa (.noat "Gate" "base"), .fa (.noat "Gate" "past"), .fa (.glo "_law_made"), .prop "Limits" "pairs", .fa (.mkr "Gate"), .fa (.glo "Gate"), .fa (.glo "_law_pick"), .fa (.glo "_law_is_limit"), .prop "Gate" "come", .prop "Gate" "through", .fa (.free "sum"), .bf (fun K => conB K (He.ga K "Gate") "NAME" "Gate"), .spec "Gate" "__len__", .prop "Gate" "waiting", .fa (.glo "NoRows"), .fa (.glo "NoRow"), .fa (.glo "NoLengths"), .fa (.glo "NoLength"), .fa (.glo "NoNumber"), .fa (.glo "NothingDone"), .fa (.glo "NoAmount"), .fa (.glo "Late"), .fa (.glo "Full"), .fa (.free "ValueError"), .fa (.free "list"), .bf (fun K => rsB K (He.ga K "NoNumber")), .spec "Limits" "__len__", .spec "Limits" "__getitem__", .fa (.meth "Limits" "text"), .spec "Limits" "__repr__", .fa (.free "repr"), .fa (.glo "_law_are_limits"), .fa (.glo "_law_due"), .fa (.glo "_law_direct"), .fa (.glo "_law_seen"), .bf (fun K => kdB xn "BurstError" K), .bf (fun K => xfdB K (He.ga K "TooMany")), .fa (.glo "BurstError"), .fa (.glo "_law_kind"), .fa (.glo "_law_said"), .fa (.glo "_law_cell_at"), .fa (.glo "_law_pen"), .fa (.glo "_law_seven"), .fa (.glo "_law_pairs"), .fa (.glo "_law_objects"), .fa (.glo "_law_odds"), .fa (.glo "_law_is_right"), .spec "Gate" "__repr__", .bf (fun K => tooB fl K (He.ga K "TooMany") (He.ma K (He.ga K "TooMany") "__init__") "amount" "limit"), .fa (.glo "law")]
def fn : List DefP := [⟨fun K => He.ga K "_law_pen", "_law_pen", "_law_pen", defArgs s__law_pen, defBody s__law_pen, defScope s__law_pen, []⟩, ⟨fun K => He.ga K "_law_cell_at", "_law_cell_at", "_law_cell_at", defArgs s__law_cell_at, defBody s__law_cell_at, defScope s__law_cell_at, []⟩, ⟨fun K => He.ga K "_law_draw", "_law_draw", "_law_draw", defArgs s__law_draw, defBody s__law_draw, defScope s__law_draw, []⟩, ⟨fun K => He.ga K "_law_seven", "_law_seven", "_law_seven", defArgs s__law_seven, defBody s__law_seven, defScope s__law_seven, []⟩, ⟨fun K => He.ga K "_law_odds", "_law_odds", "_law_odds", defArgs s__law_odds, defBody s__law_odds, defScope s__law_odds, []⟩, ⟨fun K => He.ga K "is_integer", "is_integer", "is_integer", defArgs s_is_integer, defBody s_is_integer, defScope s_is_integer, []⟩, ⟨fun K => He.ga K "is_between", "is_between", "is_between", defArgs s_is_between, defBody s_is_between, defScope s_is_between, []⟩, ⟨fun K => He.ga K "is_pair", "is_pair", "is_pair", defArgs s_is_pair, defBody s_is_pair, defScope s_is_pair, []⟩, ⟨fun K => He.ga K "are_pairs", "are_pairs", "are_pairs", defArgs s_are_pairs, defBody s_are_pairs, defScope s_are_pairs, []⟩, ⟨fun K => (He.ma K (He.ga K "Limits") "__init__"), "__init__", "Limits.__init__", defArgs s_Limits___init__, defBody s_Limits___init__, defScope s_Limits___init__, []⟩, ⟨fun K => He.ga K "number_in", "number_in", "number_in", defArgs s_number_in, defBody s_number_in, defScope s_number_in, []⟩, ⟨fun K => He.ga K "pair_in", "pair_in", "pair_in", defArgs s_pair_in, defBody s_pair_in, defScope s_pair_in, []⟩, ⟨fun K => (He5.wf K (He.ga K "Limits") "classmethod" "read"), "read", "Limits.read", defArgs s_Limits_read, defBody s_Limits_read, defScope s_Limits_read, []⟩, ⟨fun K => He.ga K "_law_text", "_law_text", "_law_text", defArgs s__law_text, defBody s__law_text, defScope s__law_text, []⟩, ⟨fun K => He.ga K "_law_made", "_law_made", "_law_made", defArgs s__law_made, defBody s__law_made, defScope s__law_made, []⟩, ⟨fun K => He.ga K "need_limits", "need_limits", "need_limits", defArgs s_need_limits, defBody s_need_limits, defScope s_need_limits, []⟩, ⟨fun K => (He.ma K (He.ga K "Gate") "__init__"), "__init__", "Gate.__init__", defArgs s_Gate___init__, defBody s_Gate___init__, defScope s_Gate___init__, []⟩, ⟨fun K => (prG K (He.ga K "Limits") "pairs"), "pairs", "Limits.pairs", defArgs s_Limits_pairs, defBody s_Limits_pairs, defScope s_Limits_pairs, []⟩, ⟨fun K => He.ga K "_law_objects", "_law_objects", "_law_objects", defArgs s__law_objects, defBody s__law_objects, defScope s__law_objects, []⟩, ⟨fun K => He.ga K "_law_pick", "_law_pick", "_law_pick", defArgs s__law_pick, defBody s__law_pick, defScope s__law_pick, []⟩, ⟨fun K => He.ga K "_law_pairs", "_law_pairs", "_law_pairs", defArgs s__law_pairs, defBody s__law_pairs, defScope s__law_pairs, []⟩, ⟨fun K => He.ga K "_law_is_limit", "_law_is_limit", "_law_is_limit", defArgs s__law_is_limit, defBody s__law_is_limit, defScope s__law_is_limit, []⟩, ⟨fun K => He.ga K "_law_are_limits", "_law_are_limits", "_law_are_limits", defArgs s__law_are_limits, defBody s__law_are_limits, defScope s__law_are_limits, []⟩, ⟨fun K => (He.ma K (He.ga K "Limits") "__repr__"), "__repr__", "Limits.__repr__", defArgs s_Limits___repr__, defBody s_Limits___repr__, defScope s_Limits___repr__, []⟩, ⟨fun K => (prG K (He.ga K "Gate") "come"), "come", "Gate.come", defArgs s_Gate_come, defBody s_Gate_come, defScope s_Gate_come, []⟩, ⟨fun K => (He.ma K (He.ga K "Gate") "__len__"), "__len__", "Gate.__len__", defArgs s_Gate___len__, defBody s_Gate___len__, defScope s_Gate___len__, []⟩, ⟨fun K => (prG K (He.ga K "Gate") "through"), "through", "Gate.through", defArgs s_Gate_through, defBody s_Gate_through, defScope s_Gate_through, []⟩, ⟨fun K => (prG K (He.ga K "Gate") "waiting"), "waiting", "Gate.waiting", defArgs s_Gate_waiting, defBody s_Gate_waiting, defScope s_Gate_waiting, []⟩, ⟨fun K => (He.ma K (He.ga K "Gate") "__repr__"), "__repr__", "Gate.__repr__", defArgs s_Gate___repr__, defBody s_Gate___repr__, defScope s_Gate___repr__, []⟩, ⟨fun K => He.ga K "_law_kind", "_law_kind", "_law_kind", defArgs s__law_kind, defBody s__law_kind, defScope s__law_kind, []⟩, ⟨fun K => He.ga K "_law_said", "_law_said", "_law_said", defArgs s__law_said, defBody s__law_said, defScope s__law_said, []⟩, ⟨fun K => He.ga K "_law_due", "_law_due", "_law_due", defArgs s__law_due, defBody s__law_due, defScope s__law_due, []⟩, ⟨fun K => (He.ma K (He.ga K "Limits") "__getitem__"), "__getitem__", "Limits.__getitem__", defArgs s_Limits___getitem__, defBody s_Limits___getitem__, defScope s_Limits___getitem__, []⟩, ⟨fun K => (He.ma K (He.ga K "Limits") "__len__"), "__len__", "Limits.__len__", defArgs s_Limits___len__, defBody s_Limits___len__, defScope s_Limits___len__, []⟩, ⟨fun K => (He.ma K (He.ga K "Limits") "text"), "text", "Limits.text", defArgs s_Limits_text, defBody s_Limits_text, defScope s_Limits_text, []⟩, ⟨fun K => He.ga K "_law_seen", "_law_seen", "_law_seen", defArgs s__law_seen, defBody s__law_seen, defScope s__law_seen, []⟩, ⟨fun K => He.ga K "_law_direct", "_law_direct", "_law_direct", defArgs s__law_direct, defBody s__law_direct, defScope s__law_direct, []⟩, ⟨fun K => He.ga K "_law_is_right", "_law_is_right", "_law_is_right", defArgs s__law_is_right, defBody s__law_is_right, defScope s__law_is_right, []⟩, ⟨fun K => He.ga K "law", "law", "law", defArgs s_law, defBody s_law, defScope s_law, []⟩, ⟨fun K => He.ma K (He.ga K "TooMany") "__init__", "__init__", "TooMany.__init__", defArgs s_TooMany___init__, defBody s_TooMany___init__, defScope s_TooMany___init__, ["__class__"]⟩]
def lf : List DefP := [⟨fun K => He.ga K "_law_is_right", "_law_is_right", "_law_is_right", defArgs s__law_is_right, defBody s__law_is_right, defScope s__law_is_right, []⟩]
def loose : List Str := (["_wall", "__name__", "BurstError", "NoLimit", "NoLimits", "NoRow", "NoRows", "NoNumber", "NoLength", "NoLengths", "NoAmount", "NoText", "NothingDone", "TooMany", "Full", "Late", "MOST_LENGTH", "MOST_NUMBER", "MOST_REQUESTS", "is_integer", "is_between", "is_pair", "is_row", "MOST_LIMITS", "MOST_ASKED", "HEAD", "DIGITS", "number_in", "pair_in", "are_pairs"] : List Str) ++ (["Limits", "need_limits", "sums_up_to", "need_row", "allowed_now", "Gate", "_law_cell_at", "_law_pen", "_law_draw", "_law_pick", "_law_kind", "_law_said", "_law_pairs", "_law_text", "_law_made", "_law_direct", "_law_is_limit", "_law_are_limits", "_law_seen", "_law_due", "_law_odds", "_law_objects", "_law_is_right", "_law_seven"] : List Str)
abbrev R : PySem.W.OpenRow := PySem.W.OpenLaw.row PySem.Challenge.rw_burstlimits_k22_limits_refused
abbrev hk : PySem.W.Hook := hookP 6 (fun K => fb.all fun f => f.ok K) fn lf
def ob (s : PySem.W.SharedT) : AlP × Bool := obsP 6 (fun K => fb.all fun f => f.ok K) fn lf (HandSHeadRun.getT s)
theorem ob_eq (s : PySem.W.SharedT) : ob s = hk.obs s.abs := obsP_eq (HandSHeadRun.getT_eq s)
theorem runB (w : World) : ∀ os : OsState, (HandSHeadRun.endF (HandSHeadRun.stepQ (HandSHeadRun.denQ HandSHeadRun.tabQ) R.prog w) 9000 R.prog w os).map (fun s => obsP 6 (fun K => fb.all fun f => f.ok K) fn lf (HandSHeadRun.getT s)) = some (valP fn, true) := by
  intro os
  kernel_rfl
theorem runL (w : World) : ∀ os : OsState, (HandSHeadRun.endF (HandSHeadRun.stepQ (HandSHeadRun.denQ HandSHeadRun.tabQ) R.prog w) 9000 R.prog w os).map (fun s => HandSHeadRun.looksF R.prog (PySem.W.boot_heap w.params) s.abs) = some true := by
  intro os
  kernel_rfl
theorem runS (w : World) : ∀ os : OsState, (HandSHeadRun.endF (HandSHeadRun.stepQ (HandSHeadRun.denQ HandSHeadRun.tabQ) R.prog w) 9000 R.prog w os).map (fun s => HandSHeadRun.seenQ (PySem.W.view R.prog [60]) loose (importedModules R.prog.main.body) (fun s => PySem.W.xlAt (PySem.W.view R.prog [60]) [] s && PySem.W.recOk R.toRowW.records s) s.abs) = some (PySem.W.openGood (PySem.W.view R.prog [60]) loose) := by
  intro os
  kernel_rfl
theorem run (w : World) : HandSHeadRun.RunEq R (PySem.W.view R.prog [60]) hk ob 9000 loose w := FC.run_three (runL w) (runS w) (fun os => runB w os)
end G22
namespace FC
open PySem PySem.Spec PyProof.Rows L2
/-- data, by value -/
inductive D where
  | non | bl (b : Bool) | int (i : Int) | str (x : Str)
  | lst (xs : List D) | tup (xs : List D) | dct (kvs : List (Key × D))
  | ins (c : Nat) (fs : List (Str × D)) | raw (v : V) | cls (c : Nat) | ft (ns : List Int)
/-- a thing that is changed -/
inductive MO where
  | lst (xs : List D) | ins (c : Nat) (fs : List (Str × D))
/-- what stands in a slot: nothing, data, a thing of one's own (its tag: the parameter that brought it), a list that is only looked at -/
inductive SV where
  | none | val (d : D) | own (t : Option Nat) (o : MO) | view (xs : List D)
abbrev Gm := List SV
structure Ct where
  K : PySem.W.Frag
  cl : Nat → Addr
  ec : Nat → Addr
  T : List (Addr × Str)
structure Ex where
  c : Nat
  fs : List (Str × D)
def isTbl : HO → Bool | .tbl _ => true | _ => false
/-- what may change: nothing (not a table either), or some addresses (and tables grow) -/
inductive KN where
  | no | of (N : Addr → Prop)
instance : Coe (Addr → Prop) KN := ⟨KN.of⟩
def KN.at : KN → Addr → Prop
  | .no, _ => False
  | .of N, a => N a
def KN.ok : KN → HO → HO → Prop
  | .no, o, o' => o' = o
  | .of _, _, _ => True
theorem KN.ok_refl : ∀ (N : KN) (o : HO), N.ok o o
  | .no, _ => rfl
  | .of _, _ => trivial
theorem KN.ok_trans : ∀ (N : KN) {a b c : HO}, N.ok a b → N.ok b c → N.ok a c
  | .no, _, _, _, e1, e2 => e2.trans e1
  | .of _, _, _, _, _, _ => trivial
def Keep (N : KN) (H H' : Hp) : Prop := ∀ a o, H a = some o → ¬ N.at a → (isTbl o = false → H' a = some o) ∧ (isTbl o = true → ∃ o', H' a = some o' ∧ isTbl o' = true ∧ N.ok o o')
abbrev Nope : Addr → Prop := fun _ => False
abbrev Keep0 := Keep KN.no
theorem Keep.refl (N : KN) (H : Hp) : Keep N H H := fun _ o e _ => ⟨fun _ => e, fun t => ⟨o, e, t, N.ok_refl o⟩⟩
theorem Keep.there {N : KN} {H H' : Hp} (k : Keep N H H') {a : Addr} {o : HO} (e : H a = some o) (n : ¬ N.at a) : ∃ o', H' a = some o' := by
  cases t : isTbl o with
  | false => exact ⟨o, (k a o e n).1 t⟩
  | true => obtain ⟨o', h, _⟩ := (k a o e n).2 t; exact ⟨o', h⟩
theorem Keep.mono {N : KN} {N' : Addr → Prop} {H H' : Hp} (k : Keep N H H') (h : ∀ a, N.at a → N' a) : Keep (.of N') H H' := fun a o e n => ⟨(k a o e fun z => n (h a z)).1, fun t => by
  obtain ⟨o', e1, t1, _⟩ := (k a o e fun z => n (h a z)).2 t
  exact ⟨o', e1, t1, trivial⟩⟩
theorem Keep.trans {N : KN} {H H1 H2 : Hp} (a : Keep N H H1) (b : Keep N H1 H2) : Keep N H H2 := fun c o e n => by
  cases t : isTbl o with
  | false =>
    have e1 := (a c o e n).1 t
    exact ⟨fun _ => (b c o e1 n).1 t, fun z => by cases z⟩
  | true =>
    obtain ⟨o1, e1, t1, k1⟩ := (a c o e n).2 t
    refine ⟨fun z => (by cases z), fun _ => ?_⟩
    obtain ⟨o2, e2, t2, k2⟩ := (b c o1 e1 n).2 t1
    exact ⟨o2, e2, t2, N.ok_trans k1 k2⟩
theorem Keep.new {N : KN} {H : Hp} {p : Addr} {o : HO} (h : H p = none) : Keep N H (upd H p o) := fun a u e _ => by
  have ne : a ≠ p := ne_of_none e h
  rw [upd_ne ne]
  exact ⟨fun _ => e, fun t => ⟨u, e, t, N.ok_refl u⟩⟩
theorem Keep.all {H H' : Hp} (k : Keep0 H H') {a : Addr} {o : HO} (e : H a = some o) : H' a = some o := by
  cases t : isTbl o with
  | false => exact (k a o e id).1 t
  | true =>
    obtain ⟨o', e1, _, q⟩ := (k a o e id).2 t
    rw [← show o' = o from q]
    exact e1
theorem Keep.at {H H' : Hp} (k : Keep0 H H') {a : Addr} {o : HO} (e : H a = some o) (_t : isTbl o = false := by rfl) : H' a = some o := k.all e
theorem Keep.free {N : KN} {H H' : Hp} (k : Keep N H H') {a : Addr} (e : H' a = none) (n : ¬ N.at a) : H a = none := by
  cases q : H a with
  | none => rfl
  | some o => obtain ⟨o', z⟩ := k.there q n; rw [e] at z; cases z
theorem Keep0.any {N : Addr → Prop} {H H' : Hp} (k : Keep0 H H') : Keep (.of N) H H' := k.mono fun _ z => z.elim
mutual
inductive Rep (C : Ct) (M : Addr → Prop) (H : Hp) : V → D → Prop
  | non : Rep C M H .non .non
  | bl (b : Bool) : Rep C M H (.bl b) (.bl b)
  | int (i : Int) : Rep C M H (.int i) (.int i)
  | str (x : Str) : Rep C M H (.str x) (.str x)
  | lst {a : Addr} {vs : List V} {ds : List D} : H a = some (.lst vs) → ¬ M a → RepL C M H vs ds → Rep C M H (.ref a) (.lst ds)
  | tup {a : Addr} {vs : List V} {ds : List D} : H a = some (.tup vs) → ¬ M a → RepL C M H vs ds → Rep C M H (.ref a) (.tup ds)
  | dct {a : Addr} {vs : List (Key × V)} {ds : List (Key × D)} : H a = some (.dK vs) → ¬ M a → RepK C M H vs ds → Rep C M H (.ref a) (.dct ds)
  | ins {a dx : Addr} {c : Nat} {vs : List (Str × V)} {ds : List (Str × D)} : H a = some (.ins (C.cl c) dx vs) → ¬ M a → RepF C M H vs ds → Rep C M H (.ref a) (.ins c ds)
  | raw (v : V) : Rep C M H v (.raw v)
  | cls (c : Nat) : Rep C M H (.ref (C.cl c)) (.cls c)
  | ft {a : Addr} {o : Obj} {ns : List Int} : H a = some (.frz o (.tup (ns.map V.int))) → o.dict = none → ¬ M a → Rep C M H (.ref a) (.ft ns)
inductive RepL (C : Ct) (M : Addr → Prop) (H : Hp) : List V → List D → Prop
  | nil : RepL C M H [] []
  | cons {v : V} {vs : List V} {d : D} {ds : List D} : Rep C M H v d → RepL C M H vs ds → RepL C M H (v :: vs) (d :: ds)
inductive RepK (C : Ct) (M : Addr → Prop) (H : Hp) : List (Key × V) → List (Key × D) → Prop
  | nil : RepK C M H [] []
  | cons {k : Key} {v : V} {vs : List (Key × V)} {d : D} {ds : List (Key × D)} : Rep C M H v d → RepK C M H vs ds → RepK C M H ((k, v) :: vs) ((k, d) :: ds)
inductive RepF (C : Ct) (M : Addr → Prop) (H : Hp) : List (Str × V) → List (Str × D) → Prop
  | nil : RepF C M H [] []
  | cons {k : Str} {v : V} {vs : List (Str × V)} {d : D} {ds : List (Str × D)} : Rep C M H v d → RepF C M H vs ds → RepF C M H ((k, v) :: vs) ((k, d) :: ds)
end
section
variable {C : Ct} {M M' N : Addr → Prop} {H H' : Hp}
/-- what a step must leave for data to stand -/
structure Fine (M M' : Addr → Prop) (H H' : Hp) : Prop where
  at_ : ∀ a o, H a = some o → ¬ M a → isTbl o = false → H' a = some o
  no : ∀ a o, H a = some o → M' a → M a
mutual
theorem Rep.fine (k : Fine M M' H H') : ∀ {d : D} {v : V}, Rep C M H v d → Rep C M' H' v d
  | .non, _, .non => .non
  | .bl _, _, .bl b => .bl b
  | .int _, _, .int i => .int i
  | .str _, _, .str x => .str x
  | .lst _, _, .lst e n r => .lst (k.at_ _ _ e n rfl) (fun z => n (k.no _ _ e z)) (RepL.fine k r)
  | .tup _, _, .tup e n r => .tup (k.at_ _ _ e n rfl) (fun z => n (k.no _ _ e z)) (RepL.fine k r)
  | .dct _, _, .dct e n r => .dct (k.at_ _ _ e n rfl) (fun z => n (k.no _ _ e z)) (RepK.fine k r)
  | .ins _ _, _, .ins e n r => .ins (k.at_ _ _ e n rfl) (fun z => n (k.no _ _ e z)) (RepF.fine k r)
  | .raw _, _, .raw v => .raw v
  | .cls _, _, .cls c => .cls c
  | .ft _, _, .ft e d n => .ft (k.at_ _ _ e n rfl) d (fun z => n (k.no _ _ e z))
theorem RepL.fine (k : Fine M M' H H') : ∀ {ds : List D} {vs : List V}, RepL C M H vs ds → RepL C M' H' vs ds
  | [], _, .nil => .nil
  | _ :: _, _, .cons r t => .cons (Rep.fine k r) (RepL.fine k t)
theorem RepK.fine (k : Fine M M' H H') : ∀ {ds : List (Key × D)} {vs : List (Key × V)}, RepK C M H vs ds → RepK C M' H' vs ds
  | [], _, .nil => .nil
  | (_, _) :: _, _, .cons r t => .cons (Rep.fine k r) (RepK.fine k t)
theorem RepF.fine (k : Fine M M' H H') : ∀ {ds : List (Str × D)} {vs : List (Str × V)}, RepF C M H vs ds → RepF C M' H' vs ds
  | [], _, .nil => .nil
  | (_, _) :: _, _, .cons r t => .cons (Rep.fine k r) (RepF.fine k t)
end
theorem Fine.keep (k : Keep N H H') (h : ∀ a, N a → M a) : Fine M M H H' := ⟨fun a o e n t => (k a o e fun z => n (h a z)).1 t, fun _ _ _ z => z⟩
theorem Fine.keep0 (k : Keep0 H H') : Fine M M H H' := ⟨fun a o e _ _ => k.all e, fun _ _ _ z => z⟩
theorem Fine.weak (h : ∀ a o, H a = some o → M' a → M a) : Fine M M' H H := ⟨fun _ _ e _ _ => e, h⟩
/-- one more address that nothing reaches yet -/
def adj (M : Addr → Prop) (p : Addr) : Addr → Prop := fun a => M a ∨ a = p
theorem Fine.plus {p : Addr} (h : H p = none) : Fine M (adj M p) H H := Fine.weak fun a o e z => z.elim id fun q => by rw [q, h] at e; cases e
theorem Fine.trans {M1 M2 M3 : Addr → Prop} {H1 H2 H3 : Hp} (a : Fine M1 M2 H1 H2) (b : Fine M2 M3 H2 H3) (t : ∀ c o, H1 c = some o → isTbl o = true → M3 c → M1 c) : Fine M1 M3 H1 H3 :=
  ⟨fun c o e n t => b.at_ c o (a.at_ c o e n t) (fun z => n (a.no c o e z)) t, fun c o e z => by
    cases q : isTbl o with
    | true => exact t c o e q z
    | false =>
      by_cases n : M1 c
      · exact n
      · exact a.no c o e (b.no c o (a.at_ c o e n q) z)⟩
theorem RepL.length : ∀ {ds : List D} {vs : List V}, RepL C M H vs ds → vs.length = ds.length
  | [], _, .nil => rfl
  | _ :: _, _, .cons _ t => congrArg (· + 1) (RepL.length t)
theorem RepL.get : ∀ {ds : List D} {vs : List V} {i : Nat} {d : D}, RepL C M H vs ds → ds[i]? = some d → ∃ v, vs[i]? = some v ∧ Rep C M H v d
  | _ :: _, _, 0, d, .cons r t, e => by cases e; exact ⟨_, rfl, r⟩
  | _ :: _, _, i + 1, d, .cons r t, e => by
    obtain ⟨v, h1, h2⟩ := RepL.get (i := i) t (by simpa using e)
    exact ⟨v, by simpa using h1, h2⟩
theorem RepL.append : ∀ {ds es : List D} {vs ws : List V}, RepL C M H vs ds → RepL C M H ws es → RepL C M H (vs ++ ws) (ds ++ es)
  | [], _, _, _, .nil, s => s
  | _ :: _, _, _, _, .cons r t, s => .cons r (RepL.append t s)
theorem RepL.drop : ∀ {ds : List D} {vs : List V} (n : Nat), RepL C M H vs ds → RepL C M H (vs.drop n) (ds.drop n)
  | _, _, 0, r => r
  | [], _, _ + 1, .nil => .nil
  | _ :: _, _, n + 1, .cons _ t => RepL.drop n t
theorem RepL.take : ∀ {ds : List D} {vs : List V} (n : Nat), RepL C M H vs ds → RepL C M H (vs.take n) (ds.take n)
  | _, _, 0, r => .nil
  | [], _, _ + 1, .nil => .nil
  | _ :: _, _, n + 1, .cons r t => .cons r (RepL.take n t)
theorem RepL.set : ∀ {ds : List D} {vs : List V} {v : V} {d : D} (n : Nat), Rep C M H v d → RepL C M H vs ds → RepL C M H (vs.set n v) (ds.set n d)
  | [], _, _, _, _, _, .nil => .nil
  | _ :: _, _, _, _, 0, q, .cons r t => .cons q t
  | _ :: _, _, _, _, n + 1, q, .cons r t => .cons r (RepL.set n q t)
theorem RepL.reverse : ∀ {ds : List D} {vs : List V}, RepL C M H vs ds → RepL C M H vs.reverse ds.reverse
  | [], _, .nil => .nil
  | _ :: _, _, .cons r t => by
    rw [List.reverse_cons, List.reverse_cons]
    exact RepL.append (RepL.reverse t) (.cons r .nil)
theorem RepF.lookup : ∀ {ds : List (Str × D)} {vs : List (Str × V)} {f : Str} {d : D}, RepF C M H vs ds → ds.lookup f = some d → ∃ v, vs.lookup f = some v ∧ Rep C M H v d
  | (k, _) :: _, _, f, d, .cons r t, e => by
    rw [List.lookup_cons] at e ⊢
    split at e
    · cases e; exact ⟨_, rfl, r⟩
    · exact RepF.lookup t e
theorem RepF.lookupN : ∀ {ds : List (Str × D)} {vs : List (Str × V)} {f : Str}, RepF C M H vs ds → ds.lookup f = none → vs.lookup f = none
  | [], _, _, .nil, _ => rfl
  | (k, _) :: _, _, f, .cons r t, e => by
    rw [List.lookup_cons] at e ⊢
    split at e
    · cases e
    · exact RepF.lookupN t e
theorem RepF.length : ∀ {ds : List (Str × D)} {vs : List (Str × V)}, RepF C M H vs ds → vs.length = ds.length
  | [], _, .nil => rfl
  | (_, _) :: _, _, .cons _ t => congrArg (· + 1) (RepF.length t)
end
/-- the thing at a -/
def ORep (C : Ct) (M : Addr → Prop) (H : Hp) (a : Addr) : MO → Prop
  | .lst xs => ∃ vs, H a = some (.lst vs) ∧ RepL C M H vs xs
  | .ins c fs => ∃ dx vfs, H a = some (.ins (C.cl c) dx vfs) ∧ RepF C M H vfs fs
theorem ORep.fine {C : Ct} {M M' : Addr → Prop} {H H' : Hp} {a : Addr} (k : Fine M M' H H') (ka : ∀ o, H a = some o → isTbl o = false → H' a = some o) : ∀ {o : MO}, ORep C M H a o → ORep C M' H' a o
  | .lst _, ⟨vs, e, r⟩ => ⟨vs, ka _ e rfl, r.fine k⟩
  | .ins _ _, ⟨dx, vfs, e, r⟩ => ⟨dx, vfs, ka _ e rfl, r.fine k⟩
theorem ORep.there {C : Ct} {M : Addr → Prop} {H : Hp} {a : Addr} : ∀ {o : MO}, ORep C M H a o → ∃ u, H a = some u ∧ isTbl u = false
  | .lst _, ⟨_, e, _⟩ => ⟨_, e, rfl⟩
  | .ins _ _, ⟨_, _, e, _⟩ => ⟨_, e, rfl⟩
/-- a list that is looked at: frozen, or the written part's -/
def Seen (C : Ct) (H : Hp) (a : Addr) (vs : List V) : Prop :=
  (∃ o, H a = some (.frz o (.lst vs))) ∨ (SqL C.K (fun _ => none) a vs)
theorem Seen.sql {C : Ct} {H : Hp} {a : Addr} {vs : List V} (s : Seen C H a vs) : SqL C.K H a vs := by
  rcases s with ⟨o, h⟩ | s
  · exact .inl (.inr ⟨o, h⟩)
  · rcases s with (h | ⟨o, h⟩) | h
    · cases h
    · cases h
    · exact .inr h
def SlotOk (C : Ct) (pens : Nat → Addr) (M : Addr → Prop) (H : Hp) (x : Option V) : SV → Prop
  | .none => True
  | .val d => ∃ v, x = some v ∧ Rep C M H v d
  | .own t o => ∃ a, x = some (.ref a) ∧ M a ∧ ORep C M H a o ∧ ∀ k, t = some k → pens k = a
  | .view xs => ∃ a vs, x = some (.ref a) ∧ Seen C H a vs ∧ RepL C M H vs xs
def Own (γ : Gm) (σ : L2.St) (a : Addr) : Prop := ∃ (i : Nat) (t : Option Nat) (o : MO), γ[i]? = some (.own t o) ∧ σ[i]? = some (some (.ref a))
structure EnvRep (C : Ct) (pens : Nat → Addr) (M : Addr → Prop) (γ : Gm) (σ : L2.St) (H : Hp) : Prop where
  len : σ.length = γ.length
  ok : ∀ (i : Nat) (sv : SV) (x : Option V), γ[i]? = some sv → σ[i]? = some x → SlotOk C pens M H x sv
  inj : ∀ (i j : Nat) (t : Option Nat) (o : MO) (t' : Option Nat) (o' : MO) (a : Addr), γ[i]? = some (.own t o) → γ[j]? = some (.own t' o') → σ[i]? = some (some (.ref a)) → σ[j]? = some (some (.ref a)) → i = j
  dom : ∀ a, M a → ∃ o, H a = some o
  tab : LamX.Tabs C.T H
section
variable {C : Ct} {pens : Nat → Addr} {M M' N : Addr → Prop} {γ γ' : Gm} {σ σ' : L2.St} {H H' : Hp}
theorem EnvRep.slot (E : EnvRep C pens M γ σ H) {i : Nat} {sv : SV} (e : γ[i]? = some sv) : ∃ x, σ[i]? = some x ∧ SlotOk C pens M H x sv := by
  obtain ⟨hi, _⟩ := List.getElem?_eq_some_iff.mp e
  have hs : i < σ.length := by rw [E.len]; exact hi
  exact ⟨σ[i], List.getElem?_eq_getElem hs, E.ok i sv _ e (List.getElem?_eq_getElem hs)⟩
theorem EnvRep.ownM (E : EnvRep C pens M γ σ H) {a : Addr} (o : Own γ σ a) : M a ∧ ∃ u, H a = some u ∧ isTbl u = false := by
  obtain ⟨i, t, u, h1, h2⟩ := o
  obtain ⟨b, e, m, r, _⟩ := E.ok i _ _ h1 h2
  cases e
  exact ⟨m, r.there⟩
theorem SlotOk.fine {x : Option V} (k : Fine M M' H H') (hm : ∀ a, M a → M' a) (hs : ∀ a vs, Seen C H a vs → Seen C H' a vs) : ∀ {sv : SV}, (∀ (t : Option Nat) (o : MO) (a : Addr), sv = .own t o → x = some (.ref a) → ∀ u, H a = some u → isTbl u = false → H' a = some u) → SlotOk C pens M H x sv → SlotOk C pens M' H' x sv
  | .none, _, _ => trivial
  | .val _, _, ⟨v, e, r⟩ => ⟨v, e, r.fine k⟩
  | .own _ _, ho, ⟨a, e, m, r, p⟩ => ⟨a, e, hm a m, r.fine k (ho _ _ a rfl e), p⟩
  | .view _, _, ⟨a, vs, e, s, r⟩ => ⟨a, vs, e, hs a vs s, r.fine k⟩
theorem Seen.keep (k : Keep0 H H') {a : Addr} {vs : List V} (s : Seen C H a vs) : Seen C H' a vs := by
  rcases s with ⟨o, h⟩ | s
  · exact .inl ⟨o, k.at h⟩
  · exact .inr s
theorem EnvRep.keep (E : EnvRep C pens M γ σ H) (k : Keep0 H H') : EnvRep C pens M γ σ H' where
  len := E.len
  ok := fun i sv x h1 h2 => (E.ok i sv x h1 h2).fine (Fine.keep0 k) (fun _ z => z) (fun _ _ s => s.keep k) fun _ _ a _ _ u q t => k.at q t
  inj := E.inj
  dom := fun a m => by obtain ⟨o, e⟩ := E.dom a m; exact k.there e id
  tab := E.tab.ext fun _ _ e => k.all e
/-- one more address of one's own -/
theorem EnvRep.plus {p : Addr} (E : EnvRep C pens M γ σ H) (hp : H p = none) (h' : ∃ o, H' p = some o) (k : Keep0 H H') : EnvRep C pens (adj M p) γ σ H' where
  len := E.len
  ok := fun i sv x h1 h2 => (E.ok i sv x h1 h2).fine (Fine.trans (Fine.plus hp) (Fine.keep0 k) fun a o e _ z => z.elim id fun q => by rw [q, hp] at e; cases e) (fun _ z => .inl z) (fun _ _ s => s.keep k) fun _ _ a _ _ u q t => k.at q t
  inj := E.inj
  dom := fun a m => by
    rcases m with m | m
    · obtain ⟨o, e⟩ := E.dom a m; exact k.there e id
    · rw [m]; exact h'
  tab := E.tab.ext fun _ _ e => k.all e
/-- fewer that are not to be reached (none of the own ones) -/
theorem EnvRep.weak (E : EnvRep C pens M γ σ H) (h : ∀ a, M' a → M a) (ho : ∀ a, Own γ σ a → M' a) : EnvRep C pens M' γ σ H where
  len := E.len
  ok := fun i sv x h1 h2 => by
    have k : Fine M M' H H := Fine.weak fun a _ _ z => h a z
    have q := E.ok i sv x h1 h2
    cases sv with
    | none => trivial
    | val d => obtain ⟨v, e, r⟩ := q; exact ⟨v, e, r.fine k⟩
    | own t o => obtain ⟨a, e, m, r, p⟩ := q; exact ⟨a, e, ho a ⟨i, t, o, h1, by rw [h2, e]⟩, r.fine k fun _ z _ => z, p⟩
    | view xs => obtain ⟨a, vs, e, s, r⟩ := q; exact ⟨a, vs, e, s, r.fine k⟩
  inj := E.inj
  dom := fun a m => E.dom a (h a m)
  tab := E.tab
end
/-! ### what a step computes -/
inductive R (α : Type) where
  | ok (a : α) (γ : Gm) | ex (e : Ex) (γ : Gm) | st
abbrev F (α : Type) := Gm → R α
def F.bind {α β : Type} (f : F α) (g : α → F β) : F β := fun γ => match f γ with
  | .ok a γ' => g a γ'
  | .ex e γ' => .ex e γ'
  | .st => .st
theorem bind_ok {α β : Type} {f : F α} {g : α → F β} {γ γ' : Gm} {a : α} (h : f γ = .ok a γ') : F.bind f g γ = g a γ' := by unfold F.bind; rw [h]
theorem bind_ex {α β : Type} {f : F α} {g : α → F β} {γ γ' : Gm} {e : Ex} (h : f γ = .ex e γ') : F.bind f g γ = .ex e γ' := by unfold F.bind; rw [h]
theorem bind_st {α β : Type} {f : F α} {g : α → F β} {γ : Gm} (h : f γ = .st) : F.bind f g γ = .st := by unfold F.bind; rw [h]
def liftO {α : Type} (o : Option α) : F α := fun γ => match o with
  | some a => .ok a γ
  | none => .st
/-- the same but for what the own things hold -/
def patOf : SV → SV
  | .own t _ => .own t (.lst [])
  | s => s
def Pat (γ γ' : Gm) : Prop := γ.map patOf = γ'.map patOf
theorem Pat.refl (γ : Gm) : Pat γ γ := rfl
theorem Pat.trans {a b c : Gm} (h : Pat a b) (k : Pat b c) : Pat a c := Eq.trans h k
theorem Pat.symm {a b : Gm} (h : Pat a b) : Pat b a := Eq.symm h
theorem Pat.at {γ γ' : Gm} (h : Pat γ γ') (i : Nat) : (γ[i]?).map patOf = (γ'[i]?).map patOf := by
  have e : (γ.map patOf)[i]? = (γ'.map patOf)[i]? := by rw [show γ.map patOf = γ'.map patOf from h]
  rwa [List.getElem?_map, List.getElem?_map] at e
theorem Pat.own {γ γ' : Gm} (h : Pat γ γ') {i : Nat} {t : Option Nat} {o : MO} (e : γ[i]? = some (.own t o)) : ∃ o', γ'[i]? = some (.own t o') := by
  have q := h.at i
  rw [e] at q
  cases r : γ'[i]? with
  | none => rw [r] at q; cases q
  | some s =>
    rw [r] at q
    cases s with
    | own t' o' => cases q; exact ⟨o', rfl⟩
    | none => cases q
    | val _ => cases q
    | view _ => cases q
theorem Pat.Own {γ γ' : Gm} {σ : L2.St} {a : Addr} (h : Pat γ γ') (o : Own γ σ a) : Own γ' σ a := by
  obtain ⟨i, t, o, h1, h2⟩ := o
  obtain ⟨o', e⟩ := h.own h1
  exact ⟨i, t, o', e, h2⟩
theorem Pat.length {γ γ' : Gm} (h : Pat γ γ') : γ.length = γ'.length := by
  have e := congrArg List.length (show γ.map patOf = γ'.map patOf from h)
  rwa [List.length_map, List.length_map] at e
/-- data, or a list (a thing) whose own address nothing else names: looked at once -/
inductive SRep (C : Ct) (M : Addr → Prop) (H : Hp) : V → D → Prop
  | rep {v : V} {d : D} (r : Rep C M H v d) : SRep C M H v d
  | lst {a : Addr} {vs : List V} {xs : List D} (e : H a = some (.lst vs)) (r : RepL C M H vs xs) : SRep C M H (.ref a) (.lst xs)
  | ins {a dx : Addr} {c : Nat} {vs : List (Str × V)} {ds : List (Str × D)} (e : H a = some (.ins (C.cl c) dx vs)) (r : RepF C M H vs ds) : SRep C M H (.ref a) (.ins c ds)
theorem SqL.keep0 {K : PySem.W.Frag} {H H' : Hp} {a : Addr} {vs : List V} (k : Keep0 H H') (s : SqL K H a vs) : SqL K H' a vs := by
  rcases s with (h | ⟨o, h⟩) | h
  · exact .inl (.inl (k.at h))
  · exact .inl (.inr ⟨o, k.at h⟩)
  · exact .inr h
theorem SRep.keep {C : Ct} {M : Addr → Prop} {H H' : Hp} {v : V} {d : D} (k : Keep0 H H') (s : SRep C M H v d) : SRep C M H' v d := by
  cases s with
  | rep r => exact .rep (r.fine (Fine.keep0 k))
  | lst e r => exact .lst (k.at e) (r.fine (Fine.keep0 k))
  | ins e r => exact .ins (k.at e) (r.fine (Fine.keep0 k))
/-- Rep, or SRep -/
def MRep (m : Bool) (C : Ct) (M : Addr → Prop) (H : Hp) (v : V) (d : D) : Prop := if m = true then Rep C M H v d else SRep C M H v d
theorem MRep.s {m : Bool} {C : Ct} {M : Addr → Prop} {H : Hp} {v : V} {d : D} (h : MRep m C M H v d) : SRep C M H v d := by
  cases m with
  | true => exact .rep h
  | false => exact h
theorem MRep.r {C : Ct} {M : Addr → Prop} {H : Hp} {v : V} {d : D} (h : MRep true C M H v d) : Rep C M H v d := h
def ExRep (C : Ct) (M : Addr → Prop) (e : Ex) (cls : Value) (d : Option Addr) (H : Hp) : Prop :=
  cls = .ref (C.ec e.c) ∧ ((e.fs = [] ∧ d = none) ∨ ∃ dx vs, d = some dx ∧ H dx = some (.xd vs) ∧ RepF C M H vs e.fs)
/-- what is left behind a step: σ as it is -/
structure Stp (C : Ct) (pens : Nat → Addr) (M : Addr → Prop) (σ : L2.St) (γ : Gm) (H : Hp) (γ' : Gm) (H' : Hp) : Prop where
  env : EnvRep C pens M γ' σ H'
  keep : Keep (Own γ σ) H H'
  pat : Pat γ γ'
theorem Stp.trans {C : Ct} {pens : Nat → Addr} {M : Addr → Prop} {σ : L2.St} {γ γ1 γ2 : Gm} {H H1 H2 : Hp} (a : Stp C pens M σ γ H γ1 H1) (b : Stp C pens M σ γ1 H1 γ2 H2) : Stp C pens M σ γ H γ2 H2 :=
  ⟨b.env, a.keep.trans (b.keep.mono fun _ z => a.pat.symm.Own z), a.pat.trans b.pat⟩
theorem Stp.pure {C : Ct} {pens : Nat → Addr} {M : Addr → Prop} {σ : L2.St} {γ : Gm} {H H' : Hp} (E : EnvRep C pens M γ σ H) (k : Keep0 H H') : Stp C pens M σ γ H γ H' := ⟨E.keep k, k.any, rfl⟩
theorem Stp.rep {C : Ct} {pens : Nat → Addr} {M : Addr → Prop} {σ : L2.St} {γ γ' : Gm} {H H' : Hp} (E : EnvRep C pens M γ σ H) (s : Stp C pens M σ γ H γ' H') {v : V} {d : D} (r : Rep C M H v d) : Rep C M H' v d :=
  r.fine (Fine.keep s.keep fun _ z => (E.ownM z).1)
def aft (C : Ct) (W : WX) (pens : Nat → Addr) (M : Addr → Prop) (σ : L2.St) (γ : Gm) (H : Hp) (m p : Bool) (r : R D) (Q : VK) : Prop := match r with
  | .ok d γ' => ∀ v H', Stp C pens M σ γ H γ' H' → (p = true → γ' = γ ∧ Keep0 H H') → MRep m C M H' v d → Q v H'
  | .ex e γ' => ∀ cls d H', Stp C pens M σ γ H γ' H' → ExRep C M e cls d H' → W cls d σ H'
  | .st => False
/-- the reading of an expression by what it computes -/
def tF (C : Ct) (W : WX) (m p : Bool) (f : F D) : TE := fun σ H Q => ∃ pens M γ, EnvRep C pens M γ σ H ∧ aft C W pens M σ γ H m p (f γ) Q
def FX (C : Ct) (W : WX) (m p : Bool) (X : Cx) (e : Expr) (f : F D) : Prop := PE X e (tF C W m p f)
theorem PE.imp {X : Cx} {e : Expr} {t t' : TE} (h : PE X e t) (k : ∀ σ H Q, t' σ H Q → t σ H Q) : PE X e t' := ⟨fun pins s σ H Q I q => h.run pins s σ H Q I (k σ H Q q)⟩
end FC
namespace FC
open PySem PySem.Spec PyProof.Rows L2
/-! ### combinators -/
def f0 (d : D) : F D := fun γ => .ok d γ
def f1 {α β : Type} (g : α → Option β) (fa : F α) : F β := F.bind fa fun x => liftO (g x)
def f2 {α β δ : Type} (g : α → β → Option δ) (fa : F α) (fb : F β) : F δ := F.bind fa fun x => F.bind fb fun y => liftO (g x y)
def fVar (i : Nat) : F D := fun γ => match γ[i]? with
  | some (.val d) => .ok d γ
  | _ => .st
/-- a name looked at: data, a thing of one's own, the script -/
def fLook (i : Nat) : F D := fun γ => match γ[i]? with
  | some (.val d) => .ok d γ
  | some (.own _ (.lst xs)) => .ok (.lst xs) γ
  | some (.own _ (.ins c fs)) => .ok (.ins c fs) γ
  | _ => .st
section
variable {C : Ct} {W : WX} {X : Cx} {m p m1 p1 m2 p2 m3 p3 : Bool} {a b e' : Expr} {fa fb : F D}
/-- a step whose own part is pure -/
theorem aft_fin {pens : Nat → Addr} {M : Addr → Prop} {σ : L2.St} {γ γ' : Gm} {H H' : Hp} {q : Bool} {Q : VK} {d : D} (S : Stp C pens M σ γ H γ' H') (P : q = true → γ' = γ ∧ Keep0 H H')
    (h : aft C W pens M σ γ H true q (.ok d γ') Q) : ∀ v H2, Keep0 H' H2 → Rep C M H2 v d → Q v H2 := fun v H2 k r =>
  h v H2 (S.trans (Stp.pure S.env k)) (fun z => ⟨(P z).1, (P z).2.trans k⟩) r
theorem fx_const {v : V} {d : D} (h : PE X a (tC v)) (r : ∀ M H, Rep C M H v d) : FX C W true true X a (f0 d) := PE.imp h fun σ H Q ⟨pens, M, γ, E, k⟩ =>
  k v H (Stp.pure E (Keep.refl _ _)) (fun _ => ⟨rfl, Keep.refl _ _⟩) (r M H)
theorem fx_int {i : Int} {j pos} : FX C W true true X (.Constant (.int i) j pos) (f0 (.int i)) := fx_const pe_int fun _ _ => .int i
theorem fx_bl {i : Bool} {j pos} : FX C W true true X (.Constant (.bool i) j pos) (f0 (.bl i)) := fx_const pe_bl fun _ _ => .bl i
theorem fx_non {j pos} : FX C W true true X (.Constant .none j pos) (f0 .non) := fx_const pe_non fun _ _ => .non
theorem fx_str {i : Str} {j pos} : FX C W true true X (.Constant (.str i) j pos) (f0 (.str i)) := fx_const pe_str fun _ _ => .str i
/-- a global constant: an int, a text -/
theorem fx_gint {x : Str} {i : Int} {pos : Pos} (hm : ∃ t, X.mg x = some (.int i t)) (hg : Gl X x) (hd : (x == ("__debug__" : Str)) = false := by decide) : FX C W true true X (.Name x pos) (f0 (.int i)) := by
  obtain ⟨t, hm⟩ := hm
  exact fx_const (pe_glob (v := .int i) hg hm ⟨t, rfl⟩ hd) fun _ _ => .int i
theorem fx_gstr {x z : Str} {pos : Pos} (hm : ∃ t, X.mg x = some (.str z t)) (hg : Gl X x) (hd : (x == ("__debug__" : Str)) = false := by decide) : FX C W true true X (.Name x pos) (f0 (.str z)) := by
  obtain ⟨t, hm⟩ := hm
  exact fx_const (pe_glob (v := .str z) hg hm ⟨t, rfl⟩ hd) fun _ _ => .str z
theorem fx_var {i : Nat} (h : PE X a (tVar i)) : FX C W true true X a (fVar i) := PE.imp h fun σ H Q ⟨pens, M, γ, E, k⟩ => by
  unfold fVar at k
  cases q : γ[i]? with
  | none => rw [q] at k; exact k.elim
  | some sv =>
    rw [q] at k
    cases sv with
    | val d =>
      obtain ⟨x, h1, v, h2, r⟩ := E.slot q
      subst h2
      exact ⟨v, h1, k v H (Stp.pure E (Keep.refl _ _)) (fun _ => ⟨rfl, Keep.refl _ _⟩) r⟩
    | none => exact k.elim
    | own _ _ => exact k.elim
    | view _ => exact k.elim
theorem fx_look {i : Nat} (h : PE X a (tVar i)) : FX C W false true X a (fLook i) := PE.imp h fun σ H Q ⟨pens, M, γ, E, k⟩ => by
  unfold fLook at k
  cases q : γ[i]? with
  | none => rw [q] at k; exact k.elim
  | some sv =>
    rw [q] at k
    cases sv with
    | val d =>
      obtain ⟨x, h1, v, h2, r⟩ := E.slot q
      subst h2
      exact ⟨v, h1, k v H (Stp.pure E (Keep.refl _ _)) (fun _ => ⟨rfl, Keep.refl _ _⟩) (SRep.rep r)⟩
    | none => exact k.elim
    | own t o =>
      obtain ⟨x, h1, a, h2, _, r, _⟩ := E.slot q
      subst h2
      cases o with
      | lst xs =>
        obtain ⟨vs, e, r⟩ := r
        exact ⟨.ref a, h1, k _ H (Stp.pure E (Keep.refl _ _)) (fun _ => ⟨rfl, Keep.refl _ _⟩) (SRep.lst e r)⟩
      | ins c fs =>
        obtain ⟨dx, vs, e, r⟩ := r
        exact ⟨.ref a, h1, k _ H (Stp.pure E (Keep.refl _ _)) (fun _ => ⟨rfl, Keep.refl _ _⟩) (SRep.ins e r)⟩
    | view xs => exact k.elim
/-! ### operations on values -/
def Op1 (C : Ct) (r : V → Hp → VK → Prop) (g : D → Option D) : Prop := ∀ (M : Addr → Prop) (H : Hp) (x : V) (dx d : D) (Q : VK), (∀ a, M a → ∃ o, H a = some o) → SRep C M H x dx → g dx = some d → (∀ v H', Keep0 H H' → Rep C M H' v d → Q v H') → r x H Q
def Op2 (C : Ct) (r : V → V → Hp → VK → Prop) (g : D → D → Option D) : Prop := ∀ (M : Addr → Prop) (H : Hp) (x y : V) (dx dy d : D) (Q : VK), (∀ a, M a → ∃ o, H a = some o) → SRep C M H x dx → SRep C M H y dy → g dx dy = some d →
  (∀ v H', Keep0 H H' → Rep C M H' v d → Q v H') → r x y H Q
theorem fx1 {r : V → Hp → VK → Prop} {g : D → Option D} (ha : FX C W m p X a fa) (mk : ∀ ta, PE X a ta → PE X e' (fun σ H Q => ta σ H fun x H1 => r x H1 Q)) (hr : Op1 C r g) : FX C W true p X e' (f1 g fa) := PE.imp (mk _ ha) fun σ H Q ⟨pens, M, γ, E, h⟩ => by
  refine ⟨pens, M, γ, E, ?_⟩
  unfold f1 F.bind at h
  cases ea : fa γ with
  | st => rw [ea] at h; exact h
  | ex e γ' => rw [ea] at h; exact h
  | ok d γ1 =>
    rw [ea] at h
    intro v H1 S1 P1 r1
    simp only [liftO] at h
    cases eg : g d with
    | none => rw [eg] at h; exact h.elim
    | some d2 => rw [eg] at h; exact hr M H1 v d d2 Q S1.env.dom r1.s eg (aft_fin S1 P1 h)
theorem both {pens : Nat → Addr} {M : Addr → Prop} {σ : L2.St} {γ1 γ2 : Gm} {H1 H2 : Hp} {v : V} {d : D} (E1 : EnvRep C pens M γ1 σ H1) (S2 : Stp C pens M σ γ1 H1 γ2 H2) (hm : (m1 || p2) = true) (P2 : p2 = true → γ2 = γ1 ∧ Keep0 H1 H2) (r : MRep m1 C M H1 v d) : MRep m1 C M H2 v d := by
  cases m1 with
  | true => exact S2.rep E1 r
  | false => exact SRep.keep (P2 hm).2 r
theorem purity {q1 q2 : Bool} {γ γ1 γ2 : Gm} {H H1 H2 : Hp} (P1 : q1 = true → γ1 = γ ∧ Keep0 H H1) (P2 : q2 = true → γ2 = γ1 ∧ Keep0 H1 H2) : (q1 && q2) = true → γ2 = γ ∧ Keep0 H H2 := fun z => by
  rw [Bool.and_eq_true] at z
  obtain ⟨a1, b1⟩ := P1 z.1
  obtain ⟨a2, b2⟩ := P2 z.2
  exact ⟨a2.trans a1, b1.trans b2⟩
theorem fx2 {r : V → V → Hp → VK → Prop} {g : D → D → Option D} (ha : FX C W m1 p1 X a fa) (hb : FX C W m2 p2 X b fb) (mk : ∀ ta tb, PE X a ta → PE X b tb → PE X e' (fun σ H Q => ta σ H fun x H1 => tb σ H1 fun y H2 => r x y H2 Q)) (hr : Op2 C r g)
    (hm : (m1 || p2) = true := by rfl) : FX C W true (p1 && p2) X e' (f2 g fa fb) := PE.imp (mk _ _ ha hb) fun σ H Q ⟨pens, M, γ, E, h⟩ => by
  refine ⟨pens, M, γ, E, ?_⟩
  unfold f2 F.bind at h
  cases ea : fa γ with
  | st => rw [ea] at h; exact h
  | ex e γ' => rw [ea] at h; exact h
  | ok d γ1 =>
    rw [ea] at h
    intro v H1 S1 P1 r1
    refine ⟨pens, M, γ1, S1.env, ?_⟩
    simp only [F.bind] at h
    cases eb : fb γ1 with
    | st => rw [eb] at h; exact h
    | ex e γ' => rw [eb] at h; exact fun cls dd H' S2 re => h cls dd H' (S1.trans S2) re
    | ok d2 γ2 =>
      rw [eb] at h
      intro v2 H2 S2 P2 r2
      simp only [liftO] at h
      cases eg : g d d2 with
      | none => rw [eg] at h; exact h.elim
      | some d3 =>
        rw [eg] at h
        exact hr M H2 v v2 d d2 d3 Q S2.env.dom (both S1.env S2 hm P2 r1).s r2.s eg (aft_fin (S1.trans S2) (purity P1 P2) h)
/-! ### the two-place operators -/
theorem Op2.bin {op : Operator} {r : R2} {g : D → D → Option D} {pos : Pos} (ho : OpR X (binaryOp op) r) (hr : Op2 C r g) (ha : FX C W m1 p1 X a fa) (hb : FX C W m2 p2 X b fb) (hm : (m1 || p2) = true := by rfl) : FX C W true (p1 && p2) X (.BinOp a op b pos) (f2 g fa fb) :=
  fx2 (r := r) ha hb (fun ta tb h1 h2 => pe_op ho h1 h2) hr hm
end
def dAdd : D → D → Option D
  | .int i, .int j => some (.int (i + j))
  | .str x, .str y => if x.length + y.length ≤ sizeLine then some (.str (x ++ y)) else none
  | .lst xs, .lst ys => if xs.length + ys.length ≤ sizeLine then some (.lst (xs ++ ys)) else none
  | .tup xs, .tup ys => if xs.length + ys.length ≤ sizeLine then some (.tup (xs ++ ys)) else none
  | _, _ => none
/-- a list at a place that is tracked -/
theorem SRep.lstH {C : Ct} {M : Addr → Prop} {H : Hp} {x : V} {ds : List D} (s : SRep C M H x (.lst ds)) : ∃ a vs, x = .ref a ∧ H a = some (.lst vs) ∧ RepL C M H vs ds := by
  cases s with
  | rep r => cases r with
    | lst e n r => exact ⟨_, _, rfl, e, r⟩
  | lst e r => exact ⟨_, _, rfl, e, r⟩
theorem SRep.tupH {C : Ct} {M : Addr → Prop} {H : Hp} {x : V} {ds : List D} (s : SRep C M H x (.tup ds)) : ∃ a vs, x = .ref a ∧ H a = some (.tup vs) ∧ ¬ M a ∧ RepL C M H vs ds := by
  cases s with
  | rep r => cases r with
    | tup e n r => exact ⟨_, _, rfl, e, n, r⟩
theorem SRep.intH {C : Ct} {M : Addr → Prop} {H : Hp} {x : V} {i : Int} (s : SRep C M H x (.int i)) : x = .int i := by
  cases s with
  | rep r => cases r; rfl
theorem SRep.strH {C : Ct} {M : Addr → Prop} {H : Hp} {x : V} {i : Str} (s : SRep C M H x (.str i)) : x = .str i := by
  cases s with
  | rep r => cases r; rfl
theorem SRep.blH {C : Ct} {M : Addr → Prop} {H : Hp} {x : V} {i : Bool} (s : SRep C M H x (.bl i)) : x = .bl i := by
  cases s with
  | rep r => cases r; rfl
theorem SRep.nonH {C : Ct} {M : Addr → Prop} {H : Hp} {x : V} (s : SRep C M H x .non) : x = .non := by
  cases s with
  | rep r => cases r; rfl
theorem notM {M : Addr → Prop} {H : Hp} {p : Addr} (hd : ∀ a, M a → ∃ o, H a = some o) (hp : H p = none) : ¬ M p := fun z => by
  obtain ⟨o, e⟩ := hd p z
  rw [hp] at e
  cases e
theorem rep_newT {C : Ct} {M : Addr → Prop} {H : Hp} {p : Addr} {vs : List V} {ds : List D} (hd : ∀ a, M a → ∃ o, H a = some o) (hp : H p = none) (r : RepL C M H vs ds) : Rep C M (upd H p (.tup vs)) (.ref p) (.tup ds) :=
  .tup upd_same (notM hd hp) (r.fine (Fine.keep0 (Keep.new hp)))
theorem rep_newL {C : Ct} {M : Addr → Prop} {H : Hp} {p : Addr} {vs : List V} {ds : List D} (hd : ∀ a, M a → ∃ o, H a = some o) (hp : H p = none) (r : RepL C M H vs ds) : Rep C M (upd H p (.lst vs)) (.ref p) (.lst ds) :=
  .lst upd_same (notM hd hp) (r.fine (Fine.keep0 (Keep.new hp)))
theorem RepL.nilD {C : Ct} {M : Addr → Prop} {H : Hp} {vs : List V} {ds : List D} (r : RepL C M H vs ds) : vs = [] ↔ ds = [] := by
  cases r with
  | nil => simp
  | cons _ _ => simp
section
variable {C : Ct} {W : WX} {X : Cx} {m p m1 p1 m2 p2 m3 p3 : Bool} {a b e' : Expr} {fa fb : F D}
abbrev rAddI : R2 := rI0 fun i j => .int (i + j)
abbrev rAddS : R2 := fun x y H Q => ∃ i j, x = .str i ∧ y = .str j ∧ i.length + j.length ≤ sizeLine ∧ Q (.str (i ++ j)) H
abbrev rAddA (K : PySem.W.Frag) : R2 := fun x y H Q => (rAddI x y H Q ∨ rAddS x y H Q) ∨ (rCat x y H Q ∨ rCatA K x y H Q)
theorem op_addA : OpR X (binaryOp .Add) (rAddA X.K) := (op_add.or op_add_str).or (op_cat.or op_catA)
theorem op2_add : Op2 C (rAddA X.K) dAdd := fun M H x y dx dy d Q hd sx sy e k => by
  cases dx with
  | int i => cases dy with
    | int j => cases e; rw [sx.intH, sy.intH]; exact .inl (.inl ⟨i, j, rfl, rfl, k _ H (Keep.refl _ _) (.int _)⟩)
    | _ => cases e
  | str i => cases dy with
    | str j =>
      simp only [dAdd] at e
      split at e
      · cases e; rw [sx.strH, sy.strH]; exact .inl (.inr ⟨i, j, rfl, rfl, by assumption, k _ H (Keep.refl _ _) (.str _)⟩)
      · cases e
    | _ => cases e
  | lst xs => cases dy with
    | lst ys =>
      simp only [dAdd] at e
      split at e
      · rename_i hz
        cases e
        obtain ⟨a, vs, rfl, ha, ra⟩ := sx.lstH
        obtain ⟨b, ws, rfl, hb, rb⟩ := sy.lstH
        exact .inr (.inl ⟨a, b, vs, ws, rfl, rfl, ha, hb, by rw [ra.length, rb.length]; exact hz, fun p hp => k _ _ (Keep.new hp) (rep_newL hd hp (ra.append rb))⟩)
      · cases e
    | _ => cases e
  | tup xs => cases dy with
    | tup ys =>
      simp only [dAdd] at e
      split at e
      · rename_i hz
        cases e
        obtain ⟨a, vs, rfl, ha, na, ra⟩ := sx.tupH
        obtain ⟨b, ws, rfl, hb, nb, rb⟩ := sy.tupH
        refine .inr (.inr ⟨a, b, vs, ws, rfl, rfl, .inl (.inl ha), .inl (.inl hb), by rw [ra.length, rb.length]; exact hz, fun z => ?_, fun _ z => ?_, fun _ _ p hp => k _ _ (Keep.new hp) (rep_newT hd hp (ra.append rb))⟩)
        · have z' := ra.nilD.mp z
          subst z'
          exact k _ H (Keep.refl _ _) (.tup hb nb rb)
        · have z' := rb.nilD.mp z
          subst z'
          exact k _ H (Keep.refl _ _) (by rw [List.append_nil]; exact .tup ha na ra)
      · cases e
    | _ => cases e
  | _ => cases dy <;> cases e
theorem fx_add {pos : Pos} (ha : FX C W m1 p1 X a fa) (hb : FX C W m2 p2 X b fb) (hm : (m1 || p2) = true := by rfl) : FX C W true (p1 && p2) X (.BinOp a .Add b pos) (f2 dAdd fa fb) := Op2.bin op_addA op2_add ha hb hm
end
end FC
namespace FC
open PySem PySem.Spec PyProof.Rows L2
/-! ### data that the library reads -/
mutual
def D.data : D → Option PyData
  | .non => some .none
  | .bl b => some (.bool b)
  | .int i => some (.int i)
  | .str x => some (.str x)
  | .lst xs => (D.dataL xs).map .list
  | .tup xs => (D.dataL xs).map .tuple
  | .dct _ => none
  | .ins _ _ => none
  | .raw _ => none
  | .cls _ => none
  | .ft ns => some (.tuple (ns.map PyData.int))
def D.dataL : List D → Option (List PyData)
  | [] => some []
  | x :: xs => match D.data x, D.dataL xs with
    | some p, some ps => some (p :: ps)
    | _, _ => none
end
section
variable {C : Ct} {M : Addr → Prop} {H : Hp} {K : PySem.W.Frag}
theorem dp_ints : ∀ ns : List Int, DpAll K H (ns.map V.int) (ns.map PyData.int)
  | [] => .nil
  | n :: ns => .cons (.int n) (dp_ints ns)
mutual
theorem Rep.dp : ∀ {d : D} {v : V} {p : PyData}, Rep C M H v d → d.data = some p → Dp K H v p
  | .non, _, _, .non, e => by simp only [D.data] at e; cases e; exact .non
  | .bl _, _, _, .bl b, e => by simp only [D.data] at e; cases e; exact .bl b
  | .int _, _, _, .int b, e => by simp only [D.data] at e; cases e; exact .int b
  | .str _, _, _, .str b, e => by simp only [D.data] at e; cases e; exact .str b
  | .lst xs, _, _, .lst h n r, e => by
    simp only [D.data] at e
    cases q : D.dataL xs with
    | none => rw [q] at e; cases e
    | some ps => rw [q] at e; cases e; exact .lst (.inl (.inl h)) (RepL.dp r q)
  | .tup xs, _, _, .tup h n r, e => by
    simp only [D.data] at e
    cases q : D.dataL xs with
    | none => rw [q] at e; cases e
    | some ps => rw [q] at e; cases e; exact .tup (.inl (.inl h)) (RepL.dp r q)
  | .dct _, _, _, _, e => by simp only [D.data] at e; cases e
  | .ins _ _, _, _, _, e => by simp only [D.data] at e; cases e
  | .raw _, _, _, _, e => by simp only [D.data] at e; cases e
  | .cls _, _, _, _, e => by simp only [D.data] at e; cases e
  | .ft ns, _, _, .ft h d n, e => by simp only [D.data] at e; cases e; exact .tup (.inl (.inr ⟨_, h⟩)) (dp_ints ns)
theorem RepL.dp : ∀ {ds : List D} {vs : List V} {ps : List PyData}, RepL C M H vs ds → D.dataL ds = some ps → DpAll K H vs ps
  | [], _, _, .nil, e => by simp only [D.dataL] at e; cases e; exact .nil
  | x :: xs, _, _, .cons r t, e => by
    simp only [D.dataL] at e
    cases q : D.data x with
    | none => rw [q] at e; cases e
    | some p =>
      cases q2 : D.dataL xs with
      | none => rw [q, q2] at e; cases e
      | some ps => rw [q, q2] at e; cases e; exact .cons (Rep.dp r q) (RepL.dp t q2)
end
theorem SRep.dp {d : D} {v : V} {p : PyData} (s : SRep C M H v d) (e : d.data = some p) : Dp K H v p := by
  cases s with
  | rep r => exact r.dp e
  | lst h r =>
    rename_i a vs xs
    simp only [D.data] at e
    cases q : D.dataL xs with
    | none => rw [q] at e; cases e
    | some ps => rw [q] at e; cases e; exact .lst (.inl (.inl h)) (r.dp q)
  | ins h r => simp only [D.data] at e; cases e
end
theorem plain_ints : ∀ ns : List Int, PyData.plainAll (ns.map PyData.int) = true
  | [] => by simp only [List.map_nil, PyData.plainAll]
  | n :: ns => by simp only [List.map_cons, PyData.plainAll, PyData.plain, plain_ints ns, Bool.and_self]
mutual
theorem data_plain : ∀ {d : D} {p : PyData}, d.data = some p → p.plain = true
  | .non, _, e => by simp only [D.data] at e; cases e; rfl
  | .bl _, _, e => by simp only [D.data] at e; cases e; rfl
  | .int _, _, e => by simp only [D.data] at e; cases e; rfl
  | .str _, _, e => by simp only [D.data] at e; cases e; rfl
  | .lst xs, _, e => by
    simp only [D.data] at e
    obtain ⟨ps, q, rfl⟩ := Option.map_eq_some_iff.mp e
    simp only [PyData.plain]
    exact dataL_plain q
  | .tup xs, _, e => by
    simp only [D.data] at e
    obtain ⟨ps, q, rfl⟩ := Option.map_eq_some_iff.mp e
    simp only [PyData.plain]
    exact dataL_plain q
  | .dct _, _, e => by simp only [D.data] at e; cases e
  | .ins _ _, _, e => by simp only [D.data] at e; cases e
  | .raw _, _, e => by simp only [D.data] at e; cases e
  | .cls _, _, e => by simp only [D.data] at e; cases e
  | .ft ns, _, e => by simp only [D.data] at e; cases e; simp only [PyData.plain]; exact plain_ints ns
theorem dataL_plain : ∀ {ds : List D} {ps : List PyData}, D.dataL ds = some ps → PyData.plainAll ps = true
  | [], _, e => by simp only [D.dataL] at e; cases e; simp only [PyData.plainAll]
  | x :: xs, _, e => by
    simp only [D.dataL] at e
    cases q : D.data x with
    | none => rw [q] at e; cases e
    | some p =>
      cases q2 : D.dataL xs with
      | none => rw [q, q2] at e; cases e
      | some ps =>
        rw [q, q2] at e
        cases e
        simp only [PyData.plainAll, data_plain q, dataL_plain q2, Bool.and_self]
end
/-! == of data of any texts -/
def rEqP (K : PySem.W.Frag) : R2 := fun x y H Q => ∃ d e, Dp K H x d ∧ Dp K H y e ∧ d.plain = true ∧ e.plain = true ∧ min d.depth e.depth ≤ 64 ∧ Q (.bl (PyData.eqv d e)) H
def rNeP (K : PySem.W.Frag) : R2 := fun x y H Q => ∃ d e, Dp K H x d ∧ Dp K H y e ∧ d.plain = true ∧ e.plain = true ∧ min d.depth e.depth ≤ 64 ∧ Q (.bl (!PyData.eqv d e)) H
theorem op_eqP {X : Cx} (hu : X.A.units + 64 < cLine) : OpR X (compareOp .Eq) (rEqP X.K) := by
  intro pins s σ H x y v u Q I rx ry h
  obtain ⟨d, e, hd, he, sd, se, hm, q⟩ := h
  obtain ⟨as, r1⟩ := Dp.reads I d x v hd rx
  obtain ⟨bs, r2⟩ := Dp.reads I e y u he ry
  exact SeqAt.eq_plain r1 r2 sd se (by omega) ⟨.bl _, H, I, rfl, q⟩
theorem op_neP {X : Cx} (hu : X.A.units + 64 < cLine) : OpR X (compareOp .NotEq) (rNeP X.K) := by
  intro pins s σ H x y v u Q I rx ry h
  obtain ⟨d, e, hd, he, sd, se, hm, q⟩ := h
  obtain ⟨as, r1⟩ := Dp.reads I d x v hd rx
  obtain ⟨bs, r2⟩ := Dp.reads I e y u he ry
  exact SeqAt.ne_plain r1 r2 sd se (by omega) ⟨.bl _, H, I, rfl, q⟩
def rInP (K : PySem.W.Frag) : R2 := fun x y H Q => ∃ d ds, Dp K H x d ∧ Dp K H y (.list ds) ∧ d.plain = true ∧ PyData.plainAll ds = true ∧ min (PyData.depthAll ds) d.depth ≤ 64 ∧ Q (.bl (ds.any fun z => PyData.eqv z d)) H
def rNotInP (K : PySem.W.Frag) : R2 := fun x y H Q => ∃ d ds, Dp K H x d ∧ Dp K H y (.list ds) ∧ d.plain = true ∧ PyData.plainAll ds = true ∧ min (PyData.depthAll ds) d.depth ≤ 64 ∧ Q (.bl (!ds.any fun z => PyData.eqv z d)) H
theorem op_inP {X : Cx} (hu : X.A.units + 65 < cLine) : OpR X (compareOp .In) (rInP X.K) := by
  intro pins s σ H x y v u Q I rx ry h
  obtain ⟨d, ds, hd, he, sd, se, hm, q⟩ := h
  obtain ⟨as, r1⟩ := Dp.reads I d x v hd rx
  obtain ⟨bs, r2⟩ := Dp.reads I (.list ds) y u he ry
  exact SeqAt.in_list_data r2 r1 se sd (by omega) ⟨.bl _, H, I, rfl, q⟩
theorem op_notInP {X : Cx} (hu : X.A.units + 65 < cLine) : OpR X (compareOp .NotIn) (rNotInP X.K) := by
  intro pins s σ H x y v u Q I rx ry h
  obtain ⟨d, ds, hd, he, sd, se, hm, q⟩ := h
  obtain ⟨as, r1⟩ := Dp.reads I d x v hd rx
  obtain ⟨bs, r2⟩ := Dp.reads I (.list ds) y u he ry
  exact SeqAt.notIn_list_data r2 r1 se sd (by omega) ⟨.bl _, H, I, rfl, q⟩
/-! ### two-place operators -/
def dSub : D → D → Option D | .int i, .int j => some (.int (i - j)) | _, _ => none
def dMul : D → D → Option D
  | .int i, .int j => if (-(2 ^ 64) < i ∧ i < 2 ^ 64) ∨ (-(2 ^ 64) < j ∧ j < 2 ^ 64) then some (.int (i * j)) else none
  | .lst xs, .int k => if -(2 ^ 63) ≤ k ∧ k < 2 ^ 63 ∧ xs.length * k.toNat ≤ sizeLine then some (.lst (List.replicate k.toNat xs).flatten) else none
  | .tup xs, .int k => if xs ≠ [] ∧ 2 ≤ k ∧ k ≤ 1000 ∧ xs.length ≤ 1000 then some (.tup (List.replicate k.toNat xs).flatten) else none
  | _, _ => none
def dFdiv : D → D → Option D | .int i, .int j => if 0 < j ∧ j < 1073741824 then some (.int (i / j)) else none | _, _ => none
def dMod : D → D → Option D | .int i, .int j => if 0 < j then some (.int (i % j)) else none | _, _ => none
def dPow : D → D → Option D | .int i, .int j => if 0 ≤ j ∧ j ≤ 1000000 ∧ i.natAbs < 2 ^ 64 then some (.int (i ^ j.toNat)) else none | _, _ => none
def dNeg : D → Option D | .int i => some (.int (-i)) | _ => none
def dEq (x y : D) : Option D := match x.data, y.data with
  | some p, some q => if min p.depth q.depth ≤ 64 then some (.bl (PyData.eqv p q)) else none
  | _, _ => none
def dNe (x y : D) : Option D := match x.data, y.data with
  | some p, some q => if min p.depth q.depth ≤ 64 then some (.bl (!PyData.eqv p q)) else none
  | _, _ => none
def dLt : D → D → Option D | .int i, .int j => some (.bl (decide (i < j))) | _, _ => none
def dLe : D → D → Option D | .int i, .int j => some (.bl (decide (i ≤ j))) | _, _ => none
def dGt : D → D → Option D | .int i, .int j => some (.bl (decide (j < i))) | _, _ => none
def dGe : D → D → Option D | .int i, .int j => some (.bl (decide (j ≤ i))) | _, _ => none
def dIn (x y : D) : Option D := match x.data, y with
  | some p, .lst ys => (match D.dataL ys with
    | some qs => if min (PyData.depthAll qs) p.depth ≤ 64 then some (.bl (qs.any fun z => PyData.eqv z p)) else none
    | none => none)
  | some p, .tup ys => (match D.dataL ys with
    | some qs => if min (PyData.depthAll qs) p.depth ≤ 64 then some (.bl (qs.any fun z => PyData.eqv z p)) else none
    | none => none)
  | some (.str x), .str y => (match x.cps.toList with
    | [c] => some (.bl (decide (c ∈ y.cps.toList)))
    | _ => none)
  | _, _ => none
def dNotIn (x y : D) : Option D := match x.data, y with
  | some p, .lst ys => (match D.dataL ys with
    | some qs => if min (PyData.depthAll qs) p.depth ≤ 64 then some (.bl (!qs.any fun z => PyData.eqv z p)) else none
    | none => none)
  | some p, .tup ys => (match D.dataL ys with
    | some qs => if min (PyData.depthAll qs) p.depth ≤ 64 then some (.bl (!qs.any fun z => PyData.eqv z p)) else none
    | none => none)
  | _, _ => none
def D.isNon : D → Bool | .non => true | _ => false
def dIsN (x : D) : Option D := match x with | .raw _ => none | _ => some (.bl x.isNon)
def dNotN (x : D) : Option D := match x with | .raw _ => none | _ => some (.bl (!x.isNon))
section
variable {C : Ct} {W : WX} {X : Cx} {m p m1 p1 m2 p2 m3 p3 : Bool} {a b c e' : Expr} {fa fb fc : F D} {pos : Pos}
theorem SRep.isNon {M : Addr → Prop} {H : Hp} {v : V} {d : D} (s : SRep C M H v d) (h : ∀ u, d ≠ .raw u) : decide (v = .non) = d.isNon := by
  cases s with
  | rep r => cases r <;> first | rfl | exact absurd rfl (h _)
  | lst _ _ => rfl
  | ins _ _ => rfl
theorem op2_int {g : Int → Int → V} {cc : Int → Int → Prop} {q : D → D → Option D} (h : ∀ dx dy d, q dx dy = some d → ∃ i j, dx = .int i ∧ dy = .int j ∧ cc i j ∧ ∀ M H, Rep C M H (g i j) d) : Op2 C (rI cc g) q := fun M H x y dx dy d Q hd sx sy e k => by
  obtain ⟨i, j, rfl, rfl, hc, r⟩ := h dx dy d e
  rw [sx.intH, sy.intH]
  exact ⟨i, j, rfl, rfl, hc, k _ H (Keep.refl _ _) (r M H)⟩
theorem op2_int0 {g : Int → Int → V} {q : D → D → Option D} (h : ∀ dx dy d, q dx dy = some d → ∃ i j, dx = .int i ∧ dy = .int j ∧ ∀ M H, Rep C M H (g i j) d) : Op2 C (rI0 g) q := fun M H x y dx dy d Q hd sx sy e k => by
  obtain ⟨i, j, rfl, rfl, r⟩ := h dx dy d e
  rw [sx.intH, sy.intH]
  exact ⟨i, j, rfl, rfl, k _ H (Keep.refl _ _) (r M H)⟩
theorem op2_sub : Op2 C (rI0 fun i j => .int (i - j)) dSub := op2_int0 fun dx dy d e => by
  cases dx with
  | int i => cases dy with
    | int j => cases e; exact ⟨i, j, rfl, rfl, fun _ _ => .int _⟩
    | _ => cases e
  | _ => cases dy <;> cases e
theorem op2_fdiv : Op2 C (rI CDiv fun i j => .int (i / j)) dFdiv := op2_int fun dx dy d e => by
  cases dx with
  | int i => cases dy with
    | int j =>
      simp only [dFdiv] at e
      split at e
      · rename_i h; cases e; exact ⟨i, j, rfl, rfl, h, fun _ _ => .int _⟩
      · cases e
    | _ => cases e
  | _ => cases dy <;> cases e
theorem op2_mod : Op2 C (rI (fun _ j => 0 < j) fun i j => .int (i % j)) dMod := op2_int fun dx dy d e => by
  cases dx with
  | int i => cases dy with
    | int j =>
      simp only [dMod] at e
      split at e
      · rename_i h; cases e; exact ⟨i, j, rfl, rfl, h, fun _ _ => .int _⟩
      · cases e
    | _ => cases e
  | _ => cases dy <;> cases e
theorem op2_pow : Op2 C (rI CPow fun i j => .int (i ^ j.toNat)) dPow := op2_int fun dx dy d e => by
  cases dx with
  | int i => cases dy with
    | int j =>
      simp only [dPow] at e
      split at e
      · rename_i h; cases e; exact ⟨i, j, rfl, rfl, h, fun _ _ => .int _⟩
      · cases e
    | _ => cases e
  | _ => cases dy <;> cases e
abbrev rMulA (K : PySem.W.Frag) : R2 := fun x y H Q => (rI CMul fun i j => .int (i * j)) x y H Q ∨ (rRep x y H Q ∨ rRepT K x y H Q)
theorem repFlat {M : Addr → Prop} {H : Hp} {vs : List V} {ds : List D} (r : RepL C M H vs ds) : ∀ n : Nat, RepL C M H (List.replicate n vs).flatten (List.replicate n ds).flatten
  | 0 => .nil
  | n + 1 => by
    rw [List.replicate_succ, List.replicate_succ, List.flatten_cons, List.flatten_cons]
    exact r.append (repFlat r n)
theorem op2_mul : Op2 C (rMulA X.K) dMul := fun M H x y dx dy d Q hd sx sy e k => by
  cases dx with
  | int i => cases dy with
    | int j =>
      simp only [dMul] at e
      split at e
      · rename_i h; cases e; rw [sx.intH, sy.intH]; exact .inl ⟨i, j, rfl, rfl, h, k _ H (Keep.refl _ _) (.int _)⟩
      · cases e
    | _ => cases e
  | lst xs => cases dy with
    | int j =>
      simp only [dMul] at e
      split at e
      · rename_i h
        cases e
        rw [sy.intH]
        obtain ⟨l, vs, rfl, ha, ra⟩ := sx.lstH
        exact .inr (.inl ⟨l, j, vs, rfl, rfl, ha, h.1, h.2.1, by rw [ra.length]; exact h.2.2, fun p hp => k _ _ (Keep.new hp) (rep_newL hd hp (repFlat ra _))⟩)
      · cases e
    | _ => cases e
  | tup xs => cases dy with
    | int j =>
      simp only [dMul] at e
      split at e
      · rename_i h
        cases e
        rw [sy.intH]
        obtain ⟨l, vs, rfl, ha, na, ra⟩ := sx.tupH
        exact .inr (.inr ⟨l, j, vs, rfl, rfl, .inl (.inl ha), fun z => h.1 (ra.nilD.mp z), h.2.1, h.2.2.1, by rw [ra.length]; exact h.2.2.2, fun p hp => k _ _ (Keep.new hp) (rep_newT hd hp (repFlat ra _))⟩)
      · cases e
    | _ => cases e
  | _ => cases dy <;> cases e
theorem fx_sub (ha : FX C W m1 p1 X a fa) (hb : FX C W m2 p2 X b fb) (hm : (m1 || p2) = true := by rfl) : FX C W true (p1 && p2) X (.BinOp a .Sub b pos) (f2 dSub fa fb) := Op2.bin op_sub op2_sub ha hb hm
theorem fx_fdiv (ha : FX C W m1 p1 X a fa) (hb : FX C W m2 p2 X b fb) (hm : (m1 || p2) = true := by rfl) : FX C W true (p1 && p2) X (.BinOp a .FloorDiv b pos) (f2 dFdiv fa fb) := Op2.bin op_fdiv op2_fdiv ha hb hm
theorem fx_mod (ha : FX C W m1 p1 X a fa) (hb : FX C W m2 p2 X b fb) (hm : (m1 || p2) = true := by rfl) : FX C W true (p1 && p2) X (.BinOp a .Mod b pos) (f2 dMod fa fb) := Op2.bin op_mod op2_mod ha hb hm
theorem fx_pow (ha : FX C W m1 p1 X a fa) (hb : FX C W m2 p2 X b fb) (hm : (m1 || p2) = true := by rfl) : FX C W true (p1 && p2) X (.BinOp a .Pow b pos) (f2 dPow fa fb) := Op2.bin op_pow op2_pow ha hb hm
theorem op1_neg : Op1 C (rU fun i => .int (-i)) dNeg := fun M H x dx d Q hd sx e k => by
  cases dx with
  | int i => cases e; rw [sx.intH]; exact ⟨i, rfl, k _ H (Keep.refl _ _) (.int _)⟩
  | _ => cases e
theorem fx_neg (ha : FX C W m p X a fa) : FX C W true p X (.UnaryOp .USub a pos) (f1 dNeg fa) := fx1 ha (fun ta h => pe_un un_neg h) op1_neg
/-! ### comparisons -/
theorem op2_eq : Op2 C (rEqP X.K) dEq := fun M H x y dx dy d Q hd sx sy e k => by
  unfold dEq at e
  cases q1 : dx.data with
  | none => rw [q1] at e; cases e
  | some p1 =>
    cases q2 : dy.data with
    | none => rw [q1, q2] at e; cases e
    | some p2 =>
      rw [q1, q2] at e
      simp only at e
      split at e
      · rename_i h; cases e; exact ⟨p1, p2, sx.dp q1, sy.dp q2, data_plain q1, data_plain q2, h, k _ H (Keep.refl _ _) (.bl _)⟩
      · cases e
theorem op2_ne : Op2 C (rNeP X.K) dNe := fun M H x y dx dy d Q hd sx sy e k => by
  unfold dNe at e
  cases q1 : dx.data with
  | none => rw [q1] at e; cases e
  | some p1 =>
    cases q2 : dy.data with
    | none => rw [q1, q2] at e; cases e
    | some p2 =>
      rw [q1, q2] at e
      simp only at e
      split at e
      · rename_i h; cases e; exact ⟨p1, p2, sx.dp q1, sy.dp q2, data_plain q1, data_plain q2, h, k _ H (Keep.refl _ _) (.bl _)⟩
      · cases e
theorem op2_lt : Op2 C (rI0 fun i j => .bl (decide (i < j))) dLt := op2_int0 fun dx dy d e => by
  cases dx with
  | int i => cases dy with
    | int j => cases e; exact ⟨i, j, rfl, rfl, fun _ _ => .bl _⟩
    | _ => cases e
  | _ => cases dy <;> cases e
theorem op2_le : Op2 C (rI0 fun i j => .bl (decide (i ≤ j))) dLe := op2_int0 fun dx dy d e => by
  cases dx with
  | int i => cases dy with
    | int j => cases e; exact ⟨i, j, rfl, rfl, fun _ _ => .bl _⟩
    | _ => cases e
  | _ => cases dy <;> cases e
theorem op2_gt : Op2 C (rI0 fun i j => .bl (decide (j < i))) dGt := op2_int0 fun dx dy d e => by
  cases dx with
  | int i => cases dy with
    | int j => cases e; exact ⟨i, j, rfl, rfl, fun _ _ => .bl _⟩
    | _ => cases e
  | _ => cases dy <;> cases e
theorem fx_cmp {op : CmpOp} {r : R2} {g : D → D → Option D} (ho : OpR X (compareOp op) r) (hr : Op2 C r g) (ha : FX C W m1 p1 X a fa) (hb : FX C W m2 p2 X b fb) (hmk : behindInMarks op b = false) (hm : (m1 || p2) = true := by rfl) : FX C W true (p1 && p2) X (.Compare a [op] [b] pos) (f2 g fa fb) :=
  fx2 (r := r) ha hb (fun ta tb h1 h2 => pe_cmpR ho h1 h2 hmk) hr hm
theorem fx_eq (hu : X.A.units + 64 < cLine) (ha : FX C W m1 p1 X a fa) (hb : FX C W m2 p2 X b fb) (hm : (m1 || p2) = true := by rfl) : FX C W true (p1 && p2) X (.Compare a [.Eq] [b] pos) (f2 dEq fa fb) := fx_cmp (op_eqP hu) op2_eq ha hb (nomark _) hm
theorem fx_gt (ha : FX C W m1 p1 X a fa) (hb : FX C W m2 p2 X b fb) (hm : (m1 || p2) = true := by rfl) : FX C W true (p1 && p2) X (.Compare a [.Gt] [b] pos) (f2 dGt fa fb) := fx_cmp op_gt op2_gt ha hb (nomark _) hm
end
end FC
namespace FC
open PySem PySem.Spec PyProof.Rows L2
section
variable {C : Ct} {W : WX} {X : Cx} {m p m1 p1 m2 p2 m3 p3 : Bool} {a b c e' : Expr} {fa fb fc : F D} {pos : Pos}
def rInT (K : PySem.W.Frag) : R2 := fun x y H Q => ∃ d ds, Dp K H x d ∧ Dp K H y (.tuple ds) ∧ d.plain = true ∧ PyData.plainAll ds = true ∧ min (PyData.depthAll ds) d.depth ≤ 64 ∧ Q (.bl (ds.any fun z => PyData.eqv z d)) H
def rNotInT (K : PySem.W.Frag) : R2 := fun x y H Q => ∃ d ds, Dp K H x d ∧ Dp K H y (.tuple ds) ∧ d.plain = true ∧ PyData.plainAll ds = true ∧ min (PyData.depthAll ds) d.depth ≤ 64 ∧ Q (.bl (!ds.any fun z => PyData.eqv z d)) H
theorem op_inT (hu : X.A.units + 65 < cLine) : OpR X (compareOp .In) (rInT X.K) := by
  intro pins s σ H x y v u Q I rx ry h
  obtain ⟨d, ds, hd, he, sd, se, hm, q⟩ := h
  obtain ⟨as, r1⟩ := Dp.reads I d x v hd rx
  obtain ⟨bs, r2⟩ := Dp.reads I (.tuple ds) y u he ry
  exact SeqAt.in_tuple_data r2 r1 se sd (by omega) ⟨.bl _, H, I, rfl, q⟩
theorem op_notInT (hu : X.A.units + 65 < cLine) : OpR X (compareOp .NotIn) (rNotInT X.K) := by
  intro pins s σ H x y v u Q I rx ry h
  obtain ⟨d, ds, hd, he, sd, se, hm, q⟩ := h
  obtain ⟨as, r1⟩ := Dp.reads I d x v hd rx
  obtain ⟨bs, r2⟩ := Dp.reads I (.tuple ds) y u he ry
  exact SeqAt.notIn_tuple_data r2 r1 se sd (by omega) ⟨.bl _, H, I, rfl, q⟩
theorem SRep.dpL {M : Addr → Prop} {H : Hp} {K : PySem.W.Frag} {y : V} {ys : List D} {qs : List PyData} (s : SRep C M H y (.lst ys)) (e : D.dataL ys = some qs) : Dp K H y (.list qs) := s.dp (by simp only [D.data]; rw [e]; rfl)
theorem SRep.dpT {M : Addr → Prop} {H : Hp} {K : PySem.W.Frag} {y : V} {ys : List D} {qs : List PyData} (s : SRep C M H y (.tup ys)) (e : D.dataL ys = some qs) : Dp K H y (.tuple qs) := s.dp (by simp only [D.data]; rw [e]; rfl)
theorem op2_in : Op2 C (fun x y H Q => (rInP X.K x y H Q ∨ rInT X.K x y H Q) ∨ ∃ (c : Nat) (z : Str), x = .str ⟨#[c]⟩ ∧ y = .str z ∧ Q (.bl (decide (c ∈ z.cps.toList))) H) dIn := fun M H x y dx dy d Q hd sx sy e k => by
  unfold dIn at e
  cases q1 : dx.data with
  | none => rw [q1] at e; cases dy <;> cases e
  | some p1 =>
    rw [q1] at e
    cases dy with
    | lst ys =>
      simp only at e
      cases q2 : D.dataL ys with
      | none => rw [q2] at e; cases e
      | some p2 =>
        rw [q2] at e
        simp only at e
        split at e
        · rename_i h; cases e; exact .inl (.inl ⟨p1, p2, sx.dp q1, sy.dpL q2, data_plain q1, dataL_plain q2, h, k _ H (Keep.refl _ _) (.bl _)⟩)
        · cases e
    | tup ys =>
      simp only at e
      cases q2 : D.dataL ys with
      | none => rw [q2] at e; cases e
      | some p2 =>
        rw [q2] at e
        simp only at e
        split at e
        · rename_i h; cases e; exact .inl (.inr ⟨p1, p2, sx.dp q1, sy.dpT q2, data_plain q1, dataL_plain q2, h, k _ H (Keep.refl _ _) (.bl _)⟩)
        · cases e
    | str y =>
      cases p1 with
      | str x' =>
        simp only at e
        split at e
        · rename_i cc hcc
          cases e
          have ex : dx = .str x' := by
            cases dx with
            | str z => simp only [D.data] at q1; cases q1; rfl
            | non => simp only [D.data] at q1; cases q1
            | bl _ => simp only [D.data] at q1; cases q1
            | int _ => simp only [D.data] at q1; cases q1
            | lst zs => simp only [D.data] at q1; cases r : D.dataL zs <;> rw [r] at q1 <;> cases q1
            | tup zs => simp only [D.data] at q1; cases r : D.dataL zs <;> rw [r] at q1 <;> cases q1
            | dct _ => simp only [D.data] at q1; cases q1
            | ins _ _ => simp only [D.data] at q1; cases q1
            | raw _ => simp only [D.data] at q1; cases q1
            | cls _ => simp only [D.data] at q1; cases q1
            | ft _ => simp only [D.data] at q1; cases q1
          subst ex
          have ez : x' = ⟨#[cc]⟩ := by
            obtain ⟨⟨l⟩⟩ := x'
            have : l = [cc] := hcc
            rw [this]
          refine .inr ⟨cc, y, ?_, sy.strH, k _ H (Keep.refl _ _) (.bl _)⟩
          rw [← ez]
          exact sx.strH
        · cases e
      | _ => cases e
    | _ => cases p1 <;> cases e
theorem op2_notIn : Op2 C (fun x y H Q => rNotInP X.K x y H Q ∨ rNotInT X.K x y H Q) dNotIn := fun M H x y dx dy d Q hd sx sy e k => by
  unfold dNotIn at e
  cases q1 : dx.data with
  | none => rw [q1] at e; cases dy <;> cases e
  | some p1 =>
    rw [q1] at e
    cases dy with
    | lst ys =>
      simp only at e
      cases q2 : D.dataL ys with
      | none => rw [q2] at e; cases e
      | some p2 =>
        rw [q2] at e
        simp only at e
        split at e
        · rename_i h; cases e; exact .inl ⟨p1, p2, sx.dp q1, sy.dpL q2, data_plain q1, dataL_plain q2, h, k _ H (Keep.refl _ _) (.bl _)⟩
        · cases e
    | tup ys =>
      simp only at e
      cases q2 : D.dataL ys with
      | none => rw [q2] at e; cases e
      | some p2 =>
        rw [q2] at e
        simp only at e
        split at e
        · rename_i h; cases e; exact .inr ⟨p1, p2, sx.dp q1, sy.dpT q2, data_plain q1, dataL_plain q2, h, k _ H (Keep.refl _ _) (.bl _)⟩
        · cases e
    | _ => cases e
theorem fx_in (hu : X.A.units + 65 < cLine) (ha : FX C W m1 p1 X a fa) (hb : FX C W m2 p2 X b fb) (hmk : behindInMarks .In b = false := by rfl) (hm : (m1 || p2) = true := by rfl) : FX C W true (p1 && p2) X (.Compare a [.In] [b] pos) (f2 dIn fa fb) := fx_cmp (((op_inP hu).or (op_inT hu)).or op_in_sign) op2_in ha hb hmk hm
end
/-! ### truth, tests -/
def dTruth : D → Option Bool
  | .non => some false
  | .bl b => some b
  | .int i => some (i != 0)
  | .str y => if y.length ≤ sizeLine then some ((y.length : Int) != 0) else none
  | .lst xs => some (!xs.isEmpty)
  | .tup xs => some (!xs.isEmpty)
  | .dct xs => some (!xs.isEmpty)
  | _ => none
theorem RepL.isEmpty {C : Ct} {M : Addr → Prop} {H : Hp} {vs : List V} {ds : List D} (r : RepL C M H vs ds) : vs.isEmpty = ds.isEmpty := by
  cases r <;> rfl
theorem SRep.truth {C : Ct} {K : PySem.W.Frag} {M : Addr → Prop} {H : Hp} {x : V} {d : D} {k : Bool} (s : SRep C M H x d) (e : dTruth d = some k) : TruV K x H k := by
  cases d with
  | non => cases e; rw [s.nonH]; exact rfl
  | bl b => cases e; rw [s.blH]; exact rfl
  | int b => cases e; rw [s.intH]; exact rfl
  | str y =>
    simp only [dTruth] at e
    split at e
    · rename_i h; cases e; rw [s.strH]; exact ⟨h, rfl⟩
    · cases e
  | lst xs =>
    cases e
    obtain ⟨a, vs, rfl, ha, r⟩ := s.lstH
    exact .inl ⟨vs, .inl (.inl ha), by rw [r.isEmpty]⟩
  | tup xs =>
    cases e
    obtain ⟨a, vs, rfl, ha, na, r⟩ := s.tupH
    exact .inr (.inl ⟨vs, .inl (.inl ha), by rw [r.isEmpty]⟩)
  | dct xs =>
    cases e
    cases s with
    | rep r => cases r with
      | dct h n r => exact .inr (.inr ⟨_, h, by cases r <;> rfl⟩)
  | ins _ _ => cases e
  | raw _ => cases e
  | cls _ => cases e
  | ft _ => cases e
def aftB (C : Ct) (W : WX) (pens : Nat → Addr) (M : Addr → Prop) (σ : L2.St) (γ : Gm) (H : Hp) (p : Bool) (r : R Bool) (Q : Bool → Hp → Prop) : Prop := match r with
  | .ok d γ' => ∀ H', Stp C pens M σ γ H γ' H' → (p = true → γ' = γ ∧ Keep0 H H') → Q d H'
  | .ex e γ' => ∀ cls d H', Stp C pens M σ γ H γ' H' → ExRep C M e cls d H' → W cls d σ H'
  | .st => False
def tFB (C : Ct) (W : WX) (p : Bool) (f : F Bool) : TT := fun σ H Q => ∃ pens M γ, EnvRep C pens M γ σ H ∧ aftB C W pens M σ γ H p (f γ) Q
def FT (C : Ct) (W : WX) (p : Bool) (X : Cx) (e : Expr) (f : F Bool) : Prop := PT X e (tFB C W p f)
theorem PT.imp {X : Cx} {e : Expr} {t t' : TT} (h : PT X e t) (k : ∀ σ H Q, t' σ H Q → t σ H Q) : PT X e t' := ⟨fun pins s σ H Q I q => h.run pins s σ H Q I (k σ H Q q)⟩
theorem PW.imp {X : Cx} {e : Expr} {t t' : TT} (h : PW X e t) (k : ∀ σ H Q, t' σ H Q → t σ H Q) : PW X e t' := ⟨fun wh pins s σ H Q I q => h.run wh pins s σ H Q I (k σ H Q q)⟩
def dBl : D → Option Bool | .bl b => some b | _ => none
section
variable {C : Ct} {W : WX} {X : Cx} {m p m1 p1 m2 p2 m3 p3 : Bool} {a b c e' : Expr} {fa fb fc : F D} {ga gb gc : F Bool} {pos : Pos} {rest : List Expr}
/-- a test by a value -/
theorem ft_of {g : D → Option Bool} {r : V → Hp → (Bool → Hp → Prop) → Prop} (ha : FX C W m p X a fa) (mk : ∀ ta, PE X a ta → PT X e' (fun σ H Q => ta σ H fun x H1 => r x H1 Q))
    (hr : ∀ (M : Addr → Prop) (H : Hp) (x : V) (dx : D) (k : Bool) (Q : Bool → Hp → Prop), SRep C M H x dx → g dx = some k → Q k H → r x H Q) : FT C W p X e' (f1 g fa) := PT.imp (mk _ ha) fun σ H Q ⟨pens, M, γ, E, h⟩ => by
  refine ⟨pens, M, γ, E, ?_⟩
  unfold f1 F.bind at h
  cases ea : fa γ with
  | st => rw [ea] at h; exact h
  | ex e γ' => rw [ea] at h; exact h
  | ok d γ1 =>
    rw [ea] at h
    intro v H1 S1 P1 r1
    simp only [liftO] at h
    cases eg : g d with
    | none => rw [eg] at h; exact h.elim
    | some k => rw [eg] at h; exact hr M H1 v d k Q r1.s eg (h H1 S1 P1)
/-- any plain expression: its truth -/
theorem ft_truth (ha : FX C W m p X a fa) (he : ∀ whole, isTrue a X.env whole = (do let v ← whole; standAt a.pos; holding [v] (truthy v)) := by intro _; rfl) : FT C W p X a (f1 dTruth fa) :=
  ft_of (r := fun x H Q => ∃ k, TruV X.K x H k ∧ Q k H) ha (fun ta h => pt_truth h he) fun M H x dx k Q s e q => ⟨k, s.truth e, q⟩
/-- a comparison -/
theorem ft_cmp {op : CmpOp} {r : R2} {g : D → D → Option D} (ho : OpR X (compareOp op) r) (hr : Op2 C r g) (ha : FX C W m1 p1 X a fa) (hb : FX C W m2 p2 X b fb) (hmk : behindInMarks op b = false) (hm : (m1 || p2) = true := by rfl) : FT C W (p1 && p2) X (.Compare a [op] [b] pos) (f1 dBl (f2 g fa fb)) := by
  refine PT.imp (pt_cmpR (ta := tF C W m1 p1 fa) (tb := tF C W m2 p2 fb) ho ha hb hmk) fun σ H Q ⟨pens, M, γ, E, h⟩ => ?_
  refine ⟨pens, M, γ, E, ?_⟩
  unfold f1 f2 F.bind at h
  simp only [F.bind] at h
  cases ea : fa γ with
  | st => rw [ea] at h; exact h
  | ex e γ' => rw [ea] at h; exact h
  | ok d γ1 =>
    rw [ea] at h
    simp only at h
    intro v H1 S1 P1 r1
    refine ⟨pens, M, γ1, S1.env, ?_⟩
    cases eb : fb γ1 with
    | st => rw [eb] at h; exact h
    | ex e γ' => rw [eb] at h; exact fun cls dd H' S2 re => h cls dd H' (S1.trans S2) re
    | ok d2 γ2 =>
      rw [eb] at h
      intro v2 H2 S2 P2 r2
      simp only [liftO] at h
      cases eg : g d d2 with
      | none => rw [eg] at h; exact h.elim
      | some d3 =>
        rw [eg] at h
        simp only at h
        cases ek : dBl d3 with
        | none => rw [ek] at h; exact h.elim
        | some k =>
          rw [ek] at h
          refine hr M H2 v v2 d d2 d3 _ S2.env.dom (both S1.env S2 hm P2 r1).s r2.s eg fun v3 H3 k3 r3 => ?_
          cases d3 with
          | bl kk =>
            cases ek
            cases r3
            refine ⟨_, rfl, h H3 ((S1.trans S2).trans (Stp.pure S2.env k3)) fun z => ?_⟩
            obtain ⟨q1, q2⟩ := purity P1 P2 z
            exact ⟨q1, q2.trans k3⟩
          | _ => cases ek
theorem ft_eq (hu : X.A.units + 64 < cLine) (ha : FX C W m1 p1 X a fa) (hb : FX C W m2 p2 X b fb) (hm : (m1 || p2) = true := by rfl) : FT C W (p1 && p2) X (.Compare a [.Eq] [b] pos) (f1 dBl (f2 dEq fa fb)) := ft_cmp (op_eqP hu) op2_eq ha hb (nomark _) hm
theorem ft_ne (hu : X.A.units + 64 < cLine) (ha : FX C W m1 p1 X a fa) (hb : FX C W m2 p2 X b fb) (hm : (m1 || p2) = true := by rfl) : FT C W (p1 && p2) X (.Compare a [.NotEq] [b] pos) (f1 dBl (f2 dNe fa fb)) := ft_cmp (op_neP hu) op2_ne ha hb (nomark _) hm
theorem ft_lt (ha : FX C W m1 p1 X a fa) (hb : FX C W m2 p2 X b fb) (hm : (m1 || p2) = true := by rfl) : FT C W (p1 && p2) X (.Compare a [.Lt] [b] pos) (f1 dBl (f2 dLt fa fb)) := ft_cmp op_lt op2_lt ha hb (nomark _) hm
theorem ft_gt (ha : FX C W m1 p1 X a fa) (hb : FX C W m2 p2 X b fb) (hm : (m1 || p2) = true := by rfl) : FT C W (p1 && p2) X (.Compare a [.Gt] [b] pos) (f1 dBl (f2 dGt fa fb)) := ft_cmp op_gt op2_gt ha hb (nomark _) hm
theorem ft_notIn (hu : X.A.units + 65 < cLine) (ha : FX C W m1 p1 X a fa) (hb : FX C W m2 p2 X b fb) (hmk : behindInMarks .NotIn b = false := by rfl) (hm : (m1 || p2) = true := by rfl) : FT C W (p1 && p2) X (.Compare a [.NotIn] [b] pos) (f1 dBl (f2 dNotIn fa fb)) := ft_cmp ((op_notInP hu).or (op_notInT hu)) op2_notIn ha hb hmk hm
def dIsNB (x : D) : Option Bool := match x with | .raw _ => none | _ => some x.isNon
def dNotNB (x : D) : Option Bool := match x with | .raw _ => none | _ => some (!x.isNon)
/-! ### and, or, not as tests -/
def tAndF (fa fb : F Bool) : F Bool := F.bind fa fun k => if k = true then fb else fun γ => .ok false γ
def tOrF (fa fb : F Bool) : F Bool := F.bind fa fun k => if k = true then (fun γ => .ok true γ) else fb
def tNotF (fa : F Bool) : F Bool := F.bind fa fun k γ => .ok (!k) γ
theorem aftB_go {pens : Nat → Addr} {M : Addr → Prop} {σ : L2.St} {γ γ1 : Gm} {H H1 : Hp} {q1 q2 : Bool} {Q : Bool → Hp → Prop} {r : R Bool} (S1 : Stp C pens M σ γ H γ1 H1) (P1 : q1 = true → γ1 = γ ∧ Keep0 H H1)
    (h : aftB C W pens M σ γ H (q1 && q2) r Q) : aftB C W pens M σ γ1 H1 q2 r Q := by
  cases r with
  | st => exact h
  | ex e γ' => exact fun cls dd H' S2 re => h cls dd H' (S1.trans S2) re
  | ok k γ2 => exact fun H2 S2 P2 => h H2 (S1.trans S2) (purity P1 P2)
theorem fw_or1 (ha : FT C W p1 X a ga) : PW X (.BoolOp .Or [a] pos) (tFB C W p1 ga) := pw_or1 ha
theorem fw_or (ha : FT C W p1 X a ga) (hb : PW X (.BoolOp .Or (b :: rest) pos) (tFB C W p2 gb)) : PW X (.BoolOp .Or (a :: b :: rest) pos) (tFB C W (p1 && p2) (tOrF ga gb)) := by
  refine PW.imp (pw_or ha hb) fun σ H Q ⟨pens, M, γ, E, h⟩ => ⟨pens, M, γ, E, ?_⟩
  unfold tOrF F.bind at h
  cases ea : ga γ with
  | st => rw [ea] at h; exact h
  | ex e γ' => rw [ea] at h; exact h
  | ok k γ1 =>
    rw [ea] at h
    intro H1 S1 P1
    cases k with
    | true =>
      simp only [if_true] at h
      rw [if_pos rfl]
      exact h H1 S1 fun z => P1 (Bool.and_eq_true_iff.mp z).1
    | false =>
      simp only [Bool.false_eq_true, if_false] at h
      rw [if_neg Bool.false_ne_true]
      exact ⟨pens, M, γ1, S1.env, aftB_go S1 P1 h⟩
theorem ft_w (h : PW X a (tFB C W p ga)) : FT C W p X a ga := h.pt
theorem ft_not (ha : FT C W p X a ga) : FT C W p X (.UnaryOp .Not a pos) (tNotF ga) := by
  refine PT.imp (pt_not ha) fun σ H Q ⟨pens, M, γ, E, h⟩ => ⟨pens, M, γ, E, ?_⟩
  unfold tNotF F.bind at h
  cases ea : ga γ with
  | st => rw [ea] at h; exact h
  | ex e γ' => rw [ea] at h; exact h
  | ok k γ1 => rw [ea] at h; exact h
/-! ### as values -/
/-- a and b: the first one True or False -/
def vAnd (fa fb : F D) : F D := F.bind fa fun x => match x with
  | .bl true => fb
  | .bl false => fun γ => .ok (.bl false) γ
  | _ => fun _ => .st
def vOr (fa fb : F D) : F D := F.bind fa fun x => match dTruth x with
  | some true => fun γ => .ok x γ
  | some false => fb
  | none => fun _ => .st
def vNot : D → Option D | .bl b => some (.bl (!b)) | _ => none
theorem aft_go {pens : Nat → Addr} {M : Addr → Prop} {σ : L2.St} {γ γ1 : Gm} {H H1 : Hp} {q1 q2 : Bool} {Q : VK} {r : R D} (S1 : Stp C pens M σ γ H γ1 H1) (P1 : q1 = true → γ1 = γ ∧ Keep0 H H1)
    (h : aft C W pens M σ γ H m (q1 && q2) r Q) : aft C W pens M σ γ1 H1 m q2 r Q := by
  cases r with
  | st => exact h
  | ex e γ' => exact fun cls dd H' S2 re => h cls dd H' (S1.trans S2) re
  | ok k γ2 => exact fun v H2 S2 P2 rr => h v H2 (S1.trans S2) (purity P1 P2) rr
theorem MRep.weak {M : Addr → Prop} {H : Hp} {v : V} {d : D} (h : Rep C M H v d) : ∀ {m : Bool}, MRep m C M H v d
  | true => h
  | false => .rep h
theorem fx_one {op : BoolOp} (ha : FX C W m p X a fa) : FX C W m p X (.BoolOp op [a] pos) fa := pe_one ha
theorem fx_and (ha : FX C W m1 p1 X a fa) (hb : FX C W m2 p2 X (.BoolOp .And (b :: rest) pos) fb) : FX C W m2 (p1 && p2) X (.BoolOp .And (a :: b :: rest) pos) (vAnd fa fb) := by
  refine PE.imp (pe_and ha hb) fun σ H Q ⟨pens, M, γ, E, h⟩ => ⟨pens, M, γ, E, ?_⟩
  unfold vAnd F.bind at h
  cases ea : fa γ with
  | st => rw [ea] at h; exact h
  | ex e γ' => rw [ea] at h; exact h
  | ok k γ1 =>
    rw [ea] at h
    intro v H1 S1 P1 r1
    cases k with
    | bl k =>
      rw [r1.s.blH]
      refine ⟨k, rfl, ?_⟩
      cases k with
      | true => rw [if_pos rfl]; exact ⟨pens, M, γ1, S1.env, aft_go S1 P1 h⟩
      | false => rw [if_neg Bool.false_ne_true]; exact h _ H1 S1 (fun z => P1 (Bool.and_eq_true_iff.mp z).1) (MRep.weak (.bl _))
    | _ => exact h.elim
theorem fx_not (ha : FX C W m p X a fa) : FX C W true p X (.UnaryOp .Not a pos) (f1 vNot fa) := fx1 (r := fun x H Q => ∃ c, x = .bl c ∧ Q (.bl (!c)) H) ha (fun ta h => pe_not h) fun M H x dx d Q hd sx e k => by
  cases dx with
  | bl b => cases e; exact ⟨b, sx.blH, k _ H (Keep.refl _ _) (.bl _)⟩
  | _ => cases e
/-- x if t else y -/
def fIf (t : F Bool) (fa fb : F D) : F D := F.bind t fun k => if k = true then fa else fb
theorem fx_if (ht : FT C W p1 X c gc) (ha : FX C W m p2 X a fa) (hb : FX C W m p3 X b fb) : FX C W m (p1 && (p2 && p3)) X (.IfExp c a b pos) (fIf gc fa fb) := by
  refine PE.imp (pe_ifExp ht ha hb) fun σ H Q ⟨pens, M, γ, E, h⟩ => ⟨pens, M, γ, E, ?_⟩
  unfold fIf F.bind at h
  cases ea : gc γ with
  | st => rw [ea] at h; exact h
  | ex e γ' => rw [ea] at h; exact h
  | ok k γ1 =>
    rw [ea] at h
    intro H1 S1 P1
    have weaken : ∀ {q : Bool} {r : R D}, (∀ z : q = true → True, True) → aft C W pens M σ γ1 H1 m (p2 && p3) r Q → (q = p2 ∨ q = p3) → (q = true → True) → True := fun _ _ _ _ => trivial
    cases k with
    | true =>
      simp only [if_true] at h
      rw [if_pos rfl]
      refine ⟨pens, M, γ1, S1.env, ?_⟩
      have h2 := aft_go S1 P1 h
      cases er : fa γ1 with
      | st => rw [er] at h2; exact h2
      | ex e g => rw [er] at h2; exact h2
      | ok d g => rw [er] at h2; exact fun v H2 S2 P2 rr => h2 v H2 S2 (fun z => P2 (Bool.and_eq_true_iff.mp z).1) rr
    | false =>
      simp only [Bool.false_eq_true, if_false] at h
      rw [if_neg Bool.false_ne_true]
      refine ⟨pens, M, γ1, S1.env, ?_⟩
      have h2 := aft_go S1 P1 h
      cases er : fb γ1 with
      | st => rw [er] at h2; exact h2
      | ex e g => rw [er] at h2; exact h2
      | ok d g => rw [er] at h2; exact fun v H2 S2 P2 rr => h2 v H2 S2 (fun z => P2 (Bool.and_eq_true_iff.mp z).2) rr
/-- a r b r' c -/
def fChain (g g' : D → D → Option D) (fa fb fc : F D) : F D := F.bind fa fun x => F.bind fb fun y => match g x y with
  | some (.bl true) => F.bind fc fun z => liftO (g' y z)
  | some (.bl false) => fun γ => .ok (.bl false) γ
  | _ => fun _ => .st
theorem tChain_of {op op' : CmpOp} {r r' : R2} {g g' : D → D → Option D} (hr : Op2 C r g) (hr' : Op2 C r' g') (hm : (m1 || p2) = true) (hm2 : (m2 || p3) = true) {σ : L2.St} {H : Hp} {Q : VK}
    (h : tF C W true (p1 && (p2 && p3)) (fChain g g' fa fb fc) σ H Q) : tChain r r' (tF C W m1 p1 fa) (tF C W m2 p2 fb) (tF C W m3 p3 fc) σ H Q := by
  obtain ⟨pens, M, γ, E, h⟩ := h
  refine ⟨pens, M, γ, E, ?_⟩
  unfold fChain at h
  cases ea : fa γ with
  | st => rw [bind_st ea] at h; exact h
  | ex e γ' => rw [bind_ex ea] at h; exact h
  | ok d γ1 =>
    rw [bind_ok ea] at h
    intro v H1 S1 P1 r1
    refine ⟨pens, M, γ1, S1.env, ?_⟩
    have h2 := aft_go S1 P1 h
    cases eb : fb γ1 with
    | st => rw [bind_st eb] at h2; exact h2
    | ex e γ' => rw [bind_ex eb] at h2; exact h2
    | ok d2 γ2 =>
      rw [bind_ok eb] at h2
      intro v2 H2 S2 P2 r2
      have h3 := aft_go S2 P2 h2
      cases eg : g d d2 with
      | none => rw [eg] at h3; exact h3.elim
      | some d3 =>
        rw [eg] at h3
        refine hr M H2 v v2 d d2 d3 _ S2.env.dom (both S1.env S2 hm P2 r1).s r2.s eg fun v3 H3 k3 r3 => ?_
        cases d3 with
        | bl kk =>
          cases r3
          refine ⟨kk, rfl, ?_⟩
          have S3 : Stp C pens M σ γ2 H2 γ2 H3 := Stp.pure S2.env k3
          cases kk with
          | true =>
            rw [if_pos rfl]
            refine ⟨pens, M, γ2, S3.env, ?_⟩
            have h4 : aft C W pens M σ γ2 H3 true p3 (F.bind fc (fun z => liftO (g' d2 z)) γ2) Q := aft_go (q1 := true) (q2 := p3) S3 (fun _ => ⟨rfl, k3⟩) (by simpa using h3)
            cases ec : fc γ2 with
            | st => rw [bind_st ec] at h4; exact h4
            | ex e γ' => rw [bind_ex ec] at h4; exact h4
            | ok d4 γ4 =>
              rw [bind_ok ec] at h4
              intro v4 H4 S4 P4 r4
              simp only [liftO] at h4
              cases eg' : g' d2 d4 with
              | none => rw [eg'] at h4; exact h4.elim
              | some d5 =>
                rw [eg'] at h4
                have rb : MRep m2 C M H4 v2 d2 := both S2.env (S3.trans S4) hm2 (fun z => ⟨(P4 z).1, k3.trans (P4 z).2⟩) r2
                exact hr' M H4 v2 v4 d2 d4 d5 Q S4.env.dom rb.s r4.s eg' (aft_fin S4 P4 h4)
          | false =>
            rw [if_neg Bool.false_ne_true]
            exact h3 _ H3 S3 (fun _ => ⟨rfl, k3⟩) (.bl _)
        | _ => exact h3.elim
theorem fx_chain {op op' : CmpOp} {r r' : R2} {g g' : D → D → Option D} (ho : OpR X (compareOp op) r) (ho' : OpR X (compareOp op') r') (hr : Op2 C r g) (hr' : Op2 C r' g') (ha : FX C W m1 p1 X a fa) (hb : FX C W m2 p2 X b fb) (hc : FX C W m3 p3 X c fc)
    (hl : lastMarks [op, op'] [b, c] = false) (hm : (m1 || p2) = true := by rfl) (hm2 : (m2 || p3) = true := by rfl) : FX C W true (p1 && (p2 && p3)) X (.Compare a [op, op'] [b, c] pos) (fChain g g' fa fb fc) :=
  PE.imp (pe_chain ho ho' ha hb hc hl) fun σ H Q h => tChain_of (op := op) (op' := op') hr hr' hm hm2 h
theorem ft_chain {op op' : CmpOp} {r r' : R2} {g g' : D → D → Option D} (ho : OpR X (compareOp op) r) (ho' : OpR X (compareOp op') r') (hr : Op2 C r g) (hr' : Op2 C r' g') (ha : FX C W m1 p1 X a fa) (hb : FX C W m2 p2 X b fb) (hc : FX C W m3 p3 X c fc)
    (hl : lastMarks [op, op'] [b, c] = false) (hm : (m1 || p2) = true := by rfl) (hm2 : (m2 || p3) = true := by rfl) : FT C W (p1 && (p2 && p3)) X (.Compare a [op, op'] [b, c] pos) (f1 dBl (fChain g g' fa fb fc)) := by
  refine PT.imp (pt_chain ho ho' ha hb hc hl) fun σ H Q ⟨pens, M, γ, E, h⟩ => ?_
  refine tChain_of (op := op) (op' := op') hr hr' hm hm2 ⟨pens, M, γ, E, ?_⟩
  unfold f1 F.bind at h
  cases er : fChain g g' fa fb fc γ with
  | st => rw [er] at h; exact h
  | ex e γ' => rw [er] at h; exact h
  | ok d γ1 =>
    rw [er] at h
    intro v H1 S1 P1 r1
    simp only [liftO] at h
    cases ek : dBl d with
    | none => rw [ek] at h; exact h.elim
    | some k =>
      rw [ek] at h
      cases d with
      | bl kk => cases ek; cases r1; exact ⟨_, rfl, h H1 S1 P1⟩
      | _ => cases ek
end
end FC
namespace FC
open PySem PySem.Spec PyProof.Rows L2
/-! ### a new thing -/
def MO.d : MO → D
  | .lst xs => .lst xs
  | .ins c fs => .ins c fs
def aftN (C : Ct) (W : WX) (pens : Nat → Addr) (M : Addr → Prop) (σ : L2.St) (γ : Gm) (H : Hp) (p : Bool) (r : R MO) (Q : VK) : Prop := match r with
  | .ok o γ' => ∀ a H', H a = none → EnvRep C pens (adj M a) γ' σ H' → Keep (Own γ σ) H H' → Pat γ γ' → (p = true → γ' = γ ∧ Keep0 H H') → ORep C (adj M a) H' a o → Q (.ref a) H'
  | .ex e γ' => ∀ cls d H', Stp C pens M σ γ H γ' H' → ExRep C M e cls d H' → W cls d σ H'
  | .st => False
def tFN (C : Ct) (W : WX) (p : Bool) (f : F MO) : TE := fun σ H Q => ∃ pens M γ, EnvRep C pens M γ σ H ∧ aftN C W pens M σ γ H p (f γ) Q
def FN (C : Ct) (W : WX) (p : Bool) (X : Cx) (e : Expr) (f : F MO) : Prop := PE X e (tFN C W p f)
def fD (f : F MO) : F D := F.bind f fun o γ => .ok o.d γ
theorem Own.tracked {C : Ct} {pens : Nat → Addr} {M : Addr → Prop} {γ : Gm} {σ : L2.St} {H : Hp} (E : EnvRep C pens M γ σ H) {a : Addr} (h : H a = none) : ¬ Own γ σ a := fun o => by
  obtain ⟨_, u, e, _⟩ := E.ownM o
  rw [h] at e
  cases e
section
variable {C : Ct} {W : WX} {X : Cx} {m p m1 p1 m2 p2 m3 p3 : Bool} {a b c e' : Expr} {fa fb fc : F D} {fn : F MO} {pos : Pos}
theorem ORep.rep {M : Addr → Prop} {H : Hp} {a : Addr} (n : ¬ M a) : ∀ {o : MO}, ORep C (adj M a) H a o → Rep C M H (.ref a) o.d
  | .lst _, ⟨vs, e, r⟩ => .lst e n (r.fine (Fine.weak fun _ _ _ z => .inl z))
  | .ins _ _, ⟨dx, vs, e, r⟩ => .ins e n (r.fine (Fine.weak fun _ _ _ z => .inl z))
/-- as data: nothing will change it -/
theorem fx_new (h : FN C W p X a fn) : FX C W true p X a (fD fn) := PE.imp h fun σ H Q ⟨pens, M, γ, E, h⟩ => by
  refine ⟨pens, M, γ, E, ?_⟩
  unfold fD at h
  cases ea : fn γ with
  | st => rw [bind_st ea] at h; exact h
  | ex e γ' => rw [bind_ex ea] at h; exact h
  | ok o γ1 =>
    rw [bind_ok ea] at h
    intro p H1 hp E1 k1 pt P1 r1
    have np : ¬ M p := notM E.dom hp
    exact h (.ref p) H1 ⟨E1.weak (fun _ z => .inl z) (fun b ob => (E.ownM (pt.symm.Own ob)).1), k1, pt⟩ P1 (r1.rep np)
/-- behind a step whose end makes a new list -/
theorem aftN_fin {pens : Nat → Addr} {M : Addr → Prop} {σ : L2.St} {γ γ' : Gm} {H H' : Hp} {q : Bool} {Q : VK} {xs : List D} (E : EnvRep C pens M γ σ H) (S : Stp C pens M σ γ H γ' H') (P : q = true → γ' = γ ∧ Keep0 H H')
    (h : aftN C W pens M σ γ H q (.ok (.lst xs) γ') Q) : ∀ pp vs, H' pp = none → RepL C M H' vs xs → Q (.ref pp) (upd H' pp (.lst vs)) := fun pp vs hp r => by
  have hp0 : H pp = none := S.keep.free hp fun o => Own.tracked S.env hp (S.pat.Own o)
  refine h pp _ hp0 (S.env.plus hp ⟨_, upd_same⟩ (Keep.new hp)) (S.keep.trans (Keep.new hp)) S.pat (fun z => ⟨(P z).1, (P z).2.trans (Keep.new hp)⟩) ⟨vs, upd_same, ?_⟩
  exact r.fine (Fine.trans (Fine.plus hp) (Fine.keep0 (Keep.new hp)) fun a o e _ z => z.elim id fun q => by rw [q, hp] at e; cases e)
/-- an operation that makes a new list -/
def Op1N (C : Ct) (r : V → Hp → VK → Prop) (g : D → Option (List D)) : Prop := ∀ (M : Addr → Prop) (H : Hp) (x : V) (dx : D) (xs : List D) (Q : VK), SRep C M H x dx → g dx = some xs → (∀ p vs, H p = none → RepL C M H vs xs → Q (.ref p) (upd H p (.lst vs))) → r x H Q
def Op2N (C : Ct) (r : V → V → Hp → VK → Prop) (g : D → D → Option (List D)) : Prop := ∀ (M : Addr → Prop) (H : Hp) (x y : V) (dx dy : D) (xs : List D) (Q : VK), SRep C M H x dx → SRep C M H y dy → g dx dy = some xs →
  (∀ p vs, H p = none → RepL C M H vs xs → Q (.ref p) (upd H p (.lst vs))) → r x y H Q
def n1 (g : D → Option (List D)) (fa : F D) : F MO := f1 (fun x => (g x).map .lst) fa
def n2 (g : D → D → Option (List D)) (fa fb : F D) : F MO := f2 (fun x y => (g x y).map .lst) fa fb
theorem fn1 {r : V → Hp → VK → Prop} {g : D → Option (List D)} (ha : FX C W m p X a fa) (mk : ∀ ta, PE X a ta → PE X e' (fun σ H Q => ta σ H fun x H1 => r x H1 Q)) (hr : Op1N C r g) : FN C W p X e' (n1 g fa) := PE.imp (mk _ ha) fun σ H Q ⟨pens, M, γ, E, h⟩ => by
  refine ⟨pens, M, γ, E, ?_⟩
  unfold n1 f1 at h
  cases ea : fa γ with
  | st => rw [bind_st ea] at h; exact h
  | ex e γ' => rw [bind_ex ea] at h; exact h
  | ok d γ1 =>
    rw [bind_ok ea] at h
    intro v H1 S1 P1 r1
    simp only [liftO] at h
    cases eg : g d with
    | none => rw [eg] at h; exact h.elim
    | some d2 => rw [eg] at h; exact hr M H1 v d d2 Q r1.s eg (aftN_fin E S1 P1 h)
theorem fn2 {r : V → V → Hp → VK → Prop} {g : D → D → Option (List D)} (ha : FX C W m1 p1 X a fa) (hb : FX C W m2 p2 X b fb) (mk : ∀ ta tb, PE X a ta → PE X b tb → PE X e' (fun σ H Q => ta σ H fun x H1 => tb σ H1 fun y H2 => r x y H2 Q)) (hr : Op2N C r g)
    (hm : (m1 || p2) = true := by rfl) : FN C W (p1 && p2) X e' (n2 g fa fb) := PE.imp (mk _ _ ha hb) fun σ H Q ⟨pens, M, γ, E, h⟩ => by
  refine ⟨pens, M, γ, E, ?_⟩
  unfold n2 f2 at h
  cases ea : fa γ with
  | st => rw [bind_st ea] at h; exact h
  | ex e γ' => rw [bind_ex ea] at h; exact h
  | ok d γ1 =>
    rw [bind_ok ea] at h
    intro v H1 S1 P1 r1
    refine ⟨pens, M, γ1, S1.env, ?_⟩
    cases eb : fb γ1 with
    | st => rw [bind_st eb] at h; exact h
    | ex e γ' => rw [bind_ex eb] at h; exact fun cls dd H' S2 re => h cls dd H' (S1.trans S2) re
    | ok d2 γ2 =>
      rw [bind_ok eb] at h
      intro v2 H2 S2 P2 r2
      simp only [liftO] at h
      cases eg : g d d2 with
      | none => rw [eg] at h; exact h.elim
      | some d3 =>
        rw [eg] at h
        exact hr M H2 v v2 d d2 d3 Q (both S1.env S2 hm P2 r1).s r2.s eg (aftN_fin E (S1.trans S2) (purity P1 P2) h)
end
/-! ### argument lists -/
inductive AV where
  | d (x : D) | n (o : MO) | s (i : Nat) | w (xs : List D)
def AOk (C : Ct) (M : Addr → Prop) (H : Hp) (σ : L2.St) (γ : Gm) (v : V) : AV → Prop
  | .d x => Rep C M H v x
  | .n o => ∃ a, v = .ref a ∧ M a ∧ ORep C M H a o
  | .s i => σ[i]? = some (some v) ∧ ∃ t o, γ[i]? = some (.own t o)
  | .w xs => ∃ a vs, v = .ref a ∧ Seen C H a vs ∧ RepL C M H vs xs
def freshA : List V → List AV → List Addr
  | .ref a :: vs, .n _ :: as => a :: freshA vs as
  | _ :: vs, _ :: as => freshA vs as
  | _, _ => []
structure AsOk (C : Ct) (M : Addr → Prop) (H0 H : Hp) (σ : L2.St) (γ : Gm) (vs : List V) (as : List AV) : Prop where
  ok : Paired (AOk C M H σ γ) vs as
  nd : (freshA vs as).Nodup
  fr : ∀ a ∈ freshA vs as, H0 a = none
def aftA (C : Ct) (W : WX) (pens : Nat → Addr) (M : Addr → Prop) (σ : L2.St) (γ : Gm) (H : Hp) (p : Bool) (r : R (List AV)) (Q : List V → Hp → Prop) : Prop := match r with
  | .ok as γ' => ∀ vs H' M', EnvRep C pens M' γ' σ H' → Keep (Own γ σ) H H' → Pat γ γ' → (p = true → γ' = γ ∧ Keep0 H H') → (∀ a, M a → M' a) → (∀ a, M' a → M a ∨ a ∈ freshA vs as) → AsOk C M' H H' σ γ' vs as → Q vs H'
  | .ex e γ' => ∀ cls d H' M', EnvRep C pens M' γ' σ H' → Keep (Own γ σ) H H' → Pat γ γ' → (∀ a, M a → M' a) → (∀ a, M' a → M a ∨ H a = none) → ExRep C M' e cls d H' → W cls d σ H'
  | .st => False
def tFA (C : Ct) (W : WX) (p : Bool) (f : F (List AV)) : TA := fun σ H Q => ∃ pens M γ, EnvRep C pens M γ σ H ∧ aftA C W pens M σ γ H p (f γ) Q
def FA (C : Ct) (W : WX) (p : Bool) (X : Cx) (es : List Expr) (f : F (List AV)) : Prop := PA X es (tFA C W p f)
theorem PA.imp {X : Cx} {es : List Expr} {t t' : TA} (h : PA X es t) (k : ∀ σ H Q, t' σ H Q → t σ H Q) : PA X es t' := ⟨fun pos pins s σ H Q I q => h.run pos pins s σ H Q I (k σ H Q q)⟩
def aNil : F (List AV) := fun γ => .ok [] γ
def aVal (fa : F D) (fr : F (List AV)) : F (List AV) := F.bind fa fun x => F.bind fr fun as γ => .ok (.d x :: as) γ
def aNew (fn : F MO) (fr : F (List AV)) : F (List AV) := F.bind fn fun x => F.bind fr fun as γ => .ok (.n x :: as) γ
/-- a name of the frame: data, a thing of one's own, the script -/
def aVar (i : Nat) (fr : F (List AV)) : F (List AV) := fun γ => match γ[i]? with
  | some (.own _ _) => F.bind fr (fun as γ => .ok (.s i :: as) γ) γ
  | some (.val d) => F.bind fr (fun as γ => .ok (.d d :: as) γ) γ
  | some (.view xs) => F.bind fr (fun as γ => .ok (.w xs :: as) γ) γ
  | _ => .st
def dItems : D → Option (List D)
  | .lst xs => some xs
  | .tup xs => some xs
  | _ => none
def aStar (fa : F D) (fr : F (List AV)) : F (List AV) := F.bind fa fun x => F.bind (liftO (dItems x)) fun xs => F.bind fr fun as γ => .ok (xs.map .d ++ as) γ
section
variable {C : Ct} {W : WX} {X : Cx} {m p m1 p1 m2 p2 m3 p3 : Bool} {a b c e' : Expr} {fa fb fc : F D} {fn : F MO} {fr : F (List AV)} {pos : Pos} {e : Expr} {es : List Expr}
theorem fa_nil : FA C W true X [] aNil := PA.imp pa_nil fun σ H Q ⟨pens, M, γ, E, h⟩ => h [] H M E (Keep.refl _ _) rfl (fun _ => ⟨rfl, Keep.refl _ _⟩) (fun _ z => z) (fun _ z => .inl z) ⟨.nil, List.nodup_nil, fun _ z => nomatch z⟩
theorem stepM {pens : Nat → Addr} {M1 M2 : Addr → Prop} {σ : L2.St} {γ1 : Gm} {H1 H2 : Hp} {vs : List V} {as : List AV} (E1 : EnvRep C pens M1 γ1 σ H1) (k2 : Keep (Own γ1 σ) H1 H2) (up : ∀ a, M2 a → M1 a ∨ a ∈ freshA vs as) (fr2 : ∀ a ∈ freshA vs as, H1 a = none) : Fine M1 M2 H1 H2 :=
  ⟨fun a o e n t => (k2 a o e fun z => n (E1.ownM z).1).1 t, fun a o e z => (up a z).elim id fun q => by rw [fr2 a q] at e; cases e⟩
theorem fa_val (he : FX C W true p1 X e fa) (hr : FA C W p2 X es fr) (hs : starEach (e :: es) X.env = (false, eval e X.env) :: starEach es X.env := by rfl) : FA C W (p1 && p2) X (e :: es) (aVal fa fr) := by
  refine PA.imp (pa_cons he hr hs) fun σ H Q ⟨pens, M, γ, E, h⟩ => ⟨pens, M, γ, E, ?_⟩
  unfold aVal at h
  cases ea : fa γ with
  | st => rw [bind_st ea] at h; exact h
  | ex x γ' => rw [bind_ex ea] at h; exact fun cls d H' S re => h cls d H' M S.env S.keep S.pat (fun _ z => z) (fun _ z => .inl z) re
  | ok d γ1 =>
    rw [bind_ok ea] at h
    intro v H1 S1 P1 r1
    refine ⟨pens, M, γ1, S1.env, ?_⟩
    cases eb : fr γ1 with
    | st => rw [bind_st eb] at h; exact h
    | ex x γ' =>
      rw [bind_ex eb] at h
      intro cls dd H' M' E' k' pt' up dn re
      refine h cls dd H' M' E' (S1.keep.trans (k'.mono fun _ z => S1.pat.symm.Own z)) (S1.pat.trans pt') up (fun a z => (dn a z).elim .inl fun q => ?_) re
      by_cases o : Own γ σ a
      · exact .inl (E.ownM o).1
      · exact .inr (S1.keep.free q o)
    | ok as γ2 =>
      rw [bind_ok eb] at h
      intro vs H2 M2 E2 k2 pt2 P2 up dn A
      have fH : ∀ a ∈ freshA vs as, H a = none := fun a ha => S1.keep.free (A.fr a ha) fun o => Own.tracked S1.env (A.fr a ha) (S1.pat.Own o)
      have F12 := stepM S1.env k2 dn A.fr
      have ef : freshA (v :: vs) (.d d :: as) = freshA vs as := by cases v <;> rfl
      refine h (v :: vs) H2 M2 E2 (S1.keep.trans (k2.mono fun _ z => S1.pat.symm.Own z)) (S1.pat.trans pt2) (purity P1 P2) up (fun a z => by rw [ef]; exact dn a z) ⟨.cons (show AOk C M2 H2 σ γ2 v (.d d) from Rep.fine F12 r1) A.ok, by rw [ef]; exact A.nd, fun a ha => by rw [ef] at ha; exact fH a ha⟩
theorem fa_new (he : FN C W p1 X e fn) (hr : FA C W p2 X es fr) (hs : starEach (e :: es) X.env = (false, eval e X.env) :: starEach es X.env := by rfl) : FA C W (p1 && p2) X (e :: es) (aNew fn fr) := by
  refine PA.imp (pa_cons he hr hs) fun σ H Q ⟨pens, M, γ, E, h⟩ => ⟨pens, M, γ, E, ?_⟩
  unfold aNew at h
  cases ea : fn γ with
  | st => rw [bind_st ea] at h; exact h
  | ex x γ' => rw [bind_ex ea] at h; exact fun cls d H' S re => h cls d H' M S.env S.keep S.pat (fun _ z => z) (fun _ z => .inl z) re
  | ok o γ1 =>
    rw [bind_ok ea] at h
    intro v H1 hv E1 k1 pt1 P1 r1
    refine ⟨pens, adj M v, γ1, E1, ?_⟩
    have no1 : ∀ a, Own γ1 σ a → Own γ σ a := fun _ z => pt1.symm.Own z
    have there : ∃ u, H1 v = some u ∧ isTbl u = false := r1.there
    cases eb : fr γ1 with
    | st => rw [bind_st eb] at h; exact h
    | ex x γ' =>
      rw [bind_ex eb] at h
      intro cls dd H' M' E' k' pt' up dn re
      refine h cls dd H' M' E' (k1.trans (k'.mono no1)) (pt1.trans pt') (fun a z => up a (.inl z)) (fun a z => (dn a z).elim (fun q => q.elim .inl fun w => .inr (by rw [w]; exact hv)) fun q => ?_) re
      by_cases ow : Own γ σ a
      · exact .inl (E.ownM ow).1
      · exact .inr (k1.free q ow)
    | ok as γ2 =>
      rw [bind_ok eb] at h
      intro vs H2 M2 E2 k2 pt2 P2 up dn A
      have fH : ∀ a ∈ freshA vs as, H a = none := fun a ha => k1.free (A.fr a ha) fun ow => Own.tracked E1 (A.fr a ha) (pt1.Own ow)
      have F12 := stepM E1 k2 dn A.fr
      have ef : freshA (.ref v :: vs) (.n o :: as) = v :: freshA vs as := rfl
      have nv : ¬ Own γ1 σ v := fun z => Own.tracked E hv (no1 v z)
      refine h (.ref v :: vs) H2 M2 E2 (k1.trans (k2.mono no1)) (pt1.trans pt2) (purity P1 P2) (fun a z => up a (.inl z)) (fun a z => ?_) ⟨.cons ⟨v, rfl, up v (.inr rfl), r1.fine F12 fun u hu ht => (k2 v u hu nv).1 ht⟩ A.ok, ?_, fun a ha => ?_⟩
      · rw [ef]
        rcases dn a z with (q | q) | q
        · exact .inl q
        · exact .inr (by rw [q]; exact List.mem_cons_self)
        · exact .inr (List.mem_cons_of_mem _ q)
      · rw [ef]
        refine List.nodup_cons.mpr ⟨fun z => ?_, A.nd⟩
        obtain ⟨u, hu, _⟩ := there
        rw [A.fr v z] at hu
        cases hu
      · rw [ef] at ha
        rcases List.mem_cons.mp ha with q | q
        · rw [q]; exact hv
        · exact fH a q
theorem Pat.val {γ γ' : Gm} (h : Pat γ γ') {i : Nat} {d : D} (e : γ[i]? = some (.val d)) : γ'[i]? = some (.val d) := by
  have q := h.at i
  rw [e] at q
  cases r : γ'[i]? with
  | none => rw [r] at q; cases q
  | some s =>
    rw [r] at q
    cases s with
    | own t' o' => cases q
    | none => cases q
    | val _ => cases q; rfl
    | view _ => cases q
theorem Pat.view {γ γ' : Gm} (h : Pat γ γ') {i : Nat} {d : List D} (e : γ[i]? = some (.view d)) : γ'[i]? = some (.view d) := by
  have q := h.at i
  rw [e] at q
  cases r : γ'[i]? with
  | none => rw [r] at q; cases q
  | some s =>
    rw [r] at q
    cases s with
    | own t' o' => cases q
    | none => cases q
    | val _ => cases q
    | view _ => cases q; rfl
theorem fa_var {i : Nat} (he : PE X e (tVar i)) (hr : FA C W p X es fr) (hs : starEach (e :: es) X.env = (false, eval e X.env) :: starEach es X.env := by rfl) : FA C W p X (e :: es) (aVar i fr) := by
  refine PA.imp (pa_cons he hr hs) fun σ H Q ⟨pens, M, γ, E, h⟩ => ?_
  unfold aVar at h
  cases q : γ[i]? with
  | none => rw [q] at h; exact h.elim
  | some sv =>
    rw [q] at h
    obtain ⟨x, h1, h2⟩ := E.slot q
    have go : ∀ (v : V) (av : AV), x = some v → (∀ M2 H2 γ2, EnvRep C pens M2 γ2 σ H2 → Pat γ γ2 → AOk C M2 H2 σ γ2 v av) → (∀ vs as, freshA (v :: vs) (av :: as) = freshA vs as) → aftA C W pens M σ γ H p (F.bind fr (fun as γ => .ok (av :: as) γ) γ) Q →
        (fun σ H Q => ∃ v, σ[i]? = some (some v) ∧ (fun v H1 => tFA C W p fr σ H1 fun vs H2 => Q (v :: vs) H2) v H) σ H Q := fun v av ex ok ef h => by
      subst ex
      refine ⟨v, h1, pens, M, γ, E, ?_⟩
      cases eb : fr γ with
      | st => rw [bind_st eb] at h; exact h
      | ex x γ' => rw [bind_ex eb] at h; exact h
      | ok as γ2 =>
        rw [bind_ok eb] at h
        intro vs H2 M2 E2 k2 pt2 P2 up dn A
        exact h (v :: vs) H2 M2 E2 k2 pt2 P2 up (fun b z => by rw [ef]; exact dn b z) ⟨.cons (ok M2 H2 γ2 E2 pt2) A.ok, by rw [ef]; exact A.nd, fun b z => A.fr b (by rw [ef] at z; exact z)⟩
    cases sv with
    | own t o =>
      obtain ⟨a, h2, _, r, _⟩ := h2
      refine go (.ref a) (.s i) h2 (fun M2 H2 γ2 E2 pt => ?_) (fun vs as => rfl) h
      obtain ⟨o', ho'⟩ := pt.own q
      exact ⟨by rw [h1, h2], t, o', ho'⟩
    | val d =>
      obtain ⟨v, h2, r⟩ := h2
      refine go v (.d d) h2 (fun M2 H2 γ2 E2 pt => ?_) (fun vs as => by cases v <;> rfl) h
      obtain ⟨x3, h3, v3, e3, r3⟩ := E2.slot (pt.val q)
      rw [h1, h2] at h3
      cases h3
      cases e3
      exact r3
    | view xs =>
      obtain ⟨a, us, h2, s, r⟩ := h2
      refine go (.ref a) (.w xs) h2 (fun M2 H2 γ2 E2 pt => ?_) (fun vs as => rfl) h
      obtain ⟨x3, h3, a3, us3, e3, s3, r3⟩ := E2.slot (pt.view q)
      rw [h1, h2] at h3
      cases h3
      cases e3
      exact ⟨a, us3, rfl, s3, r3⟩
    | none => exact h.elim
theorem freshA_d : ∀ (xs : List D) (us vs : List V) (as : List AV), us.length = xs.length → freshA (us ++ vs) (xs.map AV.d ++ as) = freshA vs as
  | [], [], _, _, _ => rfl
  | _ :: xs, u :: us, vs, as, h => by
    have e := freshA_d xs us vs as (by simpa using h)
    cases u <;> exact e
theorem paired_d {M : Addr → Prop} {H : Hp} {σ : L2.St} {γ : Gm} : ∀ {xs : List D} {us : List V} {vs : List V} {as : List AV}, RepL C M H us xs → Paired (AOk C M H σ γ) vs as → Paired (AOk C M H σ γ) (us ++ vs) (xs.map AV.d ++ as)
  | [], _, _, _, .nil, k => k
  | _ :: _, _, _, _, .cons r t, k => .cons r (paired_d t k)
end
/-! ### displays -/
def allD : List AV → Option (List D)
  | [] => some []
  | .d x :: as => (allD as).map (x :: ·)
  | _ :: _ => none
theorem allD_eq : ∀ {as : List AV} {ds : List D}, allD as = some ds → as = ds.map AV.d
  | [], ds, e => by cases e; rfl
  | .d x :: as, ds, e => by
    simp only [allD] at e
    cases q : allD as with
    | none => rw [q] at e; cases e
    | some r => rw [q] at e; cases e; rw [allD_eq q]; rfl
  | .n _ :: _, _, e => by cases e
  | .s _ :: _, _, e => by cases e
  | .w _ :: _, _, e => by cases e
theorem repL_of {C : Ct} {M : Addr → Prop} {H : Hp} {σ : L2.St} {γ : Gm} : ∀ {ds : List D} {vs : List V}, Paired (AOk C M H σ γ) vs (ds.map AV.d) → RepL C M H vs ds
  | [], _, .nil => .nil
  | _ :: _, _, .cons r t => .cons r (repL_of t)
theorem freshA_all : ∀ (xs : List D) (us : List V), freshA us (xs.map AV.d) = []
  | [], [] => rfl
  | [], u :: us => by cases u <;> rfl
  | _ :: xs, [] => rfl
  | x :: xs, u :: us => by
    have e := freshA_all xs us
    cases u <;> exact e
def dTup (xs : List D) : Option D := if xs.length ≤ sizeLine then some (.tup xs) else none
def dLst (xs : List D) : Option MO := if xs.length ≤ sizeLine then some (.lst xs) else none
def fTup (fr : F (List AV)) : F D := F.bind fr fun as => F.bind (liftO (allD as)) fun xs => liftO (dTup xs)
def nLst (fr : F (List AV)) : F MO := F.bind fr fun as => F.bind (liftO (allD as)) fun xs => liftO (dLst xs)
section
variable {C : Ct} {W : WX} {X : Cx} {p : Bool} {fr : F (List AV)} {pos : Pos} {es : List Expr}
theorem liftO_some {α : Type} {o : Option α} {a : α} (h : o = some a) (γ : Gm) : liftO o γ = .ok a γ := by unfold liftO; rw [h]
theorem liftO_none {α : Type} {o : Option α} (h : o = none) (γ : Gm) : liftO o γ = .st := by unfold liftO; rw [h]
/-- arguments that are all data -/
theorem aftA_all {pens : Nat → Addr} {M : Addr → Prop} {σ : L2.St} {γ γ' : Gm} {H : Hp} {as : List AV} {xs : List D} {Q : List V → Hp → Prop} (E : EnvRep C pens M γ σ H) (ha : allD as = some xs)
    (h : ∀ vs H', Stp C pens M σ γ H γ' H' → (p = true → γ' = γ ∧ Keep0 H H') → RepL C M H' vs xs → Q vs H') : aftA C W pens M σ γ H p (.ok as γ') Q := by
  intro vs H' M' E' k pt P up dn A
  have e := allD_eq ha
  subst e
  have hM : ∀ a, M' a → M a := fun a z => (dn a z).elim id fun q => by rw [freshA_all] at q; cases q
  exact h vs H' ⟨E'.weak up fun a o => (E.ownM (pt.symm.Own o)).1, k, pt⟩ P ((repL_of A.ok).fine (Fine.weak fun a _ _ z => up a z))
theorem aftA_ex {pens : Nat → Addr} {M : Addr → Prop} {σ : L2.St} {γ γ' : Gm} {H : Hp} {e : Ex} {Q : List V → Hp → Prop} (E : EnvRep C pens M γ σ H)
    (h : ∀ cls d H', Stp C pens M σ γ H γ' H' → ExRep C M e cls d H' → W cls d σ H') : aftA C W pens M σ γ H p (.ex e γ') Q := by
  intro cls d H' M' E' k pt up dn re
  refine h cls d H' ⟨E'.weak up fun a o => (E.ownM (pt.symm.Own o)).1, k, pt⟩ ⟨re.1, re.2.imp id fun ⟨dx, vs, a1, a2, a3⟩ => ⟨dx, vs, a1, a2, a3.fine (Fine.weak fun a _ _ z => up a z)⟩⟩
theorem fx_tup {x1} (h : FA C W p X es fr) : FX C W true p X (.Tuple es x1 pos) (fTup fr) := by
  refine PE.imp (pe_tup h) fun σ H Q ⟨pens, M, γ, E, h⟩ => ⟨pens, M, γ, E, ?_⟩
  unfold fTup at h
  cases ea : fr γ with
  | st => rw [bind_st ea] at h; exact h
  | ex x γ' => rw [bind_ex ea] at h; exact aftA_ex E h
  | ok as γ1 =>
    rw [bind_ok ea] at h
    cases eb : allD as with
    | none => rw [bind_st (liftO_none eb _)] at h; exact h.elim
    | some xs =>
      rw [bind_ok (liftO_some eb _)] at h
      refine aftA_all E eb fun vs H' S P r => ?_
      unfold dTup at h
      split at h
      · rename_i hz
        exact ⟨by rw [r.length]; exact hz, fun q hq => aft_fin S P h _ _ (Keep.new hq) (rep_newT S.env.dom hq r)⟩
      · exact h.elim
theorem fn_lst (h : FA C W p X es fr) : FN C W p X (.List es pos) (nLst fr) := by
  refine PE.imp (pe_lst h) fun σ H Q ⟨pens, M, γ, E, h⟩ => ⟨pens, M, γ, E, ?_⟩
  unfold nLst at h
  cases ea : fr γ with
  | st => rw [bind_st ea] at h; exact h
  | ex x γ' => rw [bind_ex ea] at h; exact aftA_ex E h
  | ok as γ1 =>
    rw [bind_ok ea] at h
    cases eb : allD as with
    | none => rw [bind_st (liftO_none eb _)] at h; exact h.elim
    | some xs =>
      rw [bind_ok (liftO_some eb _)] at h
      refine aftA_all E eb fun vs H' S P r => ?_
      unfold dLst at h
      split at h
      · rename_i hz
        exact ⟨by rw [r.length]; exact hz, fun q hq => aftN_fin E S P h q vs hq r⟩
      · exact h.elim
end
end FC
namespace FC
open PySem PySem.Spec PyProof.Rows L2
/-! ### an item -/
def dIx : D → D → Option D
  | .lst xs, .int i => atI xs i
  | .tup xs, .int i => atI xs i
  | .str z, .int i => if z.length ≤ sizeLine then (atI z.cps.toList i).map fun c => .str ⟨#[c]⟩ else none
  | _, _ => none
section
variable {C : Ct} {W : WX} {X : Cx} {m p m1 p1 m2 p2 m3 p3 : Bool} {a b c e' : Expr} {fa fb fc : F D} {pos : Pos}
theorem RepL.at {M : Addr → Prop} {H : Hp} {vs : List V} {ds : List D} {i : Int} {d : D} (r : RepL C M H vs ds) (h : atI ds i = some d) : ∃ v, atI vs i = some v ∧ Rep C M H v d := by
  unfold atI at h ⊢
  rw [r.length]
  cases q : ixN ds.length i with
  | none => rw [q] at h; cases h
  | some j =>
    rw [q] at h
    exact r.get h
theorem op2_ix : Op2 C (rIx X.K) dIx := fun M H x y dx dy d Q hd sx sy e k => by
  cases dx with
  | lst xs => cases dy with
    | int i =>
      obtain ⟨a, vs, rfl, ha, r⟩ := sx.lstH
      obtain ⟨v, h1, h2⟩ := r.at e
      rw [sy.intH]
      exact .inl ⟨a, vs, i, v, rfl, rfl, .inl (.inl ha), h1, k v H (Keep.refl _ _) h2⟩
    | _ => cases e
  | tup xs => cases dy with
    | int i =>
      obtain ⟨a, vs, rfl, ha, na, r⟩ := sx.tupH
      obtain ⟨v, h1, h2⟩ := r.at e
      rw [sy.intH]
      exact .inr (.inl ⟨a, vs, i, v, rfl, rfl, .inl (.inl ha), h1, k v H (Keep.refl _ _) h2⟩)
    | _ => cases e
  | str z => cases dy with
    | int i =>
      simp only [dIx] at e
      split at e
      · rename_i hz
        cases q : atI z.cps.toList i with
        | none => rw [q] at e; cases e
        | some cc =>
          rw [q] at e
          cases e
          rw [sx.strH, sy.intH]
          exact .inr (.inr ⟨z, i, cc, rfl, rfl, hz, q, k _ H (Keep.refl _ _) (.str _)⟩)
      · cases e
    | _ => cases e
  | _ => cases dy <;> cases e
theorem fx_ix (ha : FX C W m1 p1 X a fa) (hb : FX C W m2 p2 X b fb) (hs : PlainIx b := by intro _ _; rfl) (hm : (m1 || p2) = true := by rfl) : FX C W true (p1 && p2) X (.Subscript a b pos) (f2 dIx fa fb) := fx2 (r := rIx X.K) ha hb (fun ta tb h1 h2 => pe_ix ix_seq h1 h2 hs) op2_ix hm
/-! ### slices -/
def cutD (xs : List D) (lo hi : Option Int) : List D := (xs.drop (HT.sIx xs.length 0 lo)).take (HT.sIx xs.length xs.length hi - HT.sIx xs.length 0 lo)
def dSl (d : D) (lo hi : Option Int) : Option D := match d with
  | .lst xs => some (.lst (cutD xs lo hi))
  | .tup xs => some (.tup (cutD xs lo hi))
  | .str z => if z.length ≤ sizeLine then some (.str (cutS z lo hi)) else none
  | _ => none
theorem RepL.cut {M : Addr → Prop} {H : Hp} {vs : List V} {ds : List D} (r : RepL C M H vs ds) (lo hi : Option Int) : RepL C M H (cutV vs lo hi) (cutD ds lo hi) := by
  unfold cutV cutD
  rw [r.length]
  exact (r.drop _).take _
abbrev rSlAll (K : PySem.W.Frag) : V → Option Int → Option Int → Hp → VK → Prop := fun x lo hi H Q => (rSlL K x lo hi H Q ∨ rSlA K x lo hi H Q) ∨ rSlS x lo hi H Q
theorem sl_all : SlR X (rSlAll X.K) := (sl_list.or sl_tupA).or sl_str
theorem cut_whole {ds : List D} {lo hi : Option Int} (h : HT.sIx ds.length 0 lo = 0 ∧ HT.sIx ds.length ds.length hi = ds.length) : cutD ds lo hi = ds := by
  unfold cutD
  rw [h.1, h.2, List.drop_zero, Nat.sub_zero, List.take_length]
theorem rsl_of {M : Addr → Prop} {H : Hp} {x : V} {dx d : D} {lo hi : Option Int} {Q : VK} (hd : ∀ a, M a → ∃ o, H a = some o) (sx : SRep C M H x dx) (e : dSl dx lo hi = some d) (k : ∀ v H', Keep0 H H' → Rep C M H' v d → Q v H') : rSlAll X.K x lo hi H Q := by
  cases dx with
  | lst xs =>
    cases e
    obtain ⟨a, vs, rfl, ha, r⟩ := sx.lstH
    exact .inl (.inl ⟨a, vs, rfl, .inl (.inl ha), fun p hp => k _ _ (Keep.new hp) (rep_newL hd hp (r.cut lo hi))⟩)
  | tup xs =>
    cases e
    obtain ⟨a, vs, rfl, ha, na, r⟩ := sx.tupH
    refine .inl (.inr ⟨a, vs, rfl, .inl (.inl ha), fun z => ?_, fun _ p hp => k _ _ (Keep.new hp) (rep_newT hd hp (r.cut lo hi))⟩)
    rw [r.length] at z
    exact k _ H (Keep.refl _ _) (by rw [cut_whole z]; exact .tup ha na r)
  | str z =>
    simp only [dSl] at e
    split at e
    · rename_i hz
      cases e
      rw [sx.strH]
      exact .inr ⟨z, rfl, hz, k _ H (Keep.refl _ _) (.str _)⟩
    · cases e
  | _ => cases e
def dInt : D → Option Int | .int i => some i | _ => none
def fSl2 (fa fb fc : F D) : F D := F.bind fa fun x => F.bind (f1 dInt fb) fun i => F.bind (f1 dInt fc) fun j => liftO (dSl x (some i) (some j))
def fSlL (fa fb : F D) : F D := f2 (fun x y => (dInt y).bind fun i => dSl x (some i) none) fa fb
def fSlH (fa fb : F D) : F D := f2 (fun x y => (dInt y).bind fun i => dSl x none (some i)) fa fb
theorem fx_slL {p2' : Pos} (ha : FX C W m1 p1 X a fa) (hb : FX C W m2 p2 X b fb) (hm : (m1 || p2) = true := by rfl) : FX C W true (p1 && p2) X (.Subscript a (.Slice (some b) none none p2') pos) (fSlL fa fb) :=
  fx2 (r := fun x y H Q => ∃ i, y = .int i ∧ rSlAll X.K x (some i) none H Q) ha hb (fun ta tb h1 h2 => pe_slice sl_all h1 (po_some h2) po_none) (fun M H x y dx dy d Q hd sx sy e k => by
    cases dy with
    | int i => exact ⟨i, sy.intH, rsl_of hd sx e k⟩
    | _ => cases e) hm
theorem fx_slH {p2' : Pos} (ha : FX C W m1 p1 X a fa) (hb : FX C W m2 p2 X b fb) (hm : (m1 || p2) = true := by rfl) : FX C W true (p1 && p2) X (.Subscript a (.Slice none (some b) none p2') pos) (fSlH fa fb) :=
  fx2 (r := fun x y H Q => ∃ i, y = .int i ∧ rSlAll X.K x none (some i) H Q) ha hb (fun ta tb h1 h2 => pe_slice sl_all h1 po_none (po_some h2)) (fun M H x y dx dy d Q hd sx sy e k => by
    cases dy with
    | int i => exact ⟨i, sy.intH, rsl_of hd sx e k⟩
    | _ => cases e) hm
theorem fx_sl2 {p2' : Pos} (ha : FX C W m1 p1 X a fa) (hb : FX C W m2 p2 X b fb) (hc : FX C W m3 p3 X c fc) (hm : (m1 || (p2 && p3)) = true := by rfl) : FX C W true (p1 && (p2 && p3)) X (.Subscript a (.Slice (some b) (some c) none p2') pos) (fSl2 fa fb fc) := by
  refine PE.imp (pe_slice sl_all ha (po_some hb) (po_some hc)) fun σ H Q ⟨pens, M, γ, E, h⟩ => ⟨pens, M, γ, E, ?_⟩
  unfold fSl2 at h
  cases ea : fa γ with
  | st => rw [bind_st ea] at h; exact h
  | ex e γ' => rw [bind_ex ea] at h; exact h
  | ok d γ1 =>
    rw [bind_ok ea] at h
    intro v H1 S1 P1 r1
    refine ⟨pens, M, γ1, S1.env, ?_⟩
    have h2 := aft_go S1 P1 h
    unfold f1 at h2
    cases eb : fb γ1 with
    | st => rw [bind_st (bind_st eb)] at h2; exact h2
    | ex e γ' => rw [bind_ex (bind_ex eb)] at h2; exact h2
    | ok d2 γ2 =>
      intro v2 H2 S2 P2 r2
      cases d2 with
      | int i =>
        rw [bind_ok (f := F.bind fb fun x => liftO (dInt x)) (a := i) (γ' := γ2) (by rw [bind_ok eb] <;> rfl)] at h2
        refine ⟨i, r2.s.intH, pens, M, γ2, S2.env, ?_⟩
        have h3 := aft_go S2 P2 h2
        cases ec : fc γ2 with
        | st => rw [bind_st (bind_st ec)] at h3; exact h3
        | ex e γ' => rw [bind_ex (bind_ex ec)] at h3; exact h3
        | ok d3 γ3 =>
          intro v3 H3 S3 P3 r3
          cases d3 with
          | int j =>
            rw [bind_ok (f := F.bind fc fun x => liftO (dInt x)) (a := j) (γ' := γ3) (by rw [bind_ok ec] <;> rfl)] at h3
            refine ⟨j, r3.s.intH, ?_⟩
            cases eg : dSl d (some i) (some j) with
            | none => rw [liftO_none eg] at h3; exact h3.elim
            | some d5 =>
              rw [liftO_some eg] at h3
              have rb : MRep m1 C M H3 v d := both S1.env (S2.trans S3) hm (fun z => purity P2 P3 z) r1
              exact rsl_of S3.env.dom rb.s eg (aft_fin S3 P3 h3)
          | _ => rw [bind_st (by rw [bind_ok ec] <;> rfl)] at h3; exact h3.elim
      | _ => rw [bind_st (by rw [bind_ok eb] <;> rfl)] at h2; exact h2.elim
/-! ### the script: looked at -/
def sList (i : Nat) : F (List D) := fun γ => match γ[i]? with
  | some (.view xs) => .ok xs γ
  | some (.val (.lst xs)) => .ok xs γ
  | _ => .st
def fSeeIx (i : Nat) (fb : F D) : F D := F.bind (sList i) fun xs => F.bind fb fun y => liftO (dIx (.lst xs) y)
def fSeeLen (i : Nat) : F D := F.bind (sList i) fun xs γ => .ok (.int xs.length) γ
def fSeeSl (i : Nat) (lo hi : Int) : F D := F.bind (sList i) fun xs γ => .ok (.lst (cutD xs (some lo) (some hi))) γ
theorem view_of {pens : Nat → Addr} {M : Addr → Prop} {γ γ' : Gm} {σ : L2.St} {H : Hp} {i : Nat} {xs : List D} (E : EnvRep C pens M γ σ H) (h : sList i γ = .ok xs γ') : γ' = γ ∧ ∃ a vs, σ[i]? = some (some (.ref a)) ∧ SqL C.K H a vs ∧ RepL C M H vs xs := by
  unfold sList at h
  cases q : γ[i]? with
  | none => rw [q] at h; cases h
  | some sv =>
    rw [q] at h
    cases sv with
    | view ys =>
      cases h
      obtain ⟨x, h1, a, vs, h2, s, r⟩ := E.slot q
      subst h2
      exact ⟨rfl, a, vs, h1, s.sql, r⟩
    | val d =>
      cases d with
      | lst ys =>
        cases h
        obtain ⟨x, h1, v, h2, r⟩ := E.slot q
        subst h2
        cases r with
        | lst e n r => exact ⟨rfl, _, _, h1, .inl (.inl e), r⟩
      | _ => cases h
    | none => cases h
    | own _ _ => cases h
theorem seen_st {pens : Nat → Addr} {M : Addr → Prop} {γ : Gm} {i : Nat} : sList i γ = .st ∨ ∃ xs, sList i γ = .ok xs γ := by
  unfold sList
  cases q : γ[i]? with
  | none => exact .inl rfl
  | some sv => cases sv with
    | val d => cases d <;> first | exact .inl rfl | exact .inr ⟨_, rfl⟩
    | _ => first | exact .inl rfl | exact .inr ⟨_, rfl⟩
theorem fx_seeIx {i : Nat} (h : PE X a (tVar i)) (hb : FX C W m2 true X b fb) (hs : PlainIx b := by intro _ _; rfl) (hK : C.K = X.K := by rfl) : FX C W true true X (.Subscript a b pos) (fSeeIx i fb) := by
  refine PE.imp (pe_ix ix_list h hb hs) fun σ H Q ⟨pens, M, γ, E, h⟩ => ?_
  unfold fSeeIx at h
  rcases seen_st (pens := pens) (M := M) (γ := γ) (i := i) with q | ⟨xs, q⟩
  · rw [bind_st q] at h; exact h.elim
  · rw [bind_ok q] at h
    obtain ⟨_, a, vs, e1, s, r⟩ := view_of E q
    refine ⟨.ref a, e1, pens, M, γ, E, ?_⟩
    cases eb : fb γ with
    | st => rw [bind_st eb] at h; exact h
    | ex e γ' => rw [bind_ex eb] at h; exact h
    | ok d2 γ2 =>
      rw [bind_ok eb] at h
      intro v2 H2 S2 P2 r2
      obtain ⟨e2, k2⟩ := P2 rfl
      cases eg : dIx (.lst xs) d2 with
      | none => rw [liftO_none eg] at h; exact h.elim
      | some d3 =>
        rw [liftO_some eg] at h
        cases d2 with
        | int j =>
          obtain ⟨v, h1, h2⟩ := RepL.at r eg
          exact ⟨a, vs, j, v, rfl, r2.s.intH, by rw [← hK]; exact SqL.keep0 k2 s, h1, h v H2 S2 (fun _ => ⟨e2, k2⟩) (h2.fine (Fine.keep0 k2))⟩
        | _ => cases eg
theorem fx_seeSl {i : Nat} {lo hi : Int} {j1 j2 : Nat} {q1 q2 p2' : Pos} (h : PE X a (tVar i)) (hK : C.K = X.K := by rfl) : FX C W true true X (.Subscript a (.Slice (some (.Constant (.int lo) j1 q1)) (some (.Constant (.int hi) j2 q2)) none p2') pos) (fSeeSl i lo hi) := by
  refine PE.imp (pe_slice sl_list h (po_some pe_int) (po_some pe_int)) fun σ H Q ⟨pens, M, γ, E, h⟩ => ?_
  unfold fSeeSl at h
  rcases seen_st (pens := pens) (M := M) (γ := γ) (i := i) with q | ⟨xs, q⟩
  · rw [bind_st q] at h; exact h.elim
  · rw [bind_ok q] at h
    obtain ⟨_, a, vs, e1, s, r⟩ := view_of E q
    refine ⟨.ref a, e1, lo, rfl, hi, rfl, a, vs, rfl, by rw [← hK]; exact s, fun pp hp => h _ _ (Stp.pure E (Keep.new hp)) (fun _ => ⟨rfl, Keep.new hp⟩) (rep_newL E.dom hp (r.cut _ _))⟩
end
/-! ### built-ins by their names -/
section
variable {C : Ct} {W : WX} {X : Cx} {m p m1 p1 m2 p2 m3 p3 : Bool} {a b c e' : Expr} {fa fb fc : F D} {pos pn : Pos} {x : Str} {id T : String} {r : List V → Hp → VK → Prop} {g : D → Option D} {g2 : D → D → Option D}
theorem fx_b1 (hc : CallR X (.builtin id) r) (hr : Op1 C (fun x H Q => r [x] H Q) g) (ha : FX C W m p X a fa) (hv : bootBuiltins x = some (.builtin id)) (hm : X.mg x = none) (hg : Gl X x) (hn : x ≠ "__name__" := by decide) (hdb : (x == ("__debug__" : Str)) = false := by decide)
    (he : starEach [a] X.env = (false, eval a X.env) :: starEach [] X.env := by rfl) (hpl : (backTo pos (starEach [] X.env)).any (·.1) = false := by rfl) : FX C W true p X (.Call (.Name x pn) [a] [] pos) (f1 g fa) :=
  fx1 ha (fun ta h => pe_callB hc hg hm hv (pa_cons h pa_nil he) hn hdb he hpl) hr
theorem fx_b2 (hc : CallR X (.builtin id) r) (hr : Op2 C (fun x y H Q => r [x, y] H Q) g2) (ha : FX C W m1 p1 X a fa) (hb : FX C W m2 p2 X b fb) (hv : bootBuiltins x = some (.builtin id)) (hm0 : X.mg x = none) (hg : Gl X x) (hm : (m1 || p2) = true := by rfl) (hn : x ≠ "__name__" := by decide) (hdb : (x == ("__debug__" : Str)) = false := by decide)
    (he : starEach [a, b] X.env = (false, eval a X.env) :: starEach [b] X.env := by rfl) (he2 : starEach [b] X.env = (false, eval b X.env) :: starEach [] X.env := by rfl) (hpl : (backTo pos (starEach [b] X.env)).any (·.1) = false := by rfl) : FX C W true (p1 && p2) X (.Call (.Name x pn) [a, b] [] pos) (f2 g2 fa fb) :=
  fx2 (r := fun x y H Q => r [x, y] H Q) ha hb (fun ta tb h1 h2 => pe_callB hc hg hm0 hv (pa_cons h1 (pa_cons h2 pa_nil he2) he) hn hdb he hpl) hr hm
theorem fx_t1 (hc : CallR X (.type T) r) (hr : Op1 C (fun x H Q => r [x] H Q) g) (ha : FX C W m p X a fa) (hv : bootBuiltins x = some (.type T)) (hm : X.mg x = none) (hg : Gl X x) (hn : x ≠ "__name__" := by decide) (hdb : (x == ("__debug__" : Str)) = false := by decide)
    (he : starEach [a] X.env = (false, eval a X.env) :: starEach [] X.env := by rfl) (hpl : (backTo pos (starEach [] X.env)).any (·.1) = false := by rfl) : FX C W true p X (.Call (.Name x pn) [a] [] pos) (f1 g fa) :=
  fx1 ha (fun ta h => pe_callTy hc hg hm hv (pa_cons h pa_nil he) hn hdb he hpl) hr
theorem fn_t1 {gn : D → Option (List D)} (hc : CallR X (.type T) r) (hr : Op1N C (fun x H Q => r [x] H Q) gn) (ha : FX C W m p X a fa) (hv : bootBuiltins x = some (.type T)) (hm : X.mg x = none) (hg : Gl X x) (hn : x ≠ "__name__" := by decide) (hdb : (x == ("__debug__" : Str)) = false := by decide)
    (he : starEach [a] X.env = (false, eval a X.env) :: starEach [] X.env := by rfl) (hpl : (backTo pos (starEach [] X.env)).any (·.1) = false := by rfl) : FN C W p X (.Call (.Name x pn) [a] [] pos) (n1 gn fa) :=
  fn1 ha (fun ta h => pe_callTy hc hg hm hv (pa_cons h pa_nil he) hn hdb he hpl) hr
/-- len -/
def dLen : D → Option D
  | .lst xs => some (.int xs.length)
  | .tup xs => some (.int xs.length)
  | .str z => if z.length ≤ sizeLine then some (.int z.length) else none
  | _ => none
theorem op1_len : Op1 C (fun x H Q => ∃ y n, [x] = [y] ∧ LenV X.K y H n ∧ Q (.int n) H) dLen := fun M H x dx d Q hd sx e k => by
  cases dx with
  | lst xs =>
    cases e
    obtain ⟨a, vs, rfl, ha, r⟩ := sx.lstH
    exact ⟨_, xs.length, rfl, .inl ⟨vs, .inl (.inl ha), r.length.symm⟩, k _ H (Keep.refl _ _) (.int _)⟩
  | tup xs =>
    cases e
    obtain ⟨a, vs, rfl, ha, na, r⟩ := sx.tupH
    exact ⟨_, xs.length, rfl, .inr ⟨vs, .inl (.inl ha), r.length.symm⟩, k _ H (Keep.refl _ _) (.int _)⟩
  | str z =>
    simp only [dLen] at e
    split at e
    · rename_i hz; cases e; rw [sx.strH]; exact ⟨_, z.length, rfl, ⟨hz, rfl⟩, k _ H (Keep.refl _ _) (.int _)⟩
    · cases e
  | _ => cases e
theorem fx_len (ha : FX C W m p X a fa) (hm : X.mg "len" = none) (hg : Gl X "len") (he : starEach [a] X.env = (false, eval a X.env) :: starEach [] X.env := by rfl) (hpl : (backTo pos (starEach [] X.env)).any (·.1) = false := by rfl) : FX C W true p X (.Call (.Name "len" pn) [a] [] pos) (f1 dLen fa) :=
  fx_b1 call_len op1_len ha boot_len hm hg (he := he) (hpl := hpl)
theorem fx_seeLen {i : Nat} (h : PE X a (tVar i)) (hm : X.mg "len" = none) (hg : Gl X "len") (hK : C.K = X.K := by rfl) (he : starEach [a] X.env = (false, eval a X.env) :: starEach [] X.env := by rfl) (hpl : (backTo pos (starEach [] X.env)).any (·.1) = false := by rfl) : FX C W true true X (.Call (.Name "len" pn) [a] [] pos) (fSeeLen i) := by
  refine PE.imp (pe_callB call_len_seq hg hm boot_len (pa_cons h pa_nil he) (by decide) (by decide) he hpl) fun σ H Q ⟨pens, M, γ, E, h⟩ => ?_
  unfold fSeeLen at h
  rcases seen_st (pens := pens) (M := M) (γ := γ) (i := i) with q | ⟨xs, q⟩
  · rw [bind_st q] at h; exact h.elim
  · rw [bind_ok q] at h
    obtain ⟨_, a, vs, e1, s, r⟩ := view_of E q
    refine ⟨.ref a, e1, a, vs, rfl, .inl (by rw [← hK]; exact s), h _ H (Stp.pure E (Keep.refl _ _)) (fun _ => ⟨rfl, Keep.refl _ _⟩) (by rw [r.length]; exact .int _)⟩
/-- ints within -/
def dInts : List D → Option (List Int)
  | [] => some []
  | .int i :: xs => (dInts xs).map (i :: ·)
  | _ :: _ => none
theorem dInts_eq : ∀ {xs : List D} {ns : List Int}, dInts xs = some ns → xs = ns.map D.int
  | [], _, e => by cases e; rfl
  | .int i :: xs, ns, e => by
    simp only [dInts] at e
    cases q : dInts xs with
    | none => rw [q] at e; cases e
    | some r => rw [q] at e; cases e; rw [dInts_eq q]; rfl
  | .non :: _, _, e => by cases e
  | .bl _ :: _, _, e => by cases e
  | .str _ :: _, _, e => by cases e
  | .lst _ :: _, _, e => by cases e
  | .tup _ :: _, _, e => by cases e
  | .dct _ :: _, _, e => by cases e
  | .ins _ _ :: _, _, e => by cases e
  | .raw _ :: _, _, e => by cases e
  | .cls _ :: _, _, e => by cases e
  | .ft _ :: _, _, e => by cases e
theorem RepL.ints {M : Addr → Prop} {H : Hp} : ∀ {ns : List Int} {vs : List V}, RepL C M H vs (ns.map D.int) → vs = ns.map V.int
  | [], _, .nil => rfl
  | _ :: _, _, .cons r t => by rw [RepL.ints t]; cases r; rfl
theorem repL_ints {M : Addr → Prop} {H : Hp} : ∀ ns : List Int, RepL C M H (ns.map V.int) (ns.map D.int)
  | [] => .nil
  | _ :: ns => .cons (.int _) (repL_ints ns)
def dBls : List D → Option (List Bool)
  | [] => some []
  | .bl i :: xs => (dBls xs).map (i :: ·)
  | _ :: _ => none
theorem dBls_eq : ∀ {xs : List D} {ns : List Bool}, dBls xs = some ns → xs = ns.map D.bl
  | [], _, e => by cases e; rfl
  | .bl i :: xs, ns, e => by
    simp only [dBls] at e
    cases q : dBls xs with
    | none => rw [q] at e; cases e
    | some r => rw [q] at e; cases e; rw [dBls_eq q]; rfl
  | .non :: _, _, e => by cases e
  | .int _ :: _, _, e => by cases e
  | .str _ :: _, _, e => by cases e
  | .lst _ :: _, _, e => by cases e
  | .tup _ :: _, _, e => by cases e
  | .dct _ :: _, _, e => by cases e
  | .ins _ _ :: _, _, e => by cases e
  | .raw _ :: _, _, e => by cases e
  | .cls _ :: _, _, e => by cases e
  | .ft _ :: _, _, e => by cases e
theorem RepL.bls {M : Addr → Prop} {H : Hp} : ∀ {ns : List Bool} {vs : List V}, RepL C M H vs (ns.map D.bl) → vs = ns.map V.bl
  | [], _, .nil => rfl
  | _ :: _, _, .cons r t => by rw [RepL.bls t]; cases r; rfl
def dStrs : List D → Option (List Str)
  | [] => some []
  | .str i :: xs => (dStrs xs).map (i :: ·)
  | _ :: _ => none
theorem dStrs_eq : ∀ {xs : List D} {ns : List Str}, dStrs xs = some ns → xs = ns.map D.str
  | [], _, e => by cases e; rfl
  | .str i :: xs, ns, e => by
    simp only [dStrs] at e
    cases q : dStrs xs with
    | none => rw [q] at e; cases e
    | some r => rw [q] at e; cases e; rw [dStrs_eq q]; rfl
  | .non :: _, _, e => by cases e
  | .int _ :: _, _, e => by cases e
  | .bl _ :: _, _, e => by cases e
  | .lst _ :: _, _, e => by cases e
  | .tup _ :: _, _, e => by cases e
  | .dct _ :: _, _, e => by cases e
  | .ins _ _ :: _, _, e => by cases e
  | .raw _ :: _, _, e => by cases e
  | .cls _ :: _, _, e => by cases e
  | .ft _ :: _, _, e => by cases e
theorem RepL.strs {M : Addr → Prop} {H : Hp} : ∀ {ns : List Str} {vs : List V}, RepL C M H vs (ns.map D.str) → vs = ns.map V.str
  | [], _, .nil => rfl
  | _ :: _, _, .cons r t => by rw [RepL.strs t]; cases r; rfl
theorem repL_strs {M : Addr → Prop} {H : Hp} : ∀ ns : List Str, RepL C M H (ns.map V.str) (ns.map D.str)
  | [] => .nil
  | _ :: ns => .cons (.str _) (repL_strs ns)
/-- sum of a tuple of ints -/
theorem sum_rawT {prog : Program} {w : World} {A : Around} {E : Value → Shared → Prop} {s : Shared} {l : Addr} {its : List Value} {ns : List Int} {Q : Value → Shared → Prop} (hh : A.handled = none) (hl : s.heap.IsTuple l its.toArray) (hi : IntsAre its ns)
    (h : ∀ h' tk t', (∀ b o, s.heap.get? b = some o → h'.get? b = some o) → Q (.int ns.sum t') { s with heap := h', toks := tk }) : wpAny (model prog w) A (call (.builtin "sum") [.ref l]) Q E s := by
  obtain ⟨xs, e⟩ := hi.allInts.items
  have hn : numsOf (intItems xs).toList = ns := by rw [← e]; exact hi.numsOf
  rw [nums_intItems] at hn
  rw [e] at hl
  have hlt : l < s.heap.objs.size := by obtain ⟨_, q, _⟩ := hl; exact Heap.lt_size q
  refine call_sum_walkG (wpAny_pyIter_tuple hl ?_)
  refine ⟨_, _, _, _, _, _, numAt xs, rfl, Walks.tuple (A := A.in1) hh s.heap.objs.size l (Nat.ne_of_lt hlt) (intItems xs), ⟨⟨_, Heap.get?_push_size _ rfl, rfl, rfl⟩, hl.push _⟩, fun b hb => ?_, fun _ _ => intItems_at, fun h' tk t' hk => ?_⟩
  · rw [Heap.size_push]
    rcases List.mem_cons.mp hb with q | q
    · rw [q]; exact Nat.lt_succ_self _
    · rcases List.mem_cons.mp q with q | q
      · rw [q]; exact Nat.lt_succ_of_lt hlt
      · cases q
  · have := h h' tk t' fun b o eb => hk b o (fun hb => by
      rcases List.mem_cons.mp hb with q | q
      · rw [q] at eb; exact absurd (Heap.lt_size eb) (Nat.lt_irrefl _)
      · cases q) (Heap.get?_push_of_some _ eb)
    rw [show (intItems xs).size = xs.size by simp [intItems], preSum_eq, List.take_of_length_le (by simp), hn]
    exact this
def rSumT (K : PySem.W.Frag) : List V → Hp → VK → Prop := fun vs H Q => ∃ (a : Addr) (ns : List Int), vs = [V.ref a] ∧ SqT K H a (ns.map V.int) ∧ Q (.int ns.sum) H
theorem cr_sumT (hc : X.calm = true) : CallR X (.builtin "sum") (rSumT X.K) := by
  intro pins s σ H vs us Q I r h
  obtain ⟨a, ns, rfl, hs, q⟩ := h
  obtain ⟨its, rv, hl, _⟩ := I.tuple hs
  rw [Vals.ref1 r]
  exact sum_rawT (I.ok.hd hc) hl rv.ints fun h' tk t' hk => ⟨.int _, H, I.kept hk, ⟨_, rfl⟩, q⟩
def dSum : D → Option D
  | .lst xs => (dInts xs).map fun ns => .int ns.sum
  | .tup xs => (dInts xs).map fun ns => .int ns.sum
  | _ => none
theorem op1_sum : Op1 C (fun x H Q => rSum X.K [x] H Q ∨ rSumT X.K [x] H Q) dSum := fun M H x dx d Q hd sx e k => by
  cases dx with
  | lst xs =>
    simp only [dSum] at e
    cases q : dInts xs with
    | none => rw [q] at e; cases e
    | some ns =>
      rw [q] at e
      cases e
      have eq := dInts_eq q
      subst eq
      obtain ⟨a, vs, rfl, ha, r⟩ := sx.lstH
      rw [r.ints] at ha
      exact .inl ⟨a, ns, rfl, .inl (.inl ha), k _ H (Keep.refl _ _) (.int _)⟩
  | tup xs =>
    simp only [dSum] at e
    cases q : dInts xs with
    | none => rw [q] at e; cases e
    | some ns =>
      rw [q] at e
      cases e
      have eq := dInts_eq q
      subst eq
      obtain ⟨a, vs, rfl, ha, na, r⟩ := sx.tupH
      rw [r.ints] at ha
      exact .inr ⟨a, ns, rfl, .inl (.inl ha), k _ H (Keep.refl _ _) (.int _)⟩
  | _ => cases e
theorem fx_sum (hcm : X.calm = true) (ha : FX C W m p X a fa) (hm : X.mg "sum" = none) (hg : Gl X "sum") (he : starEach [a] X.env = (false, eval a X.env) :: starEach [] X.env := by rfl) (hpl : (backTo pos (starEach [] X.env)).any (·.1) = false := by rfl) : FX C W true p X (.Call (.Name "sum" pn) [a] [] pos) (f1 dSum fa) :=
  fx_b1 ((cr_sum hcm).or (cr_sumT hcm)) op1_sum ha boot_sum hm hg (he := he) (hpl := hpl)
/-- all, any -/
def dAll : D → Option D | .lst xs => (dBls xs).map fun bs => .bl (bs.all _root_.id) | _ => none
theorem op1_all : Op1 C (fun x H Q => rAll X.K [x] H Q) dAll := fun M H x dx d Q hd sx e k => by
  cases dx with
  | lst xs =>
    simp only [dAll] at e
    cases q : dBls xs with
    | none => rw [q] at e; cases e
    | some ns =>
      rw [q] at e
      cases e
      have eq := dBls_eq q
      subst eq
      obtain ⟨a, vs, rfl, ha, r⟩ := sx.lstH
      rw [r.bls] at ha
      exact ⟨a, ns, rfl, .inl (.inl ha), k _ H (Keep.refl _ _) (.bl _)⟩
  | _ => cases e
theorem fx_all (hcm : X.calm = true) (ha : FX C W m p X a fa) (hm : X.mg "all" = none) (hg : Gl X "all") (he : starEach [a] X.env = (false, eval a X.env) :: starEach [] X.env := by rfl) (hpl : (backTo pos (starEach [] X.env)).any (·.1) = false := by rfl) : FX C W true p X (.Call (.Name "all" pn) [a] [] pos) (f1 dAll fa) :=
  fx_b1 (cr_all hcm) op1_all ha boot_all hm hg (he := he) (hpl := hpl)
/-- min, max of two ints, of a list of ints -/
def dMax2 : D → D → Option D | .int i, .int j => some (.int (if j > i then j else i)) | _, _ => none
def dMin2 : D → D → Option D | .int i, .int j => some (.int (if j < i then j else i)) | _, _ => none
theorem op2_max2 : Op2 C (fun x y H Q => ∃ i j, [x, y] = [V.int i, V.int j] ∧ Q (.int (if j > i then j else i)) H) dMax2 := fun M H x y dx dy d Q hd sx sy e k => by
  cases dx with
  | int i => cases dy with
    | int j => cases e; rw [sx.intH, sy.intH]; exact ⟨i, j, rfl, k _ H (Keep.refl _ _) (.int _)⟩
    | _ => cases e
  | _ => cases dy <;> cases e
theorem fx_max2 (hcm : X.calm = true) (ha : FX C W m1 p1 X a fa) (hb : FX C W m2 p2 X b fb) (hm0 : X.mg "max" = none) (hg : Gl X "max") (hm : (m1 || p2) = true := by rfl)
    (he : starEach [a, b] X.env = (false, eval a X.env) :: starEach [b] X.env := by rfl) (he2 : starEach [b] X.env = (false, eval b X.env) :: starEach [] X.env := by rfl) (hpl : (backTo pos (starEach [b] X.env)).any (·.1) = false := by rfl) : FX C W true (p1 && p2) X (.Call (.Name "max" pn) [a, b] [] pos) (f2 dMax2 fa fb) :=
  fx_b2 (call_max2 hcm) op2_max2 ha hb boot_max hm0 hg hm (he := he) (he2 := he2) (hpl := hpl)
def minI : List Int → Int
  | [] => 0
  | x :: xs => xs.foldl min x
/-- str(n), tuple(xs), list(xs), int(text) -/
def dStr : D → Option D | .int i => if i.natAbs.log2 < 1920 then some (.str (toString i)) else none | _ => none
theorem fx_strI (ha : FX C W m p X a fa) (hm : X.mg "str" = none) (hg : Gl X "str") (he : starEach [a] X.env = (false, eval a X.env) :: starEach [] X.env := by rfl) (hpl : (backTo pos (starEach [] X.env)).any (·.1) = false := by rfl) : FX C W true p X (.Call (.Name "str" pn) [a] [] pos) (f1 dStr fa) :=
  fx_t1 call_str_int (fun M H x dx d Q hd sx e k => by
    cases dx with
    | int i =>
      simp only [dStr] at e
      split at e
      · rename_i hz; cases e; rw [sx.intH]; exact ⟨i, rfl, hz, k _ H (Keep.refl _ _) (.str _)⟩
      · cases e
    | _ => cases e) ha PyProof.Rows.boot_str hm hg (he := he) (hpl := hpl)
def dTuple : D → Option D | .lst xs => some (.tup xs) | .tup xs => some (.tup xs) | _ => none
theorem fx_tuple (ha : FX C W m p X a fa) (hm : X.mg "tuple" = none) (hg : Gl X "tuple") (he : starEach [a] X.env = (false, eval a X.env) :: starEach [] X.env := by rfl) (hpl : (backTo pos (starEach [] X.env)).any (·.1) = false := by rfl) : FX C W true p X (.Call (.Name "tuple" pn) [a] [] pos) (f1 dTuple fa) :=
  fx_t1 call_tuple_of (fun M H x dx d Q hd sx e k => by
    cases dx with
    | lst xs =>
      cases e
      obtain ⟨a, vs, rfl, ha, r⟩ := sx.lstH
      exact ⟨a, vs, rfl, .inl ⟨.inl (.inl ha), fun q hq => k _ _ (Keep.new hq) (rep_newT hd hq r)⟩⟩
    | tup xs =>
      cases e
      obtain ⟨a, vs, rfl, ha, na, r⟩ := sx.tupH
      exact ⟨a, vs, rfl, .inr ⟨.inl (.inl ha), k _ _ (Keep.refl _ _) (.tup ha na r)⟩⟩
    | _ => cases e) ha PyProof.Rows.boot_tuple hm hg (he := he) (hpl := hpl)
def dList : D → Option (List D) | .lst xs => some xs | .tup xs => some xs | _ => none
theorem fn_list (ha : FX C W m p X a fa) (hm : X.mg "list" = none) (hg : Gl X "list") (he : starEach [a] X.env = (false, eval a X.env) :: starEach [] X.env := by rfl) (hpl : (backTo pos (starEach [] X.env)).any (·.1) = false := by rfl) : FN C W p X (.Call (.Name "list" pn) [a] [] pos) (n1 dList fa) :=
  fn_t1 call_list_of (fun M H x dx xs Q sx e k => by
    cases dx with
    | lst xs =>
      cases e
      obtain ⟨a, vs, rfl, ha, r⟩ := sx.lstH
      exact ⟨a, vs, rfl, .inl (.inl (.inl ha)), fun q hq => k q vs hq r⟩
    | tup xs =>
      cases e
      obtain ⟨a, vs, rfl, ha, na, r⟩ := sx.tupH
      exact ⟨a, vs, rfl, .inr (.inl (.inl ha)), fun q hq => k q vs hq r⟩
    | _ => cases e) ha PyProof.Rows.boot_list hm hg (he := he) (hpl := hpl)
end
end FC
namespace FC
open PySem PySem.Spec PyProof.Rows L2
/-! ### statements -/
inductive RV where
  | val (d : D) | own (o : MO)
inductive Fl where
  | nx | ret (r : RV) | brk | ct
structure StpS (M : Addr → Prop) (σ : L2.St) (γ : Gm) (H : Hp) (M' : Addr → Prop) (σ' : L2.St) (γ' : Gm) (H' : Hp) : Prop where
  keep : Keep (Own γ σ) H H'
  own : ∀ a, Own γ' σ' a → Own γ σ a ∨ H a = none
  up : ∀ a, M a → ¬ Own γ σ a → M' a
  dn : ∀ a, M' a → M a ∨ H a = none
def RVok (C : Ct) (M' : Addr → Prop) (σ : L2.St) (γ : Gm) (H : Hp) (σ' : L2.St) (γ' : Gm) (H' : Hp) (v : V) : RV → Prop
  | .val d => Rep C M' H' v d
  | .own o => ∃ a, v = .ref a ∧ M' a ∧ ORep C M' H' a o ∧ ¬ Own γ' σ' a ∧ (H a = none ∨ Own γ σ a)
def aftS (C : Ct) (W : WX) (pens : Nat → Addr) (M : Addr → Prop) (σ : L2.St) (γ : Gm) (H : Hp) (r : R Fl) (D : Ends) : Prop := match r with
  | .ok .nx γ' => ∀ M' σ' H', EnvRep C pens M' γ' σ' H' → StpS M σ γ H M' σ' γ' H' → D.nx σ' H'
  | .ok .brk γ' => ∀ M' σ' H', EnvRep C pens M' γ' σ' H' → StpS M σ γ H M' σ' γ' H' → D.bk σ' H'
  | .ok .ct γ' => ∀ M' σ' H', EnvRep C pens M' γ' σ' H' → StpS M σ γ H M' σ' γ' H' → D.ct σ' H'
  | .ok (.ret r) γ' => ∀ v M' σ' H', EnvRep C pens M' γ' σ' H' → StpS M σ γ H M' σ' γ' H' → RVok C M' σ γ H σ' γ' H' v r → D.rt v H'
  | .ex e γ' => ∀ cls d M' σ' H', EnvRep C pens M' γ' σ' H' → StpS M σ γ H M' σ' γ' H' → ExRep C M' e cls d H' → W cls d σ' H'
  | .st => False
def tFS (C : Ct) (W : WX) (f : F Fl) : TS := fun D σ H => ∃ pens M γ, EnvRep C pens M γ σ H ∧ aftS C W pens M σ γ H (f γ) D
def FS (C : Ct) (W : WX) (X : Cx) (st : Stmt) (f : F Fl) : Prop := PS X st (tFS C W f)
def FSs (C : Ct) (W : WX) (X : Cx) (st : List Stmt) (f : F Fl) : Prop := PSs X st (tFS C W f)
theorem PS.imp {X : Cx} {st : Stmt} {t t' : TS} (h : PS X st t) (k : ∀ D σ H, t' D σ H → t D σ H) : PS X st t' := ⟨fun pins s σ H D I q => h.run pins s σ H D I (k D σ H q)⟩
theorem PSs.imp {X : Cx} {st : List Stmt} {t t' : TS} (h : PSs X st t) (k : ∀ D σ H, t' D σ H → t D σ H) : PSs X st t' := ⟨fun pins s σ H D I q => h.run pins s σ H D I (k D σ H q)⟩
def sNil : F Fl := fun γ => .ok .nx γ
def sSeq (s t : F Fl) : F Fl := F.bind s fun f => match f with
  | .nx => t
  | f => fun γ => .ok f γ
def sExpr (f : F D) : F Fl := F.bind f fun _ γ => .ok .nx γ
def sRet (f : F D) : F Fl := F.bind f fun d γ => .ok (.ret (.val d)) γ
def sRetN : F Fl := fun γ => .ok (.ret (.val .non)) γ
def sRetNew (f : F MO) : F Fl := F.bind f fun o γ => .ok (.ret (.own o)) γ
def sRetVar (i : Nat) : F Fl := fun γ => match γ[i]? with
  | some (.val d) => .ok (.ret (.val d)) γ
  | some (.own none o) => .ok (.ret (.own o)) (γ.set i .none)
  | _ => .st
def sSet (i : Nat) (f : F D) : F Fl := F.bind f fun d γ => .ok .nx (γ.set i (.val d))
def sSetNew (i : Nat) (f : F MO) : F Fl := F.bind f fun o γ => .ok .nx (γ.set i (.own none o))
def sIf (c : F Bool) (s t : F Fl) : F Fl := F.bind c fun b => if b = true then s else t
def frz (i : Nat) (γ : Gm) : Gm := match γ[i]? with
  | some (.own none o) => γ.set i (.val o.d)
  | _ => γ
def sFrz (i : Nat) (s : F Fl) : F Fl := fun γ => s (frz i γ)
section
variable {C : Ct} {W : WX} {pens : Nat → Addr} {M M1 M2 M' : Addr → Prop} {σ σ1 σ2 : L2.St} {γ γ1 γ2 : Gm} {H H1 H2 : Hp}
theorem StpS.trans (E : EnvRep C pens M γ σ H) (a : StpS M σ γ H M1 σ1 γ1 H1) (b : StpS M1 σ1 γ1 H1 M2 σ2 γ2 H2) : StpS M σ γ H M2 σ2 γ2 H2 where
  keep := fun c o e n => by
    have no1 : ¬ Own γ1 σ1 c := fun z => (a.own c z).elim n fun q => by rw [q] at e; cases e
    cases t : isTbl o with
    | false =>
      have e1 := (a.keep c o e n).1 t
      exact ⟨fun _ => (b.keep c o e1 no1).1 t, fun z => by cases z⟩
    | true =>
      obtain ⟨o1, e1, t1, _⟩ := (a.keep c o e n).2 t
      exact ⟨fun z => (by cases z), fun _ => (b.keep c o1 e1 no1).2 t1⟩
  own := fun c z => by
    rcases b.own c z with q | q
    · exact a.own c q
    · by_cases n : Own γ σ c
      · exact .inl n
      · exact .inr (a.keep.free q n)
  up := fun c m n => b.up c (a.up c m n) fun z => (a.own c z).elim n fun q => by
    obtain ⟨o, e⟩ := E.dom c m
    rw [q] at e
    cases e
  dn := fun c z => by
    rcases b.dn c z with q | q
    · exact a.dn c q
    · by_cases n : Own γ σ c
      · exact .inl (E.ownM n).1
      · exact .inr (a.keep.free q n)
theorem StpS.refl : StpS M σ γ H M σ γ H := ⟨Keep.refl _ _, fun _ z => .inl z, fun _ z _ => z, fun _ z => .inl z⟩
theorem Stp.s (S : Stp C pens M σ γ H γ1 H1) : StpS M σ γ H M σ γ1 H1 := ⟨S.keep, fun _ z => .inl (S.pat.symm.Own z), fun _ z _ => z, fun _ z => .inl z⟩
theorem StpS.fine (E : EnvRep C pens M γ σ H) (S : StpS M σ γ H M1 σ1 γ1 H1) : Fine M M1 H H1 := ⟨fun a o e n t => (S.keep a o e fun z => n (E.ownM z).1).1 t, fun a o e z => (S.dn a z).elim id fun q => by rw [q] at e; cases e⟩
theorem RVok.back (E : EnvRep C pens M γ σ H) (S : StpS M σ γ H M1 σ1 γ1 H1) {v : V} : ∀ {r : RV}, RVok C M2 σ1 γ1 H1 σ2 γ2 H2 v r → RVok C M2 σ γ H σ2 γ2 H2 v r
  | .val _, h => h
  | .own _, ⟨a, e, m, r, n, k⟩ => ⟨a, e, m, r, n, by
    rcases k with q | q
    · by_cases o : Own γ σ a
      · exact .inr o
      · exact .inl (S.keep.free q o)
    · exact (S.own a q).elim .inr .inl⟩
theorem aftS_go {r : R Fl} {D : Ends} (E : EnvRep C pens M γ σ H) (S : StpS M σ γ H M1 σ1 γ1 H1) (h : aftS C W pens M σ γ H r D) : aftS C W pens M1 σ1 γ1 H1 r D := by
  cases r with
  | st => exact h
  | ex e g => exact fun cls d M' σ' H' E' S' re => h cls d M' σ' H' E' (S.trans E S') re
  | ok f g => cases f with
    | nx => exact fun M' σ' H' E' S' => h M' σ' H' E' (S.trans E S')
    | brk => exact fun M' σ' H' E' S' => h M' σ' H' E' (S.trans E S')
    | ct => exact fun M' σ' H' E' S' => h M' σ' H' E' (S.trans E S')
    | ret rv => exact fun v M' σ' H' E' S' k => h v M' σ' H' E' (S.trans E S') (k.back E S)
/-! ### the slots stored -/
theorem Own.set (i : Nat) (x : Option V) (sv : SV) (hsv : ∀ t o, sv ≠ .own t o) {a : Addr} (o : Own (γ.set i sv) (σ.set i x) a) : Own γ σ a := by
  obtain ⟨j, t, u, h1, h2⟩ := o
  by_cases hj : i = j
  · subst hj
    have hl : i < γ.length := by
      have := (List.getElem?_eq_some_iff.mp h1).1
      simpa using this
    rw [List.getElem?_set_self hl] at h1
    exact absurd (Option.some.inj h1) (hsv t u)
  · rw [List.getElem?_set_ne hj] at h1 h2
    exact ⟨j, t, u, h1, h2⟩
theorem Own.setN (i : Nat) (b : Addr) (t0 : Option Nat) (o0 : MO) {a : Addr} (o : Own (γ.set i (.own t0 o0)) (σ.set i (some (.ref b))) a) : Own γ σ a ∨ a = b := by
  obtain ⟨j, t, u, h1, h2⟩ := o
  by_cases hj : i = j
  · subst hj
    have hl : i < σ.length := by
      have := (List.getElem?_eq_some_iff.mp h2).1
      simpa using this
    rw [List.getElem?_set_self hl] at h2
    cases h2
    exact .inr rfl
  · rw [List.getElem?_set_ne hj] at h1 h2
    exact .inl ⟨j, t, u, h1, h2⟩
/-- a slot that is not an own one stored -/
theorem EnvRep.set {i : Nat} {x : Option V} {sv : SV} (E : EnvRep C pens M γ σ H) (hs : SlotOk C pens M H x sv) (hsv : ∀ t o, sv ≠ .own t o) : EnvRep C pens M (γ.set i sv) (σ.set i x) H where
  len := by rw [List.length_set, List.length_set, E.len]
  ok := fun j sv' x' h1 h2 => by
    by_cases hj : i = j
    · subst hj
      have hl : i < γ.length := by
        have := (List.getElem?_eq_some_iff.mp h1).1
        simpa using this
      rw [List.getElem?_set_self hl] at h1
      rw [List.getElem?_set_self (by rw [E.len]; exact hl)] at h2
      cases h1
      cases h2
      exact hs
    · rw [List.getElem?_set_ne hj] at h1 h2
      exact E.ok j sv' x' h1 h2
  inj := fun j k t o t' o' a h1 h2 h3 h4 => by
    have f : ∀ {l : Nat} {t : Option Nat} {o : MO}, (γ.set i sv)[l]? = some (.own t o) → i ≠ l := fun {l t o} h e => by
      subst e
      have hl : i < γ.length := by
        have := (List.getElem?_eq_some_iff.mp h).1
        simpa using this
      rw [List.getElem?_set_self hl] at h
      exact hsv t o (Option.some.inj h)
    have hj := f h1
    have hk := f h2
    rw [List.getElem?_set_ne hj] at h1 h3
    rw [List.getElem?_set_ne hk] at h2 h4
    exact E.inj j k t o t' o' a h1 h2 h3 h4
  dom := E.dom
  tab := E.tab
theorem EnvRep.setN {i : Nat} {b : Addr} {o0 : MO} (E : EnvRep C pens M γ σ H) (hb : M b) (hr : ORep C M H b o0) (nb : ¬ Own γ σ b) : EnvRep C pens M (γ.set i (.own none o0)) (σ.set i (some (.ref b))) H where
  len := by rw [List.length_set, List.length_set, E.len]
  ok := fun j sv' x' h1 h2 => by
    by_cases hj : i = j
    · subst hj
      have hl : i < γ.length := by
        have := (List.getElem?_eq_some_iff.mp h1).1
        simpa using this
      rw [List.getElem?_set_self hl] at h1
      rw [List.getElem?_set_self (by rw [E.len]; exact hl)] at h2
      cases h1
      cases h2
      exact ⟨b, rfl, hb, hr, fun k z => by cases z⟩
    · rw [List.getElem?_set_ne hj] at h1 h2
      exact E.ok j sv' x' h1 h2
  inj := fun j k t o t' o' a h1 h2 h3 h4 => by
    by_cases hj : i = j
    · subst hj
      have hl : i < σ.length := by
        have := (List.getElem?_eq_some_iff.mp h3).1
        simpa using this
      rw [List.getElem?_set_self hl] at h3
      cases h3
      by_cases hk : i = k
      · exact hk
      · rw [List.getElem?_set_ne hk] at h2 h4
        exact absurd ⟨k, t', o', h2, h4⟩ nb
    · rw [List.getElem?_set_ne hj] at h1 h3
      by_cases hk : i = k
      · subst hk
        have hl : i < σ.length := by
          have := (List.getElem?_eq_some_iff.mp h4).1
          simpa using this
        rw [List.getElem?_set_self hl] at h4
        cases h4
        exact absurd ⟨j, t, o, h1, h3⟩ nb
      · rw [List.getElem?_set_ne hk] at h2 h4
        exact E.inj j k t o t' o' a h1 h2 h3 h4
  dom := E.dom
  tab := E.tab
/-- a slot forgotten (its thing handed out) -/
theorem EnvRep.drop {i : Nat} (E : EnvRep C pens M γ σ H) : EnvRep C pens M (γ.set i .none) σ H where
  len := by rw [List.length_set, E.len]
  ok := fun j sv' x' h1 h2 => by
    by_cases hj : i = j
    · subst hj
      have hl : i < γ.length := by
        have := (List.getElem?_eq_some_iff.mp h1).1
        simpa using this
      rw [List.getElem?_set_self hl] at h1
      cases h1
      trivial
    · rw [List.getElem?_set_ne hj] at h1
      exact E.ok j sv' x' h1 h2
  inj := fun j k t o t' o' a h1 h2 h3 h4 => by
    have f : ∀ {l : Nat} {t : Option Nat} {o : MO}, (γ.set i .none)[l]? = some (.own t o) → i ≠ l := fun {l t o} h e => by
      subst e
      have hl : i < γ.length := by
        have := (List.getElem?_eq_some_iff.mp h).1
        simpa using this
      rw [List.getElem?_set_self hl] at h
      cases h
    have hj := f h1
    have hk := f h2
    rw [List.getElem?_set_ne hj] at h1
    rw [List.getElem?_set_ne hk] at h2
    exact E.inj j k t o t' o' a h1 h2 h3 h4
  dom := E.dom
  tab := E.tab
theorem Own.drop {i : Nat} {a : Addr} (o : Own (γ.set i .none) σ a) : Own γ σ a := by
  obtain ⟨j, t, u, h1, h2⟩ := o
  by_cases hj : i = j
  · subst hj
    have hl : i < γ.length := by
      have := (List.getElem?_eq_some_iff.mp h1).1
      simpa using this
    rw [List.getElem?_set_self hl] at h1
    cases h1
  · rw [List.getElem?_set_ne hj] at h1
    exact ⟨j, t, u, h1, h2⟩
end
section
variable {C : Ct} {W : WX} {X : Cx} {m p m1 p1 m2 p2 m3 p3 : Bool} {a b c e' e : Expr} {fa fb fc : F D} {fn : F MO} {gc : F Bool} {s t : F Fl} {pos : Pos} {st : Stmt} {rest : List Stmt} {i : Nat}
theorem fss_nil : FSs C W X [] sNil := PSs.imp pss_nil fun D σ H ⟨pens, M, γ, E, h⟩ => h M σ H E StpS.refl
theorem fss_cons (h1 : FS C W X st s) (h2 : FSs C W X rest t) : FSs C W X (st :: rest) (sSeq s t) := PSs.imp (pss_cons h1 h2) fun D σ H ⟨pens, M, γ, E, h⟩ => by
  refine ⟨pens, M, γ, E, ?_⟩
  unfold sSeq at h
  cases ea : s γ with
  | st => rw [bind_st ea] at h; exact h
  | ex x g => rw [bind_ex ea] at h; exact h
  | ok f g =>
    rw [bind_ok ea] at h
    cases f with
    | nx => exact fun M' σ' H' E' S' => ⟨pens, M', g, E', aftS_go E S' h⟩
    | brk => exact h
    | ct => exact h
    | ret r => exact h
theorem fss_one (h1 : FS C W X st s) : FSs C W X [st] s := PSs.imp (pss_one h1) fun D σ H h => h
theorem fss_freeze (h : FSs C W X rest s) : FSs C W X rest (sFrz i s) := PSs.imp h fun D σ H ⟨pens, M, γ, E, h⟩ => by
  unfold sFrz frz at h
  cases q : γ[i]? with
  | none => rw [q] at h; exact ⟨pens, M, γ, E, h⟩
  | some sv =>
    rw [q] at h
    cases sv with
    | own tg o =>
      cases tg with
      | some k => exact ⟨pens, M, γ, E, h⟩
      | none =>
        simp only at h
        obtain ⟨x, h1, a, h2, ma, ra, _⟩ := E.slot q
        subst h2
        have hil : i < γ.length := (List.getElem?_eq_some_iff.mp q).1
        -- the others do not know a
        have E2 : EnvRep C pens (fun b => M b ∧ b ≠ a) (γ.set i (.val o.d)) σ H := by
          have E1 : EnvRep C pens (fun b => M b ∧ b ≠ a) (γ.set i .none) σ H := E.drop.weak (fun _ z => z.1) fun b ob => ⟨(E.ownM (Own.drop ob)).1, fun e => by
            subst e
            obtain ⟨j, t', o', k1, k2⟩ := ob
            by_cases hj : i = j
            · subst hj
              rw [List.getElem?_set_self hil] at k1
              cases k1
            · rw [List.getElem?_set_ne hj] at k1
              exact hj (E.inj i j _ _ _ _ b q k1 h1 k2)⟩
          have sv : SlotOk C pens (fun b => M b ∧ b ≠ a) H (some (.ref a)) (.val o.d) := by
            refine ⟨.ref a, rfl, ?_⟩
            have fw : Fine M (fun b => M b ∧ b ≠ a) H H := Fine.weak fun _ _ _ z => z.1
            cases o with
            | lst xs => obtain ⟨vs, e1, e2⟩ := ra; exact .lst e1 (fun z => z.2 rfl) (e2.fine fw)
            | ins c fs => obtain ⟨dx, vs, e1, e2⟩ := ra; exact .ins e1 (fun z => z.2 rfl) (e2.fine fw)
          have E3 := E1.set (i := i) sv (fun _ _ z => by cases z)
          rw [List.set_set] at E3
          have es : σ.set i (some (.ref a)) = σ := by
            apply List.ext_getElem?
            intro j
            by_cases hj : i = j
            · subst hj
              rw [List.getElem?_set_self (by rw [E.len]; exact hil), h1]
            · rw [List.getElem?_set_ne hj]
          rw [es] at E3
          exact E3
        refine ⟨pens, _, _, E2, aftS_go E (M1 := fun b => M b ∧ b ≠ a) ⟨Keep.refl _ _, fun b ob => .inl ?_, fun b mb nb => ⟨mb, fun e => nb (by rw [e]; exact ⟨i, none, o, q, h1⟩)⟩, fun b z => .inl z.1⟩ h⟩
        obtain ⟨j, t', o', k1, k2⟩ := ob
        by_cases hj : i = j
        · subst hj
          rw [List.getElem?_set_self hil] at k1
          cases k1
        · rw [List.getElem?_set_ne hj] at k1
          exact ⟨j, t', o', k1, k2⟩
    | none => exact ⟨pens, M, γ, E, h⟩
    | val _ => exact ⟨pens, M, γ, E, h⟩
    | view _ => exact ⟨pens, M, γ, E, h⟩
theorem fs_expr (h : FX C W m p X e fa) (hs : swapsWith e none pos.line X.env = pure false := by rfl) : FS C W X (.Expr e pos) (sExpr fa) := PS.imp (ps_expr h hs) fun D σ H ⟨pens, M, γ, E, h⟩ => by
  refine ⟨pens, M, γ, E, ?_⟩
  unfold sExpr at h
  cases ea : fa γ with
  | st => rw [bind_st ea] at h; exact h
  | ex x g => rw [bind_ex ea] at h; exact fun cls d H' S re => h cls d M σ H' S.env S.s re
  | ok d g => rw [bind_ok ea] at h; exact fun v H' S P r => h M σ H' S.env S.s
theorem fs_ret (h : FX C W true p X e fa) : FS C W X (.Return (some e) pos) (sRet fa) := PS.imp (ps_ret h) fun D σ H ⟨pens, M, γ, E, h⟩ => by
  refine ⟨pens, M, γ, E, ?_⟩
  unfold sRet at h
  cases ea : fa γ with
  | st => rw [bind_st ea] at h; exact h
  | ex x g => rw [bind_ex ea] at h; exact fun cls d H' S re => h cls d M σ H' S.env S.s re
  | ok d g => rw [bind_ok ea] at h; exact fun v H' S P r => h v M σ H' S.env S.s r
def sBrk : F Fl := fun γ => .ok .brk γ
def sCt : F Fl := fun γ => .ok .ct γ
/-- a new thing's address behind its making -/
theorem newS {pens : Nat → Addr} {M : Addr → Prop} {σ : L2.St} {γ γ' : Gm} {H H' : Hp} {q : Addr} (E : EnvRep C pens M γ σ H) (hq : H q = none) (k : Keep (Own γ σ) H H') (pt : Pat γ γ') : StpS M σ γ H (adj M q) σ γ' H' :=
  ⟨k, fun _ z => .inl (pt.symm.Own z), fun _ z _ => .inl z, fun b z => z.elim .inl fun e => .inr (by rw [e]; exact hq)⟩
theorem fs_retNew (h : FN C W p X e fn) : FS C W X (.Return (some e) pos) (sRetNew fn) := PS.imp (ps_ret h) fun D σ H ⟨pens, M, γ, E, h⟩ => by
  refine ⟨pens, M, γ, E, ?_⟩
  unfold sRetNew at h
  cases ea : fn γ with
  | st => rw [bind_st ea] at h; exact h
  | ex x g => rw [bind_ex ea] at h; exact fun cls d H' S re => h cls d M σ H' S.env S.s re
  | ok o g => rw [bind_ok ea] at h; exact fun q H' hq E' k pt P r => h (.ref q) (adj M q) σ H' E' (newS E hq k pt) ⟨q, rfl, .inr rfl, r, fun z => Own.tracked E hq (pt.symm.Own z), .inl hq⟩
theorem fs_retVar (h : PE X e (tVar i)) : FS C W X (.Return (some e) pos) (sRetVar i) := PS.imp (ps_ret h) fun D σ H ⟨pens, M, γ, E, h⟩ => by
  unfold sRetVar at h
  cases q : γ[i]? with
  | none => rw [q] at h; exact h.elim
  | some sv =>
    rw [q] at h
    obtain ⟨x, h1, h2⟩ := E.slot q
    cases sv with
    | val d =>
      obtain ⟨v, rfl, r⟩ := h2
      exact ⟨v, h1, h v M σ H E StpS.refl r⟩
    | own tg o =>
      cases tg with
      | some k => exact h.elim
      | none =>
        obtain ⟨a, rfl, ma, ra, _⟩ := h2
        refine ⟨.ref a, h1, h (.ref a) M σ H E.drop ⟨Keep.refl _ _, fun b z => .inl (Own.drop z), fun _ z _ => z, fun _ z => .inl z⟩ ⟨a, rfl, ma, ra, fun z => ?_, .inr ⟨i, none, o, q, h1⟩⟩⟩
        obtain ⟨j, t', o', k1, k2⟩ := z
        have hil : i < γ.length := (List.getElem?_eq_some_iff.mp q).1
        by_cases hj : i = j
        · subst hj
          rw [List.getElem?_set_self hil] at k1
          cases k1
        · rw [List.getElem?_set_ne hj] at k1
          exact hj (E.inj i j _ _ _ _ a q k1 h1 k2)
    | none => exact h.elim
    | view _ => exact h.elim
theorem setS {pens : Nat → Addr} {M : Addr → Prop} {σ : L2.St} {γ : Gm} {H : Hp} {x : Option V} {sv : SV} (hsv : ∀ t o, sv ≠ .own t o) : StpS M σ γ H M (σ.set i x) (γ.set i sv) H :=
  ⟨Keep.refl _ _, fun _ z => .inl (Own.set i x sv hsv z), fun _ z _ => z, fun _ z => .inl z⟩
theorem fs_set {x : Str} {pos' : Pos} (hN : X.N.Nodup) (hi : X.N[i]? = some x) (hx : Loc X.env.scope x) (h : FX C W true p X e fa) (hs : swapsWith e (some (.Name x pos')) pos.line X.env = pure false := by rfl) (hf : X.fn x = true ∨ X.env.scope.names.lookup x = some .local := by first | exact .inl rfl | exact .inr rfl | assumption) :
    FS C W X (.Assign [.Name x pos'] e pos) (sSet i fa) := PS.imp (ps_set hN hi hx h hs hf) fun D σ H ⟨pens, M, γ, E, h⟩ => by
  refine ⟨pens, M, γ, E, ?_⟩
  unfold sSet at h
  cases ea : fa γ with
  | st => rw [bind_st ea] at h; exact h
  | ex x g => rw [bind_ex ea] at h; exact fun cls d H' S re => h cls d M σ H' S.env S.s re
  | ok d g =>
    rw [bind_ok ea] at h
    exact fun v H' S P r => h M _ H' (S.env.set ⟨v, rfl, r⟩ (fun _ _ z => by cases z)) (S.s.trans E (setS (pens := pens) (fun _ _ z => by cases z)))
theorem fs_setNew {x : Str} {pos' : Pos} (hN : X.N.Nodup) (hi : X.N[i]? = some x) (hx : Loc X.env.scope x) (h : FN C W p X e fn) (hs : swapsWith e (some (.Name x pos')) pos.line X.env = pure false := by rfl) (hf : X.fn x = true ∨ X.env.scope.names.lookup x = some .local := by first | exact .inl rfl | exact .inr rfl | assumption) :
    FS C W X (.Assign [.Name x pos'] e pos) (sSetNew i fn) := PS.imp (ps_set hN hi hx h hs hf) fun D σ H ⟨pens, M, γ, E, h⟩ => by
  refine ⟨pens, M, γ, E, ?_⟩
  unfold sSetNew at h
  cases ea : fn γ with
  | st => rw [bind_st ea] at h; exact h
  | ex x g => rw [bind_ex ea] at h; exact fun cls d H' S re => h cls d M σ H' S.env S.s re
  | ok o g =>
    rw [bind_ok ea] at h
    intro q H' hq E' k pt P r
    refine h (adj M q) _ H' (E'.setN (.inr rfl) r fun z => Own.tracked E hq (pt.symm.Own z)) ⟨k, fun b z => ?_, fun _ z _ => .inl z, fun b z => z.elim .inl fun e => .inr (by rw [e]; exact hq)⟩
    rcases Own.setN i q none o z with w | w
    · exact .inl (pt.symm.Own w)
    · exact .inr (by rw [w]; exact hq)
theorem fs_if {l1 l2 : List Stmt} (hc : FT C W p X c gc) (ha : FSs C W X l1 s) (hb : FSs C W X l2 t) : FS C W X (.If c l1 l2 pos) (sIf gc s t) := PS.imp (ps_if hc ha hb) fun D σ H ⟨pens, M, γ, E, h⟩ => by
  refine ⟨pens, M, γ, E, ?_⟩
  unfold sIf at h
  cases ea : gc γ with
  | st => rw [bind_st ea] at h; exact h
  | ex x g => rw [bind_ex ea] at h; exact fun cls d H' S re => h cls d M σ H' S.env S.s re
  | ok k g =>
    rw [bind_ok ea] at h
    intro H' S P
    cases k with
    | true => rw [if_pos rfl]; exact ⟨pens, M, g, S.env, aftS_go E S.s (by simpa using h)⟩
    | false => rw [if_neg Bool.false_ne_true]; exact ⟨pens, M, g, S.env, aftS_go E S.s (by simpa using h)⟩
end
end FC
namespace FC
open PySem PySem.Spec PyProof.Rows L2
/-! ### targets -/
abbrev GD := D → Gm → Option Gm
abbrev GDs := List D → Gm → Option Gm
def tG (C : Ct) (ws : List Nat) (g : GD) : TG := fun v σ H Q => ∃ pens M γ d γ', EnvRep C pens M γ σ H ∧ Rep C M H v d ∧ g d γ = some γ' ∧ ∀ σ', EnvRep C pens M γ' σ' H → StpS M σ γ H M σ' γ' H → σ'.length = σ.length → (∀ j, j ∉ ws → σ'[j]? = σ[j]? ∧ γ'[j]? = γ[j]?) → Q σ' H
def tGs (C : Ct) (ws : List Nat) (g : GDs) : TGs := fun vs σ H Q => ∃ pens M γ ds γ', EnvRep C pens M γ σ H ∧ RepL C M H vs ds ∧ g ds γ = some γ' ∧ ∀ σ', EnvRep C pens M γ' σ' H → StpS M σ γ H M σ' γ' H → σ'.length = σ.length → (∀ j, j ∉ ws → σ'[j]? = σ[j]? ∧ γ'[j]? = γ[j]?) → Q σ' H
def FG (C : Ct) (X : Cx) (tg : Expr) (ws : List Nat) (g : GD) : Prop := PG X tg (tG C ws g)
def FGs (C : Ct) (X : Cx) (tg : List Expr) (ws : List Nat) (g : GDs) : Prop := PGs X tg (tGs C ws g)
theorem PG.imp {X : Cx} {e : Expr} {t t' : TG} (h : PG X e t) (k : ∀ v σ H Q, t' v σ H Q → t v σ H Q) : PG X e t' := ⟨fun pins s σ H v u Q I r q => h.run pins s σ H v u Q I r (k v σ H Q q)⟩
theorem PGs.imp {X : Cx} {e : List Expr} {t t' : TGs} (h : PGs X e t) (k : ∀ v σ H Q, t' v σ H Q → t v σ H Q) : PGs X e t' := ⟨fun pins s σ H v u Q I r q => h.run pins s σ H v u Q I r (k v σ H Q q)⟩
def gNm (i : Nat) : GD := fun d γ => some (γ.set i (.val d))
def gsNil : GDs := fun ds γ => match ds with | [] => some γ | _ => none
def gsCons (g : GD) (gs : GDs) : GDs := fun ds γ => match ds with | d :: ds => (g d γ).bind (gs ds) | [] => none
def gTupD (n : Nat) (gs : GDs) : GD := fun d γ => match d with | .tup ds => if ds.length = n then gs ds γ else none | _ => none
section
variable {C : Ct} {W : WX} {X : Cx} {m p m1 p1 m2 p2 m3 p3 : Bool} {a b c e' e : Expr} {fa fb fc : F D} {fn : F MO} {gc : F Bool} {s t : F Fl} {pos : Pos} {st : Stmt} {rest : List Stmt} {i : Nat}
theorem set_out {σ : L2.St} {γ : Gm} {i : Nat} {x : Option V} {sv : SV} : ∀ j, j ∉ [i] → (σ.set i x)[j]? = σ[j]? ∧ (γ.set i sv)[j]? = γ[j]? := fun j hj => by
  have ne : i ≠ j := fun z => hj (by simp [z])
  exact ⟨List.getElem?_set_ne ne, List.getElem?_set_ne ne⟩
theorem fg_name {x : Str} (hN : X.N.Nodup) (hi : X.N[i]? = some x) (hx : Loc X.env.scope x) (hf : X.fn x = true ∨ X.env.scope.names.lookup x = some .local := by first | exact .inl rfl | exact .inr rfl | assumption) : FG C X (.Name x pos) [i] (gNm i) :=
  PG.imp (pg_name hN hi hx hf) fun v σ H Q ⟨pens, M, γ, d, γ', E, r, eg, k⟩ => by
    cases eg
    exact k _ (E.set ⟨v, rfl, r⟩ (fun _ _ z => by cases z)) (setS (pens := pens) (sv := .val d) (fun _ _ z => by cases z)) (List.length_set ..) set_out
theorem fgs_nil : FGs C X [] [] gsNil := PGs.imp pgs_nil fun vs σ H Q ⟨pens, M, γ, ds, γ', E, r, eg, k⟩ => by
  cases r with
  | nil => cases eg; exact ⟨rfl, k σ E StpS.refl rfl fun _ _ => ⟨rfl, rfl⟩⟩
  | cons _ _ => cases eg
theorem fgs_cons {es : List Expr} {ws vs : List Nat} {g : GD} {gs : GDs} (h1 : FG C X e ws g) (h2 : FGs C X es vs gs) (hs : (assignEach (e :: es) X.env).map (·.2) = assign e X.env :: (assignEach es X.env).map (·.2) := by rfl) : FGs C X (e :: es) (ws ++ vs) (gsCons g gs) :=
  PGs.imp (pgs_cons h1 h2 hs) fun us σ H Q ⟨pens, M, γ, ds, γ', E, r, eg, k⟩ => by
    cases r with
    | nil => cases eg
    | @cons v vr d dr r rr =>
      simp only [gsCons] at eg
      cases e1 : g d γ with
      | none => rw [e1] at eg; cases eg
      | some γ1 =>
        rw [e1] at eg
        refine ⟨v, vr, rfl, pens, M, γ, d, γ1, E, r, e1, fun σ1 E1 S1 l1 o1 => ⟨pens, M, γ1, dr, γ', E1, rr, eg, fun σ2 E2 S2 l2 o2 => k σ2 E2 (S1.trans E S2) (l2.trans l1) fun j hj => ?_⟩⟩
        have a1 := o1 j fun z => hj (List.mem_append_left _ z)
        have a2 := o2 j fun z => hj (List.mem_append_right _ z)
        exact ⟨a2.1.trans a1.1, a2.2.trans a1.2⟩
theorem fg_tup {es : List Expr} {kk : Nat} {ws : List Nat} {gs : GDs} {n : Nat} (hc : X.calm = true) (h : FGs C X es ws gs) (hn : (assignEach es X.env).length = n := by rfl) (hst : (assignEach es X.env).findIdx? (·.1) = none := by rfl) : FG C X (.Tuple es kk pos) ws (gTupD n gs) :=
  PG.imp (pg_tup hc h hn hst) fun v σ H Q ⟨pens, M, γ, d, γ', E, r, eg, k⟩ => by
    cases d with
    | tup ds =>
      simp only [gTupD] at eg
      split at eg
      · rename_i hl
        obtain ⟨a, vs, e1, e2, _, e3⟩ := (SRep.rep r).tupH
        exact ⟨a, vs, e1, .inl (.inl e2), by rw [e3.length, hl], pens, M, γ, ds, γ', E, e3, eg, k⟩
      · cases eg
    | _ => cases eg
/-! ### what is walked -/
def ItOk (C : Ct) (J : It) (xs : List D) (M : Addr → Prop) (H : Hp) : Prop := ∀ M' H', Fine M M' H H' → (∀ a, M' a → ∃ o, H' a = some o) → (∀ i d, xs[i]? = some d → J.go i H' ∧ ∀ x H'', J.yld i H' x H'' → Keep0 H' H'' ∧ Rep C M' H'' x d) ∧ ∀ i, xs.length ≤ i → J.stop i H'
def aftI (C : Ct) (W : WX) (pens : Nat → Addr) (M : Addr → Prop) (σ : L2.St) (γ : Gm) (H : Hp) (p : Bool) (r : R (List D)) (Q : It → Hp → Prop) : Prop := match r with
  | .ok xs γ' => ∀ J H', Stp C pens M σ γ H γ' H' → (p = true → γ' = γ ∧ Keep0 H H') → ItOk C J xs M H' → Q J H'
  | .ex e γ' => ∀ cls d H', Stp C pens M σ γ H γ' H' → ExRep C M e cls d H' → W cls d σ H'
  | .st => False
def tFI (C : Ct) (W : WX) (p : Bool) (f : F (List D)) : TI := fun σ H Q => ∃ pens M γ, EnvRep C pens M γ σ H ∧ aftI C W pens M σ γ H p (f γ) Q
def FI (C : Ct) (W : WX) (p : Bool) (X : Cx) (tg e : Expr) (f : F (List D)) : Prop := PI X tg e (tFI C W p f)
theorem PI.imp {X : Cx} {tg e : Expr} {t t' : TI} (h : PI X tg e t) (k : ∀ σ H Q, t' σ H Q → t σ H Q) : PI X tg e t' := ⟨fun pins s σ H Q I q => h.run pins s σ H Q I (k σ H Q q)⟩
theorem itl_ok {K : PySem.W.Frag} {M : Addr → Prop} {H : Hp} {a : Addr} {vs : List V} {ds : List D} (ha : H a = some (.lst vs)) (na : ¬ M a) (r : RepL C M H vs ds) : ItOk C (Itl K a) ds M H := fun M' H' fn hd => by
  have h' : SqL K H' a vs := .inl (.inl (fn.at_ _ _ ha na rfl))
  refine ⟨fun i d e => ?_, fun i hi => ⟨vs, h', by rw [r.length]; exact hi⟩⟩
  obtain ⟨v, e1, e2⟩ := (r.fine fn).get e
  refine ⟨⟨vs, v, h', e1⟩, fun x H'' y => ?_⟩
  obtain ⟨y1, y2⟩ := y
  subst y1
  have z := y2 vs h'
  rw [e1] at z
  cases z
  exact ⟨Keep.refl _ _, e2⟩
theorem itt_ok {K : PySem.W.Frag} {M : Addr → Prop} {H : Hp} {a : Addr} {vs : List V} {ds : List D} (ha : H a = some (.tup vs)) (na : ¬ M a) (r : RepL C M H vs ds) : ItOk C (Itt K a) ds M H := fun M' H' fn hd => by
  have h' : SqT K H' a vs := .inl (.inl (fn.at_ _ _ ha na rfl))
  refine ⟨fun i d e => ?_, fun i hi => ⟨vs, h', by rw [r.length]; exact hi⟩⟩
  obtain ⟨v, e1, e2⟩ := (r.fine fn).get e
  refine ⟨⟨vs, v, h', e1⟩, fun x H'' y => ?_⟩
  obtain ⟨y1, y2⟩ := y
  subst y1
  have z := y2 vs h'
  rw [e1] at z
  cases z
  exact ⟨Keep.refl _ _, e2⟩
/-- a list, or a tuple -/
def iSeq (K : PySem.W.Frag) (tl : TE) : TI := fun σ H R => tl σ H fun x H1 => ∃ a, x = .ref a ∧ (((∃ xs, SqL K H1 a xs) ∧ R (Itl K a) H1) ∨ ((∃ xs, SqT K H1 a xs) ∧ R (Itt K a) H1))
theorem pi_seq {tg l : Expr} {tl : TE} (hl : PE X l tl) : PI X tg l (iSeq X.K tl) := by
  refine ⟨fun pins s σ H R I h => ?_⟩
  refine thn (hl.run pins s σ H _ I h) fun v s1 ⟨x, H1, I1, r1, q1⟩ => ?_
  obtain ⟨a, e, ⟨⟨xs, hq⟩, q⟩ | ⟨⟨xs, hq⟩, q⟩⟩ := q1
  · subst e
    cases r1
    obtain ⟨its, rv, p, hz⟩ := I1.list hq
    refine wpAny_pyIter_list p.isList ?_
    refine ⟨s1.heap.objs.size, [s1.heap.objs.size], _, _, H1, rfl, I1.kept (t' := s1.toks) fun b o e => Heap.get?_push_of_some _ e, turn_list a _, ⟨_, Heap.get?_push_size _ rfl, rfl, rfl⟩, fun b hb => ?_, q⟩
    have e : b = s1.heap.objs.size := by simpa using hb
    subst e
    exact I1.fpOk (Nat.le_refl _) (I1.hok.fresh (Nat.le_refl _))
  · subst e
    cases r1
    obtain ⟨its, rv, p, hz⟩ := I1.tuple hq
    refine wpAny_pyIter_tuple (show s1.heap.IsTuple a its.toArray from p) ?_
    refine ⟨s1.heap.objs.size, [s1.heap.objs.size], _, _, H1, rfl, I1.kept (t' := s1.toks) fun b o e => Heap.get?_push_of_some _ e, turn_tuple a _, ⟨_, Heap.get?_push_size _ rfl, rfl, rfl⟩, fun b hb => ?_, q⟩
    have e : b = s1.heap.objs.size := by simpa using hb
    subst e
    exact I1.fpOk (Nat.le_refl _) (I1.hok.fresh (Nat.le_refl _))
def iSeqF (fa : F D) : F (List D) := f1 dItems fa
theorem fi_seq {tg : Expr} (ha : FX C W true p X a fa) : FI C W p X tg a (iSeqF fa) := PI.imp (pi_seq ha) fun σ H Q ⟨pens, M, γ, E, h⟩ => by
  refine ⟨pens, M, γ, E, ?_⟩
  unfold iSeqF f1 at h
  cases ea : fa γ with
  | st => rw [bind_st ea] at h; exact h
  | ex x g => rw [bind_ex ea] at h; exact h
  | ok d g =>
    rw [bind_ok ea] at h
    intro v H1 S1 P1 r1
    have r1 : Rep C M H1 v d := r1
    cases d with
    | lst ds =>
      cases r1 with
      | @lst a vs _ e1 n1 r1 => exact ⟨a, rfl, .inl ⟨⟨vs, .inl (.inl e1)⟩, h _ _ S1 P1 (itl_ok e1 n1 r1)⟩⟩
    | tup ds =>
      cases r1 with
      | @tup a vs _ e1 n1 r1 => exact ⟨a, rfl, .inr ⟨⟨vs, .inl (.inl e1)⟩, h _ _ S1 P1 (itt_ok e1 n1 r1)⟩⟩
    | _ => exact h.elim
/-- arguments, then the thing that is walked -/
def iArgs (g : List D → Option (List D)) (fr : F (List AV)) : F (List D) := F.bind fr fun as => F.bind (liftO (allD as)) fun ds => liftO (g ds)
theorem fi_args {tg iter : Expr} {es : List Expr} {fr : F (List AV)} {g : List D → Option (List D)} {r : List V → Hp → (It → Hp → Prop) → Prop} (mk : ∀ ta, PA X es ta → PI X tg iter (fun σ H R => ta σ H fun vs H1 => r vs H1 R)) (hr : FA C W p X es fr)
    (hg : ∀ M H vs ds xs Q, RepL C M H vs ds → g ds = some xs → (∀ J, ItOk C J xs M H → Q J H) → r vs H Q) : FI C W p X tg iter (iArgs g fr) := PI.imp (mk _ hr) fun σ H Q ⟨pens, M, γ, E, h⟩ => by
  refine ⟨pens, M, γ, E, ?_⟩
  unfold iArgs at h
  cases ea : fr γ with
  | st => rw [bind_st ea] at h; exact h
  | ex x g => rw [bind_ex ea] at h; exact aftA_ex E h
  | ok as g1 =>
    rw [bind_ok ea] at h
    cases eb : allD as with
    | none => rw [bind_st (liftO_none eb _)] at h; exact h.elim
    | some ds =>
      rw [bind_ok (liftO_some eb _)] at h
      refine aftA_all E eb fun vs H' S P r => ?_
      cases ec : g ds with
      | none => rw [liftO_none ec] at h; exact h.elim
      | some xs =>
        rw [liftO_some ec] at h
        exact hg M H' vs ds xs Q r ec fun J ok => h J H' S P ok
def rngL (lo c : Int) (n : Nat) : List D := (List.range n).map fun k => D.int (lo + (k : Nat) * c)
theorem rngL_get {lo c : Int} {n i : Nat} {d : D} (e : (rngL lo c n)[i]? = some d) : i < n ∧ d = .int (lo + (i : Nat) * c) := by
  unfold rngL at e
  rw [List.getElem?_map] at e
  by_cases h : i < n
  · rw [List.getElem?_range h] at e
    exact ⟨h, (Option.some.inj e).symm⟩
  · rw [List.getElem?_eq_none (by simpa using h)] at e
    cases e
theorem itr_ok {M : Addr → Prop} {H : Hp} {lo : Int} {n : Nat} : ItOk C (Itr lo n) (rngL lo 1 n) M H := fun M' H' fn hd => by
  refine ⟨fun i d e => ?_, fun i hi => show n ≤ i by simpa [rngL] using hi⟩
  obtain ⟨h1, h2⟩ := rngL_get e
  refine ⟨h1, fun x H'' y => ?_⟩
  obtain ⟨y1, y2⟩ := y
  subst y1 y2 h2
  rw [Int.mul_one]
  exact ⟨Keep.refl _ _, .int _⟩
def dRng1 : List D → Option (List D) | [.int j] => if -(2 ^ 62) ≤ j ∧ j < 2 ^ 62 then some (rngL 0 1 j.toNat) else none | _ => none
theorem fi_rng1 {tg : Expr} {fr : F (List AV)} {pn : Pos} (hg : Gl X "range") (hm : X.mg "range" = none) (ha : FA C W p X [a] fr) (hs : starEach [a] X.env = [(false, eval a X.env)] := by rfl) : FI C W p X tg (.Call (.Name "range" pn) [a] [] pos) (iArgs dRng1 fr) :=
  fi_args (fun ta h => pi_range1 hg hm h hs) ha fun M H vs ds xs Q r e k => by
    match ds, r, e with
    | [.int j], .cons r .nil, e =>
      simp only [dRng1] at e
      split at e
      · rename_i hz
        cases e
        cases r
        exact ⟨j, rfl, hz.1, hz.2, k _ itr_ok⟩
      · cases e
def dSigns (d : D) : Option (List D) := match d with | .str x => some (x.cps.toList.map fun c => D.str ⟨#[c]⟩) | _ => none
def iStrF (fa : F D) : F (List D) := f1 dSigns fa
theorem fi_str {tg : Expr} (ha : FX C W m p X a fa) : FI C W p X tg a (iStrF fa) := PI.imp (pi_str ha) fun σ H Q ⟨pens, M, γ, E, h⟩ => by
  refine ⟨pens, M, γ, E, ?_⟩
  unfold iStrF f1 at h
  cases ea : fa γ with
  | st => rw [bind_st ea] at h; exact h
  | ex x g => rw [bind_ex ea] at h; exact h
  | ok d g =>
    rw [bind_ok ea] at h
    intro v H1 S1 P1 r1
    cases d with
    | str x =>
      refine ⟨x, r1.s.strH, h _ _ S1 P1 fun M' H' fn hd => ⟨fun i d e => ?_, fun i hi => by simpa [Its] using hi⟩⟩
      rw [List.getElem?_map] at e
      cases ey : x.cps.toList[i]? with
      | none => rw [ey] at e; cases e
      | some c =>
        rw [ey] at e
        cases e
        have ey' : x.cps[i]? = some c := by simpa using ey
        refine ⟨(Array.getElem?_eq_some_iff.mp ey').1, fun v H'' yl => ?_⟩
        obtain ⟨q1, c', q2, q3⟩ := yl
        subst q1 q3
        rw [ey'] at q2
        cases q2
        exact ⟨Keep.refl _ _, .str _⟩
    | _ => exact h.elim
/-! ### for -/
def forL (g : GD) (b : F Fl) : List D → F Fl
  | [] => sNil
  | d :: ds => fun γ => match g d γ with
    | none => .st
    | some γ1 => match b γ1 with
      | .ok .nx γ2 => forL g b ds γ2
      | .ok .ct γ2 => forL g b ds γ2
      | .ok .brk γ2 => .ok .nx γ2
      | .ok (.ret r) γ2 => .ok (.ret r) γ2
      | .ex e γ2 => .ex e γ2
      | .st => .st
def sFor (fi : F (List D)) (g : GD) (b : F Fl) : F Fl := F.bind fi fun xs => forL g b xs
theorem fs_for {tg iter : Expr} {fi : F (List D)} {ws : List Nat} {g : GD} {body : List Stmt} (hp : PassesOwn (model X.prog X.w) X.A X.env X.xe) (hc : X.calm = true) (hi : FI C W p X tg iter fi) (hg : FG C X tg ws g) (hb : FSs C W X body s)
    (hs : ∀ x, foldedSetIterable iter X.env x = pure x := by intro _; rfl) : FS C W X (.For tg iter body [] pos) (sFor fi g s) := PS.imp (ps_for hp hc hi hg hb hs) fun D σ H ⟨pens, M, γ, E, h⟩ => by
  refine ⟨pens, M, γ, E, ?_⟩
  unfold sFor at h
  cases ea : fi γ with
  | st => rw [bind_st ea] at h; exact h
  | ex x g => rw [bind_ex ea] at h; exact fun cls d H' S re => h cls d M σ H' S.env S.s re
  | ok xs γ1 =>
    rw [bind_ok ea] at h
    intro J H1 S1 P1 IO
    have h1 : aftS C W pens M σ γ1 H1 (forL g s xs γ1) D := aftS_go E S1.s h
    have E1 := S1.env
    clear h ea P1
    refine ⟨fun i mm σ' H' => mm = xs.length - i ∧ i ≤ xs.length ∧ ∃ M' γ', EnvRep C pens M' γ' σ' H' ∧ StpS M σ γ1 H1 M' σ' γ' H' ∧ aftS C W pens M' σ' γ' H' (forL g s (xs.drop i) γ') D, ⟨xs.length, by simp, Nat.zero_le _, M, γ1, E1, StpS.refl, by simpa using h1⟩, ?_⟩
    rintro i mm σ' H' ⟨rfl, hi, M', γ', E', S', h'⟩
    have io := IO M' H' (S'.fine E1) E'.dom
    by_cases hlt : i < xs.length
    · have ed : xs[i]? = some xs[i] := List.getElem?_eq_getElem hlt
      rw [List.drop_eq_getElem_cons hlt] at h'
      obtain ⟨go, yl⟩ := io.1 i _ ed
      refine .inr ⟨go, fun σ2 H2 => ∃ M2 γ2, EnvRep C pens M2 γ2 σ2 H2 ∧ StpS M σ γ1 H1 M2 σ2 γ2 H2 ∧ aftS C W pens M2 σ2 γ2 H2 (forL g s (xs.drop (i + 1)) γ2) D, fun σ2 H2 q => ⟨xs.length - (i + 1), by omega, rfl, hlt, q⟩, fun x H2 y => ?_⟩
      obtain ⟨k2, r2⟩ := yl x H2 y
      have E2 := E'.keep k2
      have S2 : StpS M' σ' γ' H' M' σ' γ' H2 := ⟨k2.any, fun _ z => .inl z, fun _ z _ => z, fun _ z => .inl z⟩
      simp only [forL] at h'
      cases eg : g xs[i] γ' with
      | none => rw [eg] at h'; exact h'.elim
      | some γ2 =>
        rw [eg] at h'
        refine ⟨pens, M', γ', xs[i], γ2, E2, r2, eg, fun σ3 E3 S3 _ _ => ⟨pens, M', γ2, E3, ?_⟩⟩
        have S13 := (S2.trans E' S3)
        have T3 := S'.trans E1 S13
        simp only at h'
        cases eb : s γ2 with
        | st => rw [eb] at h'; exact h'
        | ex e γ3 => rw [eb] at h'; exact fun cls d M4 σ4 H4 E4 S4 re => h' cls d M4 σ4 H4 E4 (S13.trans E' S4) re
        | ok f γ3 =>
          rw [eb] at h'
          cases f with
          | nx => exact fun M4 σ4 H4 E4 S4 => ⟨M4, γ3, E4, T3.trans E1 S4, aftS_go E' (S13.trans E' S4) h'⟩
          | ct => exact fun M4 σ4 H4 E4 S4 => ⟨M4, γ3, E4, T3.trans E1 S4, aftS_go E' (S13.trans E' S4) h'⟩
          | brk => exact fun M4 σ4 H4 E4 S4 => h' M4 σ4 H4 E4 (S13.trans E' S4)
          | ret rv => exact fun v M4 σ4 H4 E4 S4 k => h' v M4 σ4 H4 E4 (S13.trans E' S4) (k.back E' S13)
    · have e : i = xs.length := by omega
      subst e
      rw [List.drop_eq_nil_of_le (Nat.le_refl _)] at h'
      exact .inl ⟨io.2 _ (Nat.le_refl _), h' M' σ' H' E' StpS.refl⟩
end
end FC
namespace FC
open PySem PySem.Spec PyProof.Rows L2
/-! ### an own thing written -/
section
variable {C : Ct} {pens : Nat → Addr} {M M' : Addr → Prop} {γ : Gm} {σ : L2.St} {H : Hp} {i : Nat} {t : Option Nat}
theorem Fine.poke {a : Addr} {o : HO} (m : M a) : Fine M M H (upd H a o) := ⟨fun b u e n _ => by
  rw [upd_ne (fun z => n (by rw [z]; exact m))]
  exact e, fun _ _ _ z => z⟩
theorem Keep.poke {N : Addr → Prop} {a : Addr} {o : HO} (n : N a) : Keep (.of N) H (upd H a o) := fun b u e nb => by
  have ne : b ≠ a := fun z => nb (by rw [z]; exact n)
  rw [upd_ne ne]
  exact ⟨fun _ => e, fun q => ⟨u, e, q, trivial⟩⟩
/-- a list, an instance -/
def isPl : HO → Bool
  | .lst _ => true
  | .ins _ _ _ => true
  | _ => false
theorem tabs_poke {T : List (Addr × Str)} {a : Addr} {u u' : HO} (t : LamX.Tabs T H) (e : H a = some u) (hp : isPl u = true) : LamX.Tabs T (upd H a u') := fun p hp' => by
  obtain ⟨ps, h1, h2, h3⟩ := t p hp'
  refine ⟨ps, ?_, h2, fun pos cv hc => ?_⟩
  · rw [upd_ne (fun z => by rw [z, e] at h1; cases h1; cases hp)]
    exact h1
  · obtain ⟨c, e1, e2⟩ := h3 pos cv hc
    refine ⟨c, e1, ?_⟩
    rw [upd_ne (fun z => by
      rw [z, e] at e2
      unfold LamX.CodeO at e2
      cases e2
      cases hp)]
    exact e2
theorem Seen.poke {a b : Addr} {vs : List V} {o o' : HO} (s : Seen C H b vs) (e : H a = some o) (hn : ∀ q u, o ≠ .frz q u) : Seen C (upd H a o') b vs := by
  rcases s with ⟨q, h⟩ | s
  · have ne : b ≠ a := fun z => by
      subst z
      rw [h] at e
      cases e
      exact hn _ _ rfl
    exact .inl ⟨q, by rw [upd_ne ne]; exact h⟩
  · exact .inr s
/-- a tracked thing that no slot names is written -/
theorem EnvRep.poke {a : Addr} {o o' : HO} (E : EnvRep C pens M γ σ H) (m : M a) (e : H a = some o) (hn : ∀ q u, o ≠ .frz q u) (no : ¬ Own γ σ a) (hpl : isPl o = true := by rfl) : EnvRep C pens M γ σ (upd H a o') where
  len := E.len
  ok := fun j sv x h1 h2 => (E.ok j sv x h1 h2).fine (Fine.poke m) (fun _ z => z) (fun _ _ s => s.poke e hn) fun t o b q1 q2 u hu _ => by
    have ne : b ≠ a := fun z => no ⟨j, t, o, by rw [h1, q1], by rw [h2, q2, z]⟩
    rw [upd_ne ne]
    exact hu
  inj := E.inj
  dom := fun b mb => by
    by_cases z : b = a
    · rw [z]; exact ⟨_, upd_same⟩
    · rw [upd_ne z]; exact E.dom b mb
  tab := tabs_poke E.tab e hpl
theorem Pat.put {o o' : MO} (h : γ[i]? = some (.own t o)) : Pat γ (γ.set i (.own t o')) := by
  unfold Pat
  apply List.ext_getElem?
  intro j
  rw [List.getElem?_map, List.getElem?_map]
  by_cases hj : i = j
  · subst hj
    rw [List.getElem?_set_self (List.getElem?_eq_some_iff.mp h).1, h]
    rfl
  · rw [List.getElem?_set_ne hj]
/-- an own thing written -/
theorem EnvRep.wr {a : Addr} {o o' : MO} {u u' : HO} (E : EnvRep C pens M γ σ H) (hi : γ[i]? = some (.own t o)) (hs : σ[i]? = some (some (.ref a))) (e : H a = some u) (hn : ∀ q w, u ≠ .frz q w) (hr : ORep C M (upd H a u') a o') (hpl : isPl u = true := by rfl) : Stp C pens M σ γ H (γ.set i (.own t o')) (upd H a u') := by
  have ow : Own γ σ a := ⟨i, t, o, hi, hs⟩
  have hil : i < γ.length := (List.getElem?_eq_some_iff.mp hi).1
  obtain ⟨x0, h1, a0, h2, m, _, tg⟩ := E.slot hi
  subst h2
  rw [hs] at h1
  cases h1
  refine ⟨⟨?_, fun j sv x h1 h2 => ?_, fun j k t1 o1 t2 o2 b q1 q2 q3 q4 => ?_, fun b mb => ?_, tabs_poke E.tab e hpl⟩, Keep.poke ow, Pat.put hi⟩
  · rw [List.length_set, E.len]
  · by_cases hj : i = j
    · subst hj
      rw [List.getElem?_set_self hil] at h1
      cases h1
      rw [hs] at h2
      cases h2
      exact ⟨a, rfl, m, hr, tg⟩
    · rw [List.getElem?_set_ne hj] at h1
      refine (E.ok j sv x h1 h2).fine (Fine.poke m) (fun _ z => z) (fun _ _ s => s.poke e hn) fun t3 o3 b q1 q2 w hw _ => ?_
      have ne : b ≠ a := fun z => by
        subst z
        exact hj (E.inj i j _ _ _ _ b hi (by rw [h1, q1]) hs (by rw [h2, q2]))
      rw [upd_ne ne]
      exact hw
  · have f : ∀ {l : Nat} {t' : Option Nat} {o4 : MO}, (γ.set i (.own t o'))[l]? = some (.own t' o4) → ∃ o5, γ[l]? = some (.own t' o5) := fun {l t' o4} h => by
      by_cases hl : i = l
      · subst hl
        rw [List.getElem?_set_self hil] at h
        cases h
        exact ⟨_, hi⟩
      · rw [List.getElem?_set_ne hl] at h
        exact ⟨_, h⟩
    obtain ⟨o5, k1⟩ := f q1
    obtain ⟨o6, k2⟩ := f q2
    exact E.inj j k _ _ _ _ b k1 k2 q3 q4
  · by_cases z : b = a
    · rw [z]; exact ⟨_, upd_same⟩
    · rw [upd_ne z]; exact E.dom b mb
/-- the list of an own slot -/
theorem EnvRep.ownL {xs : List D} (E : EnvRep C pens M γ σ H) (hi : γ[i]? = some (.own t (.lst xs))) : ∃ a vs, σ[i]? = some (some (.ref a)) ∧ H a = some (.lst vs) ∧ RepL C M H vs xs ∧ M a := by
  obtain ⟨x, h1, a, h2, m, ⟨vs, e, r⟩, _⟩ := E.slot hi
  subst h2
  exact ⟨a, vs, h1, e, r, m⟩
/-- it is written -/
theorem EnvRep.wrL {a : Addr} {vs : List V} {xs ys : List D} {ws : List V} (E : EnvRep C pens M γ σ H) (hi : γ[i]? = some (.own t (.lst xs))) (hs : σ[i]? = some (some (.ref a))) (e : H a = some (.lst vs)) (m : M a) (r : RepL C M H ws ys) : Stp C pens M σ γ H (γ.set i (.own t (.lst ys))) (upd H a (.lst ws)) :=
  E.wr hi hs e (fun _ _ z => by cases z) ⟨ws, upd_same, r.fine (Fine.poke m)⟩
end
section
variable {C : Ct} {W : WX} {X : Cx} {m p m1 p1 m2 p2 m3 p3 : Bool} {a b c e' e : Expr} {fa fb fc : F D} {fn : F MO} {gc : F Bool} {s t : F Fl} {pos : Pos} {st : Stmt} {rest : List Stmt} {i : Nat}
/-- own lists, by the slot -/
def oList (i : Nat) (γ : Gm) : Option (Option Nat × List D) := match γ[i]? with
  | some (.own t (.lst xs)) => some (t, xs)
  | _ => none
theorem oList_eq {γ : Gm} {q : Option Nat × List D} (h : oList i γ = some q) : γ[i]? = some (.own q.1 (.lst q.2)) := by
  unfold oList at h
  split at h
  · rename_i e
    cases h
    exact e
  · cases h
/-- a method of an own list with one argument -/
def fM1 (i : Nat) (g : List D → D → Option (D × List D)) (fa : F D) : F D := fun γ => match oList i γ with
  | none => .st
  | some _ => F.bind fa (fun d γ1 => match oList i γ1 with
    | some (t, xs) => (match g xs d with
      | some (r, ys) => .ok r (γ1.set i (.own t (.lst ys)))
      | none => .st)
    | none => .st) γ
theorem fx_m1 {r : V → List V → Hp → VK → Prop} {g : List D → D → Option (D × List D)} {name : Str} {apos : Pos} {id : String} (slot : Slot "list" name id) (hty : typeOf (.builtin id) = pure (.type "method_descriptor")) (hm : MtR X id r) (ho : PE X e (tVar i)) (ha : FX C W true p X a fa)
    (hg : ∀ M H l vs xs v d rd ys Q, H l = some (.lst vs) → RepL C M H vs xs → Rep C M H v d → M l → g xs d = some (rd, ys) → (∀ w ws, Rep C M H w rd → RepL C M H ws ys → Q w (upd H l (.lst ws))) → r (.ref l) [v] H Q)
    (hbase : attributeBase e name X.env (eval e X.env) = eval e X.env := by rfl)
    (hfew : ((backTo pos (starEach [a] X.env)).all (fun x => !x.1) && (backToKw pos (keywordEach [] X.env)).all (fun x => x.1.isSome)
      && decide ([a].length + ([] : List Keyword).length + (if ([] : List Keyword).isEmpty then 0 else 1) < 30)) = true := by rfl)
    (hline : (apos.endLine == pos.line) = true := by rfl) (hs : starEach [a] X.env = (false, eval a X.env) :: starEach [] X.env := by rfl) (hplain : (backTo pos (starEach [] X.env)).any (·.1) = false := by rfl) :
    FX C W true false X (.Call (.Attribute e name apos) [a] [] pos) (fM1 i g fa) := PE.imp (pe_bm PySem.F.plainAttrs_list slot hty hm ho (pa_cons ha pa_nil hs) hbase hfew hline hs hplain) fun σ H Q ⟨pens, M, γ, E, h⟩ => by
  unfold fM1 at h
  cases eo : oList i γ with
  | none => rw [eo] at h; exact h.elim
  | some q =>
    rw [eo] at h
    have hi := oList_eq eo
    obtain ⟨l, vs, hs1, hl, rl, ml⟩ := E.ownL hi
    refine ⟨.ref l, hs1, .inl ⟨rfl, vs, .inl (.inl hl)⟩, pens, M, γ, E, ?_⟩
    simp only at h
    cases ea : fa γ with
    | st => rw [bind_st ea] at h; exact h
    | ex x g => rw [bind_ex ea] at h; exact h
    | ok d γ1 =>
      rw [bind_ok ea] at h
      intro v H1 S1 P1 r1
      cases e1 : oList i γ1 with
      | none => rw [e1] at h; exact h.elim
      | some q1 =>
        obtain ⟨t1, xs1⟩ := q1
        rw [e1] at h
        simp only at h
        have hi1 := oList_eq e1
        obtain ⟨l1, vs1, hs2, hl1, rl1, ml1⟩ := S1.env.ownL hi1
        rw [hs1] at hs2
        cases hs2
        cases eg : g xs1 d with
        | none => rw [eg] at h; exact h.elim
        | some w =>
          obtain ⟨rd, ys⟩ := w
          rw [eg] at h
          refine hg M H1 l vs1 xs1 v d rd ys Q hl1 rl1 r1 ml1 eg fun w ws rw' rs => ?_
          have S2 := S1.env.wrL hi1 hs1 hl1 ml1 rs
          exact h w _ (S1.trans S2) (fun z => by cases z) (show Rep C M _ w rd from rw'.fine (Fine.poke ml1))
def gApp (xs : List D) (d : D) : Option (D × List D) := if xs.length < sizeLine then some (.non, xs ++ [d]) else none
theorem fx_append {apos : Pos} (hm : MtR X "list.append" rAppend) (ho : PE X e (tVar i)) (ha : FX C W true p X a fa) (hbase : attributeBase e "append" X.env (eval e X.env) = eval e X.env := by rfl)
    (hfew : ((backTo pos (starEach [a] X.env)).all (fun x => !x.1) && (backToKw pos (keywordEach [] X.env)).all (fun x => x.1.isSome)
      && decide ([a].length + ([] : List Keyword).length + (if ([] : List Keyword).isEmpty then 0 else 1) < 30)) = true := by rfl)
    (hline : (apos.endLine == pos.line) = true := by rfl) (hs : starEach [a] X.env = (false, eval a X.env) :: starEach [] X.env := by rfl) (hplain : (backTo pos (starEach [] X.env)).any (·.1) = false := by rfl) :
    FX C W true false X (.Call (.Attribute e "append" apos) [a] [] pos) (fM1 i gApp fa) := fx_m1 PySem.F.slot_list_append PySem.F.type_list_append hm ho ha (fun M H l vs xs v d rd ys Q hl rl rv ml eg k => by
  unfold gApp at eg
  split at eg
  · rename_i hz
    cases eg
    exact ⟨l, vs, v, rfl, rfl, hl, by rw [rl.length]; exact hz, k .non _ .non (rl.append (.cons rv .nil))⟩
  · cases eg) hbase hfew hline hs hplain
/-- x[k] = e -/
def sSetIx (i : Nat) (fk fe : F D) : F Fl := F.bind fe fun d γ => match oList i γ with
  | none => .st
  | some _ => F.bind fk (fun k γ1 => match oList i γ1, k with
    | some (t, xs), .int j => (match ixN xs.length j with
      | some n => .ok .nx (γ1.set i (.own t (.lst (xs.set n d))))
      | none => .st)
    | _, _ => .st) γ
theorem fs_setIx {ipos : Pos} (ho : PE X a (tVar i)) (hk : FX C W m1 p1 X b fb) (he : FX C W true p X e fa) (hs : swapsWithSole [.Subscript a b ipos] e pos.line X.env = pure false := by rfl) (hw : swappedStores [.Subscript a b ipos] e X.env = pure none := by rfl)
    (h1 : (assignEach [.Subscript a b ipos] X.env).map (·.2) = [assign (.Subscript a b ipos) X.env] := by rfl)
    (hga : ∀ v, assign (.Subscript a b ipos) X.env v = (do
      let ov ← holding [v] (eval a X.env)
      let iv ← holding [v, ov] (eval b X.env)
      standAt ipos
      holding [v, ov, iv] (setItem ov iv v)
      release [v, ov, iv] []) := by intro _; rfl) :
    FS C W X (.Assign [.Subscript a b ipos] e pos) (sSetIx i fb fa) := PS.imp (ps_asg he (pg_sub ho hk set_list hga) hs hw h1) fun D σ H ⟨pens, M, γ, E, h⟩ => by
  refine ⟨pens, M, γ, E, ?_⟩
  unfold sSetIx at h
  cases ea : fa γ with
  | st => rw [bind_st ea] at h; exact h
  | ex x g => rw [bind_ex ea] at h; exact fun cls d H' S re => h cls d M σ H' S.env S.s re
  | ok d γ1 =>
    rw [bind_ok ea] at h
    intro v H1 S1 P1 r1
    have r1 : Rep C M H1 v d := r1
    cases eo : oList i γ1 with
    | none => rw [eo] at h; exact h.elim
    | some q =>
      rw [eo] at h
      simp only at h
      obtain ⟨l, vs, hs1, hl, rl, ml⟩ := S1.env.ownL (oList_eq eo)
      refine ⟨.ref l, hs1, pens, M, γ1, S1.env, ?_⟩
      cases ek : fb γ1 with
      | st => rw [bind_st ek] at h; exact h
      | ex x g => rw [bind_ex ek] at h; exact fun cls d H' S re => h cls d M σ H' S.env (S1.s.trans E S.s) re
      | ok k γ2 =>
        rw [bind_ok ek] at h
        intro y H2 S2 P2 r2
        cases e1 : oList i γ2 with
        | none => rw [e1] at h; exact h.elim
        | some q1 =>
          obtain ⟨t1, xs1⟩ := q1
          rw [e1] at h
          cases k with
          | int j =>
            simp only at h
            cases en : ixN xs1.length j with
            | none => rw [en] at h; exact h.elim
            | some n =>
              rw [en] at h
              have hi1 := oList_eq e1
              obtain ⟨l1, vs1, hs2, hl1, rl1, ml1⟩ := S2.env.ownL hi1
              rw [hs1] at hs2
              cases hs2
              refine ⟨l, vs1, j, n, rfl, r2.s.intH, hl1, by rw [rl1.length]; exact en, ?_⟩
              have r1' : Rep C M H2 v d := S2.rep S1.env r1
              have S3 := S2.env.wrL hi1 hs1 hl1 ml1 (rl1.set n r1')
              exact h M σ _ S3.env ((S1.trans S2).trans S3).s
          | _ => exact h.elim
/-! ### names stored at once -/
def putA (i : Nat) (av : AV) (γ : Gm) : Option Gm := match av with
  | .d x => some (γ.set i (.val x))
  | .n o => some (γ.set i (.own none o))
  | .w xs => some (γ.set i (.view xs))
  | .s _ => none
def putAll : List Nat → List AV → Gm → Option Gm
  | [], [], γ => some γ
  | i :: is, a :: as, γ => (putA i a γ).bind (putAll is as)
  | _, _, _ => none
def setAll : List Nat → List V → L2.St → L2.St
  | i :: is, v :: vs, σ => setAll is vs (σ.set i (some v))
  | _, _, σ => σ
def sPar (is : List Nat) (fr : F (List AV)) : F Fl := F.bind fr fun as γ => match putAll is as γ with
  | some γ' => .ok .nx γ'
  | none => .st
theorem putAll_ok {pens : Nat → Addr} {M : Addr → Prop} {H : Hp} : ∀ {is : List Nat} {vs : List V} {as : List AV} {γ γ' γ0 : Gm} {σ σ0 : L2.St}, EnvRep C pens M γ σ H → Paired (AOk C M H σ0 γ0) vs as → (freshA vs as).Nodup → (∀ a ∈ freshA vs as, ¬ Own γ σ a) → putAll is as γ = some γ' →
    is.length = vs.length ∧ EnvRep C pens M γ' (setAll is vs σ) H ∧ ∀ a, Own γ' (setAll is vs σ) a → Own γ σ a ∨ a ∈ freshA vs as
  | [], [], [], γ, γ', _, σ, _, E, _, _, _, e => by cases e; exact ⟨rfl, E, fun _ z => .inl z⟩
  | [], _ :: _, _ :: _, _, _, _, _, _, _, _, _, _, e => by cases e
  | _ :: _, [], [], _, _, _, _, _, _, _, _, _, e => by cases e
  | i :: is, v :: vs, av :: as, γ, γ', γ0, σ, σ0, E, .cons a0 ar, nd, fr, e => by
    simp only [putAll] at e
    cases av with
    | d x =>
      have ef : freshA (v :: vs) (.d x :: as) = freshA vs as := by cases v <;> rfl
      rw [ef] at nd fr ⊢
      have E1 := E.set (i := i) (x := some v) (sv := .val x) ⟨v, rfl, a0⟩ (fun _ _ z => by cases z)
      have ow : ∀ {b}, Own (γ.set i (.val x)) (σ.set i (some v)) b → Own γ σ b := fun z => Own.set i _ _ (fun _ _ z => by cases z) z
      obtain ⟨h1, h2, h3⟩ := putAll_ok (is := is) E1 ar nd (fun b hb z => fr b hb (ow z)) e
      exact ⟨by simp [h1], h2, fun b z => (h3 b z).imp ow id⟩
    | n o =>
      obtain ⟨b, rfl, mb, rb⟩ := a0
      have ef : freshA (.ref b :: vs) (.n o :: as) = b :: freshA vs as := rfl
      rw [ef] at nd fr ⊢
      have nb := fr b List.mem_cons_self
      have E1 := E.setN (i := i) mb rb nb
      have ow : ∀ {c}, Own (γ.set i (.own none o)) (σ.set i (some (.ref b))) c → Own γ σ c ∨ c = b := fun z => Own.setN i b none o z
      obtain ⟨h1, h2, h3⟩ := putAll_ok (is := is) E1 ar (List.nodup_cons.mp nd).2 (fun c hc z => (ow z).elim (fr c (List.mem_cons_of_mem _ hc)) fun q => by
        subst q
        exact (List.nodup_cons.mp nd).1 hc) e
      refine ⟨by simp [h1], h2, fun c z => ?_⟩
      rcases h3 c z with q | q
      · exact (ow q).imp id fun q => by rw [q]; exact List.mem_cons_self
      · exact .inr (List.mem_cons_of_mem _ q)
    | w xs =>
      have ef : freshA (v :: vs) (.w xs :: as) = freshA vs as := by cases v <;> rfl
      rw [ef] at nd fr ⊢
      obtain ⟨b, us, rfl, sb, rb⟩ := a0
      have E1 := E.set (i := i) (x := some (.ref b)) (sv := .view xs) ⟨b, us, rfl, sb, rb⟩ (fun _ _ z => by cases z)
      have ow : ∀ {c}, Own (γ.set i (.view xs)) (σ.set i (some (.ref b))) c → Own γ σ c := fun z => Own.set i _ _ (fun _ _ z => by cases z) z
      obtain ⟨h1, h2, h3⟩ := putAll_ok (is := is) E1 ar nd (fun c hc z => fr c hc (ow z)) e
      exact ⟨by simp [h1], h2, fun c z => (h3 c z).imp ow id⟩
    | s k => cases e
theorem aftPar {pens : Nat → Addr} {M : Addr → Prop} {σ : L2.St} {γ : Gm} {H : Hp} {fr : F (List AV)} {is : List Nat} {D : Ends} {Q : List V → Hp → Prop} (E : EnvRep C pens M γ σ H) (h : aftS C W pens M σ γ H (sPar is fr γ) D)
    (k : ∀ vs H', is.length = vs.length → (∀ H2, Keep0 H' H2 → D.nx (setAll is vs σ) H2) → Q vs H') : aftA C W pens M σ γ H p (fr γ) Q := by
  unfold sPar at h
  cases ea : fr γ with
  | st => rw [bind_st ea] at h; exact h
  | ex x g => rw [bind_ex ea] at h; exact fun cls d H' M' E' k' pt up dn re => h cls d M' σ H' E' ⟨k', fun a z => .inl (pt.symm.Own z), fun a z _ => up a z, dn⟩ re
  | ok as γ1 =>
    rw [bind_ok ea] at h
    intro vs H' M' E' kp pt P up dn A
    cases ep : putAll is as γ1 with
    | none => rw [ep] at h; exact h.elim
    | some γ2 =>
      rw [ep] at h
      obtain ⟨h1, h2, h3⟩ := putAll_ok E' A.ok A.nd (fun a ha z => Own.tracked E (A.fr a ha) (pt.symm.Own z)) ep
      refine k vs H' h1 fun H2 k2 => h M' _ H2 (h2.keep k2) ⟨kp.trans k2.any, fun a z => ?_, fun a z _ => up a z, fun a z => (dn a z).imp id (A.fr a)⟩
      rcases h3 a z with q | q
      · exact .inl (pt.symm.Own q)
      · exact .inr (A.fr a q)
theorem fs_par {x y : Str} {i j : Nat} {px py pt : Pos} {kt k2 pt2} {fr : F (List AV)} (hc : X.calm = true) (hN : X.N.Nodup) (hi : X.N[i]? = some x) (hj : X.N[j]? = some y) (hij : i ≠ j)
    (hx : X.env.scope.names.lookup x = some .local) (hy : X.env.scope.names.lookup y = some .local) (ha : FA C W p X [a, b] fr)
    (hw : swappedStores [.Tuple [.Name x px, .Name y py] kt pt] (.Tuple [a, b] k2 pt2) X.env = pure (some [x, y]))
    (hs : swapsWithSole [.Tuple [.Name x px, .Name y py] kt pt] (.Tuple [a, b] k2 pt2) pos.line X.env = pure false := by rfl) :
    FS C W X (.Assign [.Tuple [.Name x px, .Name y py] kt pt] (.Tuple [a, b] k2 pt2) pos) (sPar [i, j] fr) := PS.imp (ps_par hc hN hi hj hij hx hy ha hw hs) fun D σ H ⟨pens, M, γ, E, h⟩ => by
  refine ⟨pens, M, γ, E, aftPar E h fun vs H' hl k => ?_⟩
  match vs, hl, k with
  | [v, w], _, k => exact ⟨v, w, rfl, k H' (Keep.refl _ _)⟩
theorem fs_par3 {x y z : Str} {i j l : Nat} {px py pz pt : Pos} {kt k2 pt2} {fr : F (List AV)} (hc : X.calm = true) (hN : X.N.Nodup) (hi : X.N[i]? = some x) (hj : X.N[j]? = some y) (hl : X.N[l]? = some z) (hij : i ≠ j) (hil : i ≠ l) (hjl : j ≠ l)
    (hx : X.env.scope.names.lookup x = some .local) (hy : X.env.scope.names.lookup y = some .local) (hz : X.env.scope.names.lookup z = some .local) (ha : FA C W p X [a, b, c] fr)
    (hw : swappedStores [.Tuple [.Name x px, .Name y py, .Name z pz] kt pt] (.Tuple [a, b, c] k2 pt2) X.env = pure (some [x, y, z]))
    (hs : swapsWithSole [.Tuple [.Name x px, .Name y py, .Name z pz] kt pt] (.Tuple [a, b, c] k2 pt2) pos.line X.env = pure false := by rfl) :
    FS C W X (.Assign [.Tuple [.Name x px, .Name y py, .Name z pz] kt pt] (.Tuple [a, b, c] k2 pt2) pos) (sPar [i, j, l] fr) := PS.imp (ps_par3 hc hN hi hj hl hij hil hjl hx hy hz ha hw hs) fun D σ H ⟨pens, M, γ, E, h⟩ => by
  refine ⟨pens, M, γ, E, aftPar E h fun vs H' hl k => ?_⟩
  match vs, hl, k with
  | [u, v, w], _, k => exact ⟨u, v, w, rfl, k H' (Keep.refl _ _)⟩
/-- a target of any form, by data -/
def sAsg (fa : F D) (g : GD) : F Fl := F.bind fa fun d γ => match g d γ with
  | some γ' => .ok .nx γ'
  | none => .st
end
end FC
namespace FC
open PySem PySem.Spec PyProof.Rows L2
/-! ### list comprehensions -/
def wipeG (γ : Gm) : List Nat → Gm
  | [] => γ
  | v :: vs => (wipeG γ vs).set v .none
def unw (γ1 γ2 : Gm) : List Nat → Gm
  | [] => γ2
  | v :: vs => match γ1[v]? with
    | some sv => (unw γ1 γ2 vs).set v sv
    | none => unw γ1 γ2 vs
def notOwn : Option SV → Bool
  | some (.own _ _) => false
  | _ => true
def okW (γ : Gm) (vs : List Nat) : Bool := vs.all fun v => notOwn γ[v]?
def lcL (g : GD) (c : F Bool) (e : F D) (vs : List Nat) : List D → List D → F (List D)
  | [], acc => fun γ => .ok acc γ
  | d :: ds, acc => fun γ => match g d γ with
    | none => .st
    | some γ3 => match c γ3 with
      | .ok true γ4 => (match e γ4 with
        | .ok y γ5 => lcL g c e vs ds (acc ++ [y]) (wipeG γ5 vs)
        | _ => .st)
      | .ok false γ4 => lcL g c e vs ds acc (wipeG γ4 vs)
      | _ => .st
def nLc (fi : F (List D)) (g : GD) (c : F Bool) (e : F D) (vs : List Nat) : F MO := F.bind fi fun xs γ1 =>
  if xs.length ≤ sizeLine ∧ okW γ1 vs = true then (match lcL g c e vs xs [] (wipeG γ1 vs) with
    | .ok acc γ2 => .ok (.lst acc) (unw γ1 γ2 vs)
    | _ => .st) else .st
theorem wipeG_length (γ : Gm) : ∀ vs : List Nat, (wipeG γ vs).length = γ.length
  | [] => rfl
  | v :: vs => by unfold wipeG; rw [List.length_set, wipeG_length γ vs]
theorem wipeG_out {γ : Gm} {j : Nat} : ∀ {vs : List Nat}, j ∉ vs → (wipeG γ vs)[j]? = γ[j]?
  | [], _ => rfl
  | v :: vs, h => by
    unfold wipeG
    rw [List.getElem?_set_ne (fun z => h (by rw [z]; exact List.mem_cons_self))]
    exact wipeG_out fun z => h (List.mem_cons_of_mem _ z)
theorem wipeG_in {γ : Gm} {j : Nat} (hj : j < γ.length) : ∀ {vs : List Nat}, j ∈ vs → (wipeG γ vs)[j]? = some .none
  | v :: vs, h => by
    unfold wipeG
    by_cases z : v = j
    · subst z
      rw [List.getElem?_set_self (by rw [wipeG_length]; exact hj)]
    · rw [List.getElem?_set_ne z]
      exact wipeG_in hj ((List.mem_cons.mp h).resolve_left fun q => z q.symm)
theorem wipe_in {σ : L2.St} {j : Nat} (hj : j < σ.length) : ∀ {vs : List Nat}, j ∈ vs → (wipe σ vs)[j]? = some none
  | v :: vs, h => by
    unfold wipe
    by_cases z : v = j
    · subst z
      rw [List.getElem?_set_self (by rw [wipe_length]; exact hj)]
    · rw [List.getElem?_set_ne z]
      exact wipe_in hj ((List.mem_cons.mp h).resolve_left fun q => z q.symm)
theorem wipe_same {σ σ2 : L2.St} {vs : List Nat} (hl : σ2.length = σ.length) (h : ∀ j, j ∉ vs → σ2[j]? = σ[j]?) : wipe σ2 vs = wipe σ vs := by
  apply List.ext_getElem?
  intro j
  by_cases hj : j ∈ vs
  · by_cases hl2 : j < σ.length
    · rw [wipe_in hl2 hj, wipe_in (by rw [hl]; exact hl2) hj]
    · rw [List.getElem?_eq_none (by rw [wipe_length]; omega), List.getElem?_eq_none (by rw [wipe_length]; omega)]
  · rw [wipe_out hj, wipe_out hj, h j hj]
theorem unw_length (γ1 γ2 : Gm) : ∀ vs : List Nat, (unw γ1 γ2 vs).length = γ2.length
  | [] => rfl
  | v :: vs => by
    unfold unw
    split
    · rw [List.length_set, unw_length γ1 γ2 vs]
    · exact unw_length γ1 γ2 vs
theorem unw_out {γ1 γ2 : Gm} {j : Nat} : ∀ {vs : List Nat}, j ∉ vs → (unw γ1 γ2 vs)[j]? = γ2[j]?
  | [], _ => rfl
  | v :: vs, h => by
    unfold unw
    have h2 : j ∉ vs := fun z => h (List.mem_cons_of_mem _ z)
    split
    · rw [List.getElem?_set_ne (fun z => h (by rw [z]; exact List.mem_cons_self))]
      exact unw_out h2
    · exact unw_out h2
theorem unw_in {γ1 γ2 : Gm} {j : Nat} (hl : γ2.length = γ1.length) : ∀ {vs : List Nat}, j ∈ vs → (unw γ1 γ2 vs)[j]? = γ1[j]?
  | v :: vs, h => by
    unfold unw
    by_cases z : v = j
    · subst z
      split
      · rename_i sv e
        rw [List.getElem?_set_self (by rw [unw_length, hl]; exact (List.getElem?_eq_some_iff.mp e).1), e]
      · rename_i e
        rw [e]
        exact List.getElem?_eq_none (by rw [unw_length, hl]; simpa using e)
    · have h2 := (List.mem_cons.mp h).resolve_left fun q => z q.symm
      split
      · rw [List.getElem?_set_ne z]
        exact unw_in hl h2
      · exact unw_in hl h2
section
variable {C : Ct} {pens : Nat → Addr} {M : Addr → Prop} {γ γ1 γ2 : Gm} {σ σ2 : L2.St} {H H1 : Hp}
theorem EnvRep.wipe (E : EnvRep C pens M γ σ H) : ∀ vs : List Nat, EnvRep C pens M (wipeG γ vs) (wipe σ vs) H
  | [] => E
  | v :: vs => (EnvRep.wipe E vs).set (i := v) (x := none) (sv := .none) trivial fun _ _ z => by cases z
theorem Own.wipe {a : Addr} : ∀ {vs : List Nat}, Own (wipeG γ vs) (wipe σ vs) a → Own γ σ a
  | [], h => h
  | v :: vs, h => Own.wipe (vs := vs) (Own.set v none .none (fun _ _ z => by cases z) h)
theorem okW_at {vs : List Nat} {j : Nat} {t : Option Nat} {o : MO} (h : okW γ vs = true) (hj : j ∈ vs) (e : γ[j]? = some (.own t o)) : False := by
  unfold okW at h
  have := List.all_eq_true.mp h j hj
  rw [e] at this
  cases this
theorem unw_own {vs : List Nat} (hl : γ2.length = γ1.length) (ok : okW γ1 vs = true) {j : Nat} {t : Option Nat} {o : MO} (e : (unw γ1 γ2 vs)[j]? = some (.own t o)) : j ∉ vs ∧ γ2[j]? = some (.own t o) := by
  by_cases hj : j ∈ vs
  · rw [unw_in hl hj] at e
    exact (okW_at ok hj e).elim
  · rw [unw_out hj] at e
    exact ⟨hj, e⟩
/-- behind the comprehension -/
theorem EnvRep.unw {M' : Addr → Prop} {H' : Hp} {vs : List Nat} (E1 : EnvRep C pens M γ1 σ H1) (E2 : EnvRep C pens M' γ2 (L2.wipe σ vs) H') (ok : okW γ1 vs = true) (hm : ∀ a, M a → M' a) (fn : Fine M M' H1 H') (hs : ∀ a vs, Seen C H1 a vs → Seen C H' a vs) : EnvRep C pens M' (FC.unw γ1 γ2 vs) σ H' := by
  have hl : γ2.length = γ1.length := by rw [← E2.len, ← E1.len, wipe_length]
  refine ⟨by rw [unw_length, hl, E1.len], fun j sv x h1 h2 => ?_, fun j k t o t' o' a h1 h2 h3 h4 => ?_, E2.dom, E2.tab⟩
  · by_cases hj : j ∈ vs
    · rw [unw_in hl hj] at h1
      exact (E1.ok j sv x h1 h2).fine fn hm hs fun t o a q _ _ _ _ => (okW_at ok hj (by rw [h1, q])).elim
    · rw [unw_out hj] at h1
      exact E2.ok j sv x h1 (by rw [wipe_out hj]; exact h2)
  · obtain ⟨n1, e1⟩ := unw_own hl ok h1
    obtain ⟨n2, e2⟩ := unw_own hl ok h2
    exact E2.inj j k t o t' o' a e1 e2 (by rw [wipe_out n1]; exact h3) (by rw [wipe_out n2]; exact h4)
theorem Pat.unw {vs : List Nat} (p : Pat (wipeG γ1 vs) γ2) : Pat γ1 (FC.unw γ1 γ2 vs) := by
  have hl : γ2.length = γ1.length := by rw [← p.length, wipeG_length]
  unfold Pat
  apply List.ext_getElem?
  intro j
  rw [List.getElem?_map, List.getElem?_map]
  by_cases hj : j ∈ vs
  · rw [unw_in hl hj]
  · rw [unw_out hj, ← p.at j, wipeG_out hj]
theorem Seen.keepN {N : Addr → Prop} {H' : Hp} {a : Addr} {vs : List V} (s : Seen C H a vs) (k : Keep N H H') (n : ∀ b o u, H b = some (.frz o u) → ¬ N b) : Seen C H' a vs := by
  rcases s with ⟨o, h⟩ | s
  · exact .inl ⟨o, (k a _ h (n _ _ _ h)).1 rfl⟩
  · exact .inr s
theorem EnvRep.ownNF (E : EnvRep C pens M γ σ H) : ∀ b o u, H b = some (.frz o u) → ¬ Own γ σ b := fun b q u h ⟨i, t, o, h1, h2⟩ => by
  obtain ⟨c, e, m, r, _⟩ := E.ok i _ _ h1 h2
  cases e
  cases o with
  | lst xs => obtain ⟨vs, e, _⟩ := r; rw [h] at e; cases e
  | ins c fs => obtain ⟨dx, vs, e, _⟩ := r; rw [h] at e; cases e
end
theorem PTs.imp {X : Cx} {ifs : List Expr} {t t' : TT} (h : PTs X ifs t) (k : ∀ σ H Q, t' σ H Q → t σ H Q) : PTs X ifs t' := ⟨fun pins s σ H Q I q => h.run pins s σ H Q I (k σ H Q q)⟩
def FTs (C : Ct) (p : Bool) (X : Cx) (ifs : List Expr) (c : F Bool) : Prop := PTs X ifs (tFB C (fun _ _ _ _ => False) p c)
abbrev W0 : WX := fun _ _ _ _ => False
def tTrue : F Bool := fun γ => .ok true γ
section
variable {C : Ct} {W : WX} {X : Cx} {m p m1 p1 m2 p2 m3 p3 : Bool} {a b c e' e : Expr} {fa fb fc : F D} {fn : F MO} {gc : F Bool} {s t : F Fl} {pos : Pos} {st : Stmt} {rest : List Stmt} {i : Nat}
theorem fts_nil : FTs C true X [] tTrue := PTs.imp pts_nil fun σ H Q ⟨pens, M, γ, E, h⟩ => h H (Stp.pure E (Keep.refl _ _)) fun _ => ⟨rfl, Keep.refl _ _⟩
theorem fts_one (h : FT C W0 p X c gc) : FTs C p X [c] gc := PTs.imp (pts_one h) fun σ H Q h => h
theorem lc_te {fi : F (List D)} {g : GD} {fe : F D} {vs ws : List Nat} {σ : L2.St} {H : Hp} {Q : VK} (hws : ∀ j ∈ ws, j ∈ vs) (h : tFN C W false (nLc fi g gc fe vs) σ H Q) : tLc (tFI C W p fi) (tG C ws g) (tFB C W0 p1 gc) (tF C W0 true p2 fe) vs σ H Q := by
  obtain ⟨pens, M, γ, E, h⟩ := h
  refine ⟨pens, M, γ, E, ?_⟩
  unfold nLc at h
  cases ea : fi γ with
  | st => rw [bind_st ea] at h; exact h
  | ex x γ' => rw [bind_ex ea] at h; exact h
  | ok xs γ1 =>
    rw [bind_ok ea] at h
    intro J H1 S1 P1 IO D hD
    split at h
    case isFalse => exact h.elim
    rename_i hz
    obtain ⟨hz, okw⟩ := hz
    have E1 := S1.env
    cases el : lcL g gc fe vs xs [] (wipeG γ1 vs) with
    | st => rw [el] at h; exact h.elim
    | ex _ _ => rw [el] at h; exact h.elim
    | ok accF γF =>
      rw [el] at h
      simp only at h
      have nD : ¬ Own γ1 σ D := fun z => Own.tracked E1 hD z
      refine ⟨fun i mm H' => mm = xs.length - i ∧ i ≤ xs.length ∧ ∃ acc us γ', EnvRep C pens (adj M D) γ' (wipe σ vs) H' ∧ Keep (Own γ1 σ) H1 H' ∧ Pat (wipeG γ1 vs) γ' ∧ H' D = some (.lst us) ∧ RepL C (adj M D) H' us acc ∧ acc.length ≤ i ∧ lcL g gc fe vs (xs.drop i) acc γ' = .ok accF γF,
        ⟨xs.length, by simp, Nat.zero_le _, [], [], wipeG γ1 vs, (E1.wipe vs).plus hD ⟨_, upd_same⟩ (Keep.new hD), Keep.new hD, Pat.refl _, upd_same, .nil, Nat.zero_le _, by simpa using el⟩, ?_⟩
      rintro i mm H' ⟨rfl, hi, acc, us, γ', E', k', pt', hD', rs', hla, el'⟩
      have fn' : Fine M (adj M D) H1 H' := ⟨fun b o eb nb tb => (k' b o eb fun z => nb (E1.ownM z).1).1 tb, fun b o eb z => z.elim id fun q => by rw [q, hD] at eb; cases eb⟩
      have io := IO _ H' fn' E'.dom
      have oo : ∀ b, Own γ' (wipe σ vs) b → Own γ1 σ b := fun b z => Own.wipe (pt'.symm.Own z)
      by_cases hlt : i < xs.length
      · have ed : xs[i]? = some xs[i] := List.getElem?_eq_getElem hlt
        rw [List.drop_eq_getElem_cons hlt] at el'
        obtain ⟨go, yl⟩ := io.1 i _ ed
        refine .inr ⟨go, fun H2 => ∃ acc us γ', EnvRep C pens (adj M D) γ' (wipe σ vs) H2 ∧ Keep (Own γ1 σ) H1 H2 ∧ Pat (wipeG γ1 vs) γ' ∧ H2 D = some (.lst us) ∧ RepL C (adj M D) H2 us acc ∧ acc.length ≤ i + 1 ∧ lcL g gc fe vs (xs.drop (i + 1)) acc γ' = .ok accF γF,
          fun H2 q => ⟨xs.length - (i + 1), by omega, rfl, hlt, q⟩, fun x H2 y => ?_⟩
        obtain ⟨k2, r2⟩ := yl x H2 y
        have E2 := E'.keep k2
        simp only [lcL] at el'
        cases eg : g xs[i] γ' with
        | none => rw [eg] at el'; cases el'
        | some γ3 =>
          rw [eg] at el'
          simp only at el'
          refine ⟨pens, adj M D, γ', xs[i], γ3, E2, r2, eg, fun σ3 E3 S3 l3 o3 => ⟨?_, ?_⟩⟩
          · refine wipe_same (by rw [l3, wipe_length]) fun j hj => ?_
            rw [(o3 j fun z => hj (hws j z)).1, wipe_out hj]
          · have hw3 : wipe σ3 vs = wipe σ vs := wipe_same (by rw [l3, wipe_length]) fun j hj => by rw [(o3 j fun z => hj (hws j z)).1, wipe_out hj]
            have o31 : ∀ b, Own γ3 σ3 b → Own γ1 σ b := fun b z => by
              rcases S3.own b z with q | q
              · exact oo b q
              · obtain ⟨_, u, eu, _⟩ := E3.ownM z
                rw [q] at eu
                cases eu
            have hD2 : H2 D = some (.lst us) := k2.at hD'
            have rs2 := rs'.fine (Fine.keep0 k2)
            have k12 : Keep (Own γ1 σ) H1 H2 := k'.trans k2.any
            -- the patterns
            have pts : ∀ γ9, Pat γ3 γ9 → Pat (wipeG γ1 vs) (wipeG γ9 vs) := fun γ9 pq => by
              unfold Pat
              apply List.ext_getElem?
              intro j
              rw [List.getElem?_map, List.getElem?_map]
              by_cases hj : j ∈ vs
              · have l1 : (wipeG γ1 vs).length = γ9.length := by rw [← pq.length, ← E3.len, l3, wipe_length, wipeG_length, E1.len]
                rw [wipeG_length] at l1
                by_cases hl : j < γ1.length
                · rw [wipeG_in hl hj, wipeG_in (by rw [← l1]; exact hl) hj]
                · rw [List.getElem?_eq_none (by rw [wipeG_length]; omega), List.getElem?_eq_none (by rw [wipeG_length]; omega)]
              · rw [wipeG_out (γ := γ9) hj, ← pq.at j, (o3 j fun z => hj (hws j z)).2, pt'.at j]
            refine ⟨pens, adj M D, γ3, E3, ?_⟩
            cases ec : gc γ3 with
            | st => rw [ec] at el'; cases el'
            | ex _ _ => rw [ec] at el'; cases el'
            | ok k γ4 =>
              rw [ec] at el'
              intro H4 S4 P4
              have E4 := S4.env
              have nD4 : ∀ {γ9 : Gm}, Pat γ3 γ9 → ¬ Own γ9 σ3 D := fun pq z => nD (o31 D (pq.symm.Own z))
              have hD4 : H4 D = some (.lst us) := (S4.keep D _ hD2 (nD4 (Pat.refl _))).1 rfl
              have fk4 : Fine (adj M D) (adj M D) H2 H4 := Fine.keep S4.keep fun _ z => (E3.ownM z).1
              have rs4 := rs2.fine fk4
              have k14 : Keep (Own γ1 σ) H1 H4 := k12.trans (S4.keep.mono o31)
              cases k with
              | false =>
                rw [if_neg Bool.false_ne_true]
                have Ew := E4.wipe vs
                rw [hw3] at Ew
                exact ⟨acc, us, _, Ew, k14, pts _ S4.pat, hD4, rs4, Nat.le_succ_of_le hla, el'⟩
              | true =>
                rw [if_pos rfl]
                refine ⟨pens, adj M D, γ4, E4, ?_⟩
                simp only at el'
                cases ee : fe γ4 with
                | st => rw [ee] at el'; cases el'
                | ex _ _ => rw [ee] at el'; cases el'
                | ok yd γ5 =>
                  rw [ee] at el'
                  intro y H5 S5 P5 r5
                  have E5 := S5.env
                  have p35 := S4.pat.trans S5.pat
                  have hD5 : H5 D = some (.lst us) := (S5.keep D _ hD4 (nD4 S4.pat)).1 rfl
                  have fk5 : Fine (adj M D) (adj M D) H4 H5 := Fine.keep S5.keep fun _ z => (E4.ownM z).1
                  have rs5 := rs4.fine fk5
                  have k15 : Keep (Own γ1 σ) H1 H5 := k14.trans (S5.keep.mono fun b z => o31 b (S4.pat.symm.Own z))
                  have Ew := E5.wipe vs
                  rw [hw3] at Ew
                  refine ⟨us, hD5, by rw [rs5.length]; omega, acc ++ [yd], us ++ [y], _, Ew.poke (.inr rfl) hD5 (fun _ _ z => by cases z) (fun z => nD (Own.wipe (by
                    have := (pts _ p35).symm.Own z
                    exact this))), ?_, pts _ p35, upd_same, (rs5.append (.cons (show Rep C (adj M D) H5 y yd from r5) .nil)).fine (Fine.poke (.inr rfl)), by rw [List.length_append]; exact Nat.succ_le_succ hla, el'⟩
                  intro b u eb nb
                  have ne : b ≠ D := fun z => by rw [z, hD] at eb; cases eb
                  rw [upd_ne ne]
                  exact k15 b u eb nb
      · have e : i = xs.length := by omega
        subst e
        rw [List.drop_eq_nil_of_le (Nat.le_refl _)] at el'
        cases el'
        refine .inl ⟨io.2 _ (Nat.le_refl _), ?_⟩
        have hD0 : H D = none := S1.keep.free hD fun z => nD (S1.pat.Own z)
        refine h D H' hD0 (E1.unw E' okw (fun _ z => .inl z) fn' fun b ws sn => sn.keepN k' fun b' o' u' hb => E1.ownNF b' o' u' hb) (S1.keep.trans (k'.mono fun _ z => S1.pat.symm.Own z)) (S1.pat.trans pt'.unw) (fun z => by cases z) ⟨us, hD', rs'⟩
theorem fn_lc {elt tg iter : Expr} {ifs : List Expr} {scope : Scope} {own : List (Str × Nat)} {fi : F (List D)} {g : GD} {ws : List Nat} {fe : F D} (hc : X.calm = true) (hN : X.N.Nodup) (hi : FI C W p X tg iter fi) (ok : BlkOk X.N X.env.scope scope own)
    (hg : ∀ (s : Shared) (H : Hp) (Cd : Addr) (cl : List (Str × Addr)) (fp : List Addr), FG C (X.blk s H scope (compEnvC scope cl Cd X.env) fp) tg ws g) (ht : ∀ (s : Shared) (H : Hp) (Cd : Addr) (cl : List (Str × Addr)) (fp : List Addr), FTs C p1 (X.blk s H scope (compEnvC scope cl Cd X.env) fp) ifs gc)
    (he : ∀ (s : Shared) (H : Hp) (Cd : Addr) (cl : List (Str × Addr)) (fp : List Addr), FX C W0 true p2 (X.blk s H scope (compEnvC scope cl Cd X.env) fp) elt fe) (hws : ∀ j ∈ ws, j ∈ own.map (·.2) := by decide) (hs : ∀ x, foldedSetIterable iter X.env x = pure x := by intro _; rfl) :
    FN C W false X (.ListComp elt [⟨tg, iter, ifs, 0⟩] scope pos) (nLc fi g gc fe (own.map (·.2))) := PE.imp (pe_lc hc hN hi ok hg ht he hs) fun σ H Q h => lc_te hws h
theorem fs_setLc {y : Str} {py spos : Pos} {elt tg iter : Expr} {ifs : List Expr} {scope : Scope} {own : List (Str × Nat)} {fi : F (List D)} {g : GD} {ws : List Nat} {fe : F D} (hc : X.calm = true) (hN : X.N.Nodup) (hy : X.N[i]? = some y) (hyl : X.env.scope.names.lookup y = some .local)
    (hsw : swapsWith (.ListComp elt [⟨tg, iter, ifs, 0⟩] scope pos) (some (.Name y py)) spos.line X.env = pure true) (hi : FI C W p X tg iter fi) (ok : BlkOk X.N X.env.scope scope own)
    (hg : ∀ (s : Shared) (H : Hp) (Cd : Addr) (cl : List (Str × Addr)) (fp : List Addr), FG C (X.blk s H scope (compEnvC scope cl Cd X.env) fp) tg ws g) (ht : ∀ (s : Shared) (H : Hp) (Cd : Addr) (cl : List (Str × Addr)) (fp : List Addr), FTs C p1 (X.blk s H scope (compEnvC scope cl Cd X.env) fp) ifs gc)
    (he : ∀ (s : Shared) (H : Hp) (Cd : Addr) (cl : List (Str × Addr)) (fp : List Addr), FX C W0 true p2 (X.blk s H scope (compEnvC scope cl Cd X.env) fp) elt fe) (hws : ∀ j ∈ ws, j ∈ own.map (·.2) := by decide) (hs : ∀ x, foldedSetIterable iter X.env x = pure x := by intro _; rfl) :
    FS C W X (.Assign [.Name y py] (.ListComp elt [⟨tg, iter, ifs, 0⟩] scope pos) spos) (sSetNew i (nLc fi g gc fe (own.map (·.2)))) := PS.imp (ps_setLc hc hN hy hyl hsw hi ok hg ht he hs) fun D σ H ⟨pens, M, γ, E, h⟩ => by
  refine lc_te hws (W := W) ⟨pens, M, γ, E, ?_⟩
  unfold sSetNew at h
  cases ea : nLc fi g gc fe (own.map (·.2)) γ with
  | st => rw [bind_st ea] at h; exact h
  | ex x g => rw [bind_ex ea] at h; exact fun cls d H' S re => h cls d M σ H' S.env S.s re
  | ok o g =>
    rw [bind_ok ea] at h
    intro q H' hq E' k pt P r
    refine h (adj M q) _ H' (E'.setN (.inr rfl) r fun z => Own.tracked E hq (pt.symm.Own z)) ⟨k, fun b z => ?_, fun _ z _ => .inl z, fun b z => z.elim .inl fun e => .inr (by rw [e]; exact hq)⟩
    rcases Own.setN i q none o z with w | w
    · exact .inl (pt.symm.Own w)
    · exact .inr (by rw [w]; exact hq)
end
end FC
namespace FC
open PySem PySem.Spec PyProof.Rows L2
/-! ### calls of defs -/
def slotsOf : List AV → List Nat
  | [] => []
  | .s i :: as => i :: slotsOf as
  | _ :: as => slotsOf as
def bindA (γ : Gm) : Nat → List AV → Option (List SV)
  | _, [] => some []
  | k, .d x :: as => (bindA γ (k + 1) as).map (.val x :: ·)
  | k, .n o :: as => (bindA γ (k + 1) as).map (.own (some k) o :: ·)
  | k, .w xs :: as => (bindA γ (k + 1) as).map (.view xs :: ·)
  | k, .s i :: as => match γ[i]? with
    | some (.own _ o) => if i ∈ slotsOf as then none else (bindA γ (k + 1) as).map (.own (some k) o :: ·)
    | _ => none
def backG (g : Gm) : Nat → List AV → Gm → Option Gm
  | _, [], γ => some γ
  | k, .s i :: as, γ => match g[k]?, γ[i]? with
    | some (.own (some k') o'), some (.own t _) => if k' = k then backG g (k + 1) as (γ.set i (.own t o')) else none
    | _, _ => none
  | k, .d _ :: as, γ => backG g (k + 1) as γ
  | k, .n _ :: as, γ => backG g (k + 1) as γ
  | k, .w _ :: as, γ => backG g (k + 1) as γ
def padG (n : Nat) (svs : List SV) : Gm := svs ++ List.replicate (n - svs.length) .none
def penOf (vs : List V) : Nat → Addr := fun k => match vs[k]? with
  | some (.ref a) => a
  | _ => 0
theorem bindA_length {γ : Gm} : ∀ {as : List AV} {k : Nat} {svs : List SV}, bindA γ k as = some svs → svs.length = as.length
  | [], _, _, e => by cases e; rfl
  | .d x :: as, k, svs, e => by
    simp only [bindA, Option.map_eq_some_iff] at e
    obtain ⟨r, e1, rfl⟩ := e
    simp [bindA_length e1]
  | .n x :: as, k, svs, e => by
    simp only [bindA, Option.map_eq_some_iff] at e
    obtain ⟨r, e1, rfl⟩ := e
    simp [bindA_length e1]
  | .w x :: as, k, svs, e => by
    simp only [bindA, Option.map_eq_some_iff] at e
    obtain ⟨r, e1, rfl⟩ := e
    simp [bindA_length e1]
  | .s i :: as, k, svs, e => by
    simp only [bindA] at e
    split at e
    · split at e
      · cases e
      · simp only [Option.map_eq_some_iff] at e
        obtain ⟨r, e1, rfl⟩ := e
        simp [bindA_length e1]
    · cases e
/-- what the j-th argument becomes -/
theorem bindA_at {γ : Gm} : ∀ {as : List AV} {k : Nat} {svs : List SV}, bindA γ k as = some svs → ∀ {j : Nat} {sv : SV}, svs[j]? = some sv →
    (∃ x, as[j]? = some (.d x) ∧ sv = .val x) ∨ (∃ o, as[j]? = some (.n o) ∧ sv = .own (some (k + j)) o) ∨ (∃ xs, as[j]? = some (.w xs) ∧ sv = .view xs) ∨ ∃ (i : Nat) (t : Option Nat) (o : MO), as[j]? = some (.s i) ∧ γ[i]? = some (.own t o) ∧ sv = .own (some (k + j)) o
  | [], _, _, e, j, sv, h => by cases e; simp at h
  | .d x :: as, k, svs, e, j, sv, h => by
    simp only [bindA, Option.map_eq_some_iff] at e
    obtain ⟨r, e1, rfl⟩ := e
    cases j with
    | zero => cases h; exact .inl ⟨x, rfl, rfl⟩
    | succ j =>
      have q := bindA_at e1 (j := j) (sv := sv) (by simpa using h)
      rw [show k + 1 + j = k + (j + 1) by omega] at q
      simpa using q
  | .n x :: as, k, svs, e, j, sv, h => by
    simp only [bindA, Option.map_eq_some_iff] at e
    obtain ⟨r, e1, rfl⟩ := e
    cases j with
    | zero => cases h; exact .inr (.inl ⟨x, rfl, rfl⟩)
    | succ j =>
      have q := bindA_at e1 (j := j) (sv := sv) (by simpa using h)
      rw [show k + 1 + j = k + (j + 1) by omega] at q
      simpa using q
  | .w x :: as, k, svs, e, j, sv, h => by
    simp only [bindA, Option.map_eq_some_iff] at e
    obtain ⟨r, e1, rfl⟩ := e
    cases j with
    | zero => cases h; exact .inr (.inr (.inl ⟨x, rfl, rfl⟩))
    | succ j =>
      have q := bindA_at e1 (j := j) (sv := sv) (by simpa using h)
      rw [show k + 1 + j = k + (j + 1) by omega] at q
      simpa using q
  | .s i :: as, k, svs, e, j, sv, h => by
    simp only [bindA] at e
    split at e
    · rename_i t o eo
      split at e
      · cases e
      · simp only [Option.map_eq_some_iff] at e
        obtain ⟨r, e1, rfl⟩ := e
        cases j with
        | zero => cases h; exact .inr (.inr (.inr ⟨i, t, o, rfl, eo, rfl⟩))
        | succ j =>
          have q := bindA_at e1 (j := j) (sv := sv) (by simpa using h)
          rw [show k + 1 + j = k + (j + 1) by omega] at q
          simpa using q
    · cases e
theorem slotsOf_mem : ∀ {as : List AV} {i : Nat}, i ∈ slotsOf as ↔ ∃ j : Nat, as[j]? = some (.s i)
  | [], i => by simp [slotsOf]
  | a :: as, i => by
    have ih := slotsOf_mem (as := as) (i := i)
    have e : (∃ j : Nat, (a :: as)[j]? = some (.s i)) ↔ a = .s i ∨ ∃ j : Nat, as[j]? = some (.s i) := by
      constructor
      · rintro ⟨j, h⟩
        cases j with
        | zero => exact .inl (by simpa using h)
        | succ j => exact .inr ⟨j, by simpa using h⟩
      · rintro (h | ⟨j, h⟩)
        · exact ⟨0, by rw [h]; rfl⟩
        · exact ⟨j + 1, by simpa using h⟩
    rw [e]
    cases a with
    | s k => simp only [slotsOf, List.mem_cons, ih, AV.s.injEq, eq_comm]
    | d _ => simp [slotsOf, ih]
    | n _ => simp [slotsOf, ih]
    | w _ => simp [slotsOf, ih]
/-- two arguments are two slots -/
theorem bindA_inj {γ : Gm} : ∀ {as : List AV} {k : Nat} {svs : List SV}, bindA γ k as = some svs → ∀ {j l i : Nat}, as[j]? = some (.s i) → as[l]? = some (.s i) → j = l
  | [], _, _, _, j, l, i, h, _ => by simp at h
  | a :: as, k, svs, e, j, l, i, h1, h2 => by
    have rest : ∃ r, bindA γ (k + 1) as = some r := by
      cases a with
      | s m =>
        simp only [bindA] at e
        split at e
        · split at e
          · cases e
          · simp only [Option.map_eq_some_iff] at e
            obtain ⟨r, e1, _⟩ := e
            exact ⟨r, e1⟩
        · cases e
      | d _ => simp only [bindA, Option.map_eq_some_iff] at e; obtain ⟨r, e1, _⟩ := e; exact ⟨r, e1⟩
      | n _ => simp only [bindA, Option.map_eq_some_iff] at e; obtain ⟨r, e1, _⟩ := e; exact ⟨r, e1⟩
      | w _ => simp only [bindA, Option.map_eq_some_iff] at e; obtain ⟨r, e1, _⟩ := e; exact ⟨r, e1⟩
    obtain ⟨r, er⟩ := rest
    have no : ∀ l : Nat, a = .s i → as[l]? = some (.s i) → False := fun l ea el => by
      subst ea
      simp only [bindA] at e
      split at e
      · split at e
        · cases e
        · rename_i hn
          exact hn (slotsOf_mem.mpr ⟨l, el⟩)
      · cases e
    cases j with
    | zero =>
      cases l with
      | zero => rfl
      | succ l => exact (no l (by simpa using h1) (by simpa using h2)).elim
    | succ j =>
      cases l with
      | zero => exact (no j (by simpa using h2) (by simpa using h1)).elim
      | succ l => exact congrArg (· + 1) (bindA_inj er (by simpa using h1) (by simpa using h2))
/-- the slots behind the call -/
theorem backG_at {g : Gm} : ∀ {as : List AV} {k : Nat} {γ γ2 : Gm}, backG g k as γ = some γ2 → Pat γ γ2 ∧ (∀ j, j ∉ slotsOf as → γ2[j]? = γ[j]?) ∧ ∀ j i, as[j]? = some (.s i) → (∀ l, as[l]? = some (.s i) → l = j) → ∃ t o', g[k + j]? = some (.own (some (k + j)) o') ∧ γ2[i]? = some (.own t o') ∧ ∃ o, γ[i]? = some (.own t o)
  | [], _, γ, γ2, e => by
    cases e
    exact ⟨rfl, fun _ _ => rfl, fun j i h => by simp at h⟩
  | a :: as, k, γ, γ2, e => by
    by_cases hs : ∃ m, a = .s m
    · obtain ⟨m, rfl⟩ := hs
      simp only [backG] at e
      split at e
      · rename_i k' o' t o e1 e2
        split at e
        · rename_i hk
          subst hk
          obtain ⟨p1, p2, p3⟩ := backG_at e
          refine ⟨(Pat.put e2).trans p1, fun j hj => ?_, fun j i h hu => ?_⟩
          · simp only [slotsOf, List.mem_cons, not_or] at hj
            rw [p2 j hj.2, List.getElem?_set_ne fun z => hj.1 z.symm]
          · cases j with
            | zero =>
              have hm : m = i := by simpa using h
              subst hm
              have hn : m ∉ slotsOf as := fun z => by
                obtain ⟨l, hl⟩ := slotsOf_mem.mp z
                have := hu (l + 1) (by simpa using hl)
                omega
              exact ⟨t, o', by simpa using e1, by rw [p2 m hn, List.getElem?_set_self (List.getElem?_eq_some_iff.mp e2).1], o, e2⟩
            | succ j =>
              have h' : as[j]? = some (.s i) := by simpa using h
              obtain ⟨t3, o3, q1, q2, o4, q3⟩ := p3 j i h' fun l hl => by
                have := hu (l + 1) (by simpa using hl)
                omega
              have ne : m ≠ i := fun z => by
                subst z
                have := hu 0 (by simp)
                omega
              rw [List.getElem?_set_ne ne] at q3
              rw [show k' + 1 + j = k' + (j + 1) by omega] at q1
              exact ⟨t3, o3, q1, q2, o4, q3⟩
        · cases e
      · cases e
    · have e' : backG g (k + 1) as γ = some γ2 := by
        cases a with
        | s m => exact (hs ⟨m, rfl⟩).elim
        | d _ => exact e
        | n _ => exact e
        | w _ => exact e
      have es : slotsOf (a :: as) = slotsOf as := by
        cases a with
        | s m => exact (hs ⟨m, rfl⟩).elim
        | d _ => rfl
        | n _ => rfl
        | w _ => rfl
      obtain ⟨p1, p2, p3⟩ := backG_at e'
      refine ⟨p1, fun j hj => p2 j (by rw [← es]; exact hj), fun j i h hu => ?_⟩
      cases j with
      | zero => exact (hs ⟨i, by simpa using h⟩).elim
      | succ j =>
        obtain ⟨t3, o3, q1, q2, q3⟩ := p3 j i (by simpa using h) fun l hl => by
          have := hu (l + 1) (by simpa using hl)
          omega
        rw [show k + 1 + j = k + (j + 1) by omega] at q1
        exact ⟨t3, o3, q1, q2, q3⟩
theorem paired_at {α β : Type} {G : α → β → Prop} {l₁ : List α} {l₂ : List β} (h : Paired G l₁ l₂) : ∀ {i : Nat} {b : β}, l₂[i]? = some b → ∃ a, l₁[i]? = some a ∧ G a b := by
  induction h with
  | nil => intro i b e; simp at e
  | cons g r ih =>
    intro i b e
    cases i with
    | zero => cases e; exact ⟨_, rfl, g⟩
    | succ i => exact ih (i := i) (by simpa using e)
theorem fresh_at : ∀ {vs : List V} {as : List AV} {j : Nat} {a : Addr} {o : MO}, vs[j]? = some (.ref a) → as[j]? = some (.n o) → a ∈ freshA vs as
  | [], _, j, _, _, h, _ => by simp at h
  | _ :: _, [], j, _, _, _, h => by simp at h
  | v :: vs, av :: as, 0, a, o, h1, h2 => by
    cases h1
    cases h2
    exact List.mem_cons_self
  | v :: vs, av :: as, j + 1, a, o, h1, h2 => by
    have ih := fresh_at (vs := vs) (as := as) (j := j) (by simpa using h1) (by simpa using h2)
    cases v with
    | ref b => cases av with
      | n o' => exact List.mem_cons_of_mem _ ih
      | d _ => exact ih
      | s _ => exact ih
      | w _ => exact ih
    | _ => cases av <;> exact ih
theorem of_fresh : ∀ {vs : List V} {as : List AV} {a : Addr}, a ∈ freshA vs as → ∃ (j : Nat) (o : MO), vs[j]? = some (.ref a) ∧ as[j]? = some (.n o)
  | [], as, a, h => by cases as <;> cases h
  | v :: vs, [], a, h => by cases v <;> cases h
  | v :: vs, av :: as, a, h => by
    have down : a ∈ freshA vs as → ∃ (j : Nat) (o : MO), (v :: vs)[j]? = some (.ref a) ∧ (av :: as)[j]? = some (.n o) := fun h => by
      obtain ⟨j, o, h1, h2⟩ := of_fresh h
      exact ⟨j + 1, o, by simpa using h1, by simpa using h2⟩
    cases v with
    | ref b => cases av with
      | n o' =>
        rcases List.mem_cons.mp h with q | q
        · subst q; exact ⟨0, o', rfl, rfl⟩
        · exact down q
      | d _ => exact down h
      | s _ => exact down h
      | w _ => exact down h
    | _ => cases av <;> exact down h
theorem fresh_inj : ∀ {vs : List V} {as : List AV}, (freshA vs as).Nodup → ∀ {j l : Nat} {a : Addr} {o o' : MO}, vs[j]? = some (.ref a) → as[j]? = some (.n o) → vs[l]? = some (.ref a) → as[l]? = some (.n o') → j = l
  | [], as, _, j, l, a, o, o', h, _, _, _ => by simp at h
  | v :: vs, [], _, j, l, a, o, o', _, h, _, _ => by simp at h
  | v :: vs, av :: as, nd, j, l, a, o, o', h1, h2, h3, h4 => by
    have nd' : (freshA vs as).Nodup := by
      cases v with
      | ref b => cases av with
        | n _ => exact (List.nodup_cons.mp nd).2
        | d _ => exact nd
        | s _ => exact nd
        | w _ => exact nd
      | _ => cases av <;> exact nd
    have no : ∀ {l : Nat} {o o' : MO}, v = .ref a → av = .n o → vs[l]? = some (.ref a) → as[l]? = some (.n o') → False := fun e1 e2 e3 e4 => by
      subst e1 e2
      exact (List.nodup_cons.mp nd).1 (fresh_at e3 e4)
    cases j with
    | zero => cases l with
      | zero => rfl
      | succ l => exact (no (by simpa using h1) (by simpa using h2) (by simpa using h3) (by simpa using h4)).elim
    | succ j => cases l with
      | zero => exact (no (by simpa using h3) (by simpa using h4) (by simpa using h1) (by simpa using h2)).elim
      | succ l => exact congrArg (· + 1) (fresh_inj nd' (by simpa using h1) (by simpa using h2) (by simpa using h3) (by simpa using h4))
theorem start_at {N : List Str} {vs : List V} {j : Nat} {v : V} (h : vs[j]? = some v) : (L2.start N vs)[j]? = some (some v) := by
  unfold L2.start
  have hl : j < vs.length := (List.getElem?_eq_some_iff.mp h).1
  rw [List.getElem?_append_left (by simpa using hl), List.getElem?_map, h]
  rfl
theorem padG_at {n : Nat} {svs : List SV} {j : Nat} {sv : SV} (h : (padG n svs)[j]? = some sv) : svs[j]? = some sv ∨ (svs.length ≤ j ∧ sv = .none) := by
  unfold padG at h
  by_cases hl : j < svs.length
  · rw [List.getElem?_append_left hl] at h
    exact .inl h
  · rw [List.getElem?_append_right (by omega), List.getElem?_replicate] at h
    split at h
    · exact .inr ⟨by omega, (Option.some.inj h).symm⟩
    · cases h
section
variable {C : Ct} {W : WX} {pens : Nat → Addr} {M M1 M' : Addr → Prop} {γ γ1 γ2 g : Gm} {σ σ' : L2.St} {H H1 H' : Hp} {vs : List V} {as : List AV} {svs : List SV} {N : List Str}
theorem bind_at (E1 : EnvRep C pens M1 γ1 σ H1) (hb : bindA γ1 0 as = some svs) (A : AsOk C M1 H H1 σ γ1 vs as) {j : Nat} {t : Option Nat} {o : MO} (h : (padG N.length svs)[j]? = some (.own t o)) :
    (∃ a, vs[j]? = some (.ref a) ∧ as[j]? = some (.n o) ∧ t = some j ∧ M1 a ∧ ORep C M1 H1 a o ∧ a ∈ freshA vs as) ∨
    ∃ (i : Nat) (t' : Option Nat) (a : Addr), as[j]? = some (.s i) ∧ γ1[i]? = some (.own t' o) ∧ t = some j ∧ vs[j]? = some (.ref a) ∧ σ[i]? = some (some (.ref a)) ∧ M1 a ∧ ORep C M1 H1 a o := by
  rcases padG_at h with q | q
  · rcases bindA_at hb q with ⟨x, _, e⟩ | ⟨o', e1, e⟩ | ⟨xs, _, e⟩ | ⟨i, t', o', e1, e2, e⟩
    · cases e
    · cases e
      obtain ⟨v, e2, a, rfl, m, r⟩ := paired_at A.ok e1
      rw [Nat.zero_add]
      exact .inl ⟨a, e2, e1, rfl, m, r, fresh_at e2 e1⟩
    · cases e
    · cases e
      obtain ⟨v, e3, e4, _⟩ := paired_at A.ok e1
      rw [Nat.zero_add]
      obtain ⟨x, h1, a, h2, m, r, _⟩ := E1.slot e2
      rw [h2] at h1
      rw [h1] at e4
      cases e4
      exact .inr ⟨i, t', a, e1, e2, rfl, e3, h1, m, r⟩
  · cases q.2
theorem own_vs (E1 : EnvRep C pens M1 γ1 σ H1) (hb : bindA γ1 0 as = some svs) (A : AsOk C M1 H H1 σ γ1 vs as) {c : Addr} (h : Own (padG N.length svs) (L2.start N vs) c) :
    (c ∈ freshA vs as) ∨ ∃ (i j : Nat) (t' : Option Nat) (o : MO), as[j]? = some (.s i) ∧ γ1[i]? = some (.own t' o) ∧ σ[i]? = some (some (.ref c)) ∧ vs[j]? = some (.ref c) := by
  obtain ⟨j, t, o, h1, h2⟩ := h
  rcases bind_at E1 hb A h1 with ⟨a, e1, e2, rfl, m, r, fr⟩ | ⟨i, t', a, e1, e2, e3, e4, e5, m, r⟩
  · rw [start_at e1] at h2
    cases h2
    exact .inl fr
  · rw [start_at e4] at h2
    cases h2
    exact .inr ⟨i, j, t', o, e1, e2, e5, e4⟩
theorem bind_env (E1 : EnvRep C pens M1 γ1 σ H1) (hb : bindA γ1 0 as = some svs) (A : AsOk C M1 H H1 σ γ1 vs as) (E : EnvRep C pens M γ σ H) (pt : Pat γ γ1) (hN : as.length ≤ N.length) : EnvRep C (penOf vs) M1 (padG N.length svs) (L2.start N vs) H1 := by
  have hlv : vs.length = as.length := Paired.length A.ok
  have hls := bindA_length hb
  refine ⟨?_, fun j sv x h1 h2 => ?_, fun j l t o t' o' a h1 h2 h3 h4 => ?_, E1.dom, E1.tab⟩
  · unfold L2.start padG
    simp only [List.length_append, List.length_map, List.length_replicate]
    omega
  · rcases padG_at h1 with q | q
    · rcases bindA_at hb q with ⟨y, e1, rfl⟩ | ⟨o', e1, rfl⟩ | ⟨xs, e1, rfl⟩ | ⟨i, t', o', e1, e2, rfl⟩
      · obtain ⟨v, e2, r⟩ := paired_at A.ok e1
        rw [start_at e2] at h2
        cases h2
        exact ⟨v, rfl, r⟩
      · obtain ⟨v, e2, a, rfl, m, r⟩ := paired_at A.ok e1
        rw [start_at e2] at h2
        cases h2
        refine ⟨a, rfl, m, r, fun k z => ?_⟩
        cases z
        rw [Nat.zero_add]
        unfold penOf
        rw [e2]
      · obtain ⟨v, e2, a, us, rfl, s, r⟩ := paired_at A.ok e1
        rw [start_at e2] at h2
        cases h2
        exact ⟨a, us, rfl, s, r⟩
      · rcases bind_at (N := N) E1 hb A h1 with ⟨a, z1, z2, _⟩ | ⟨i', t'', a, z1, z2, z3, z4, z5, m, r⟩
        · rw [e1] at z2
          cases z2
        · rw [start_at z4] at h2
          cases h2
          refine ⟨a, rfl, m, r, fun k z => ?_⟩
          cases z
          rw [Nat.zero_add]
          unfold penOf
          rw [z4]
    · rw [q.2]; trivial
  · rcases bind_at E1 hb A h1 with ⟨a1, e1, e2, rfl, m, r, fr⟩ | ⟨i, t'', a1, e1, e2, e3, e4, e5, m, r⟩
    · rw [start_at e1] at h3
      cases h3
      rcases bind_at E1 hb A h2 with ⟨a2, k1, k2, rfl, _, _, _⟩ | ⟨i, t'', a2, k1, k2, k3, k4, k5, _⟩
      · rw [start_at k1] at h4
        cases h4
        exact fresh_inj A.nd e1 e2 k1 k2
      · rw [start_at k4] at h4
        cases h4
        exact (Own.tracked E (A.fr _ fr) (pt.symm.Own ⟨i, t'', o', k2, k5⟩)).elim
    · rw [start_at e4] at h3
      cases h3
      rcases bind_at E1 hb A h2 with ⟨a2, k1, k2, rfl, _, _, fr⟩ | ⟨i', t3, a2, k1, k2, k3, k4, k5, _⟩
      · rw [start_at k1] at h4
        cases h4
        exact (Own.tracked E (A.fr _ fr) (pt.symm.Own ⟨i, t'', o, e2, e5⟩)).elim
      · rw [start_at k4] at h4
        cases h4
        have ei := E1.inj i i' _ _ _ _ _ e2 k2 e5 k5
        subst ei
        exact bindA_inj hb e1 k1
/-- the caller's slots behind the call -/
theorem call_core (E : EnvRep C pens M γ σ H) (E1 : EnvRep C pens M1 γ1 σ H1) (k1 : Keep (Own γ σ) H H1) (pt : Pat γ γ1) (up1 : ∀ a, M a → M1 a) (dn1 : ∀ a, M1 a → M a ∨ a ∈ freshA vs as) (A : AsOk C M1 H H1 σ γ1 vs as)
    (hN : as.length ≤ N.length) (hb : bindA γ1 0 as = some svs) (hk : backG g 0 as γ1 = some γ2) (E' : EnvRep C (penOf vs) M' g σ' H') (S : StpS M1 (L2.start N vs) (padG N.length svs) H1 M' σ' g H') {M2 : Addr → Prop} (u2 : ∀ c, M c → M2 c) (d2 : ∀ c, M2 c → M c ∨ (M' c ∧ H c = none)) :
    EnvRep C pens M2 γ2 σ H' ∧ Keep (Own γ σ) H H' ∧ Pat γ γ2 ∧ (∀ c o, H' c = some o → M2 c → M' c) := by
  obtain ⟨p1, p2, p3⟩ := backG_at hk
  -- the callee's own things
  have ow : ∀ c, Own (padG N.length svs) (L2.start N vs) c → c ∈ freshA vs as ∨ Own γ σ c := fun c z => (own_vs E1 hb A z).imp id fun ⟨i, j, t', o, e1, e2, e3, e4⟩ => pt.symm.Own ⟨i, t', o, e2, e3⟩
  have back : ∀ {i j : Nat} {c : Addr}, as[j]? = some (.s i) → σ[i]? = some (some (.ref c)) → ∃ t o' o, γ2[i]? = some (.own t o') ∧ γ1[i]? = some (.own t o) ∧ M' c ∧ ORep C M' H' c o' ∧ Own g σ' c := fun {i j c} e1 e2 => by
    obtain ⟨t, o', q1, q2, o, q3⟩ := p3 j i e1 fun l hl => bindA_inj hb hl e1
    rw [Nat.zero_add] at q1
    obtain ⟨x, h1, b, h2, m, r, tg⟩ := E'.slot q1
    have hv : vs[j]? = some (.ref c) := by
      obtain ⟨v, e3, e4, _⟩ := paired_at A.ok e1
      rw [e2] at e4
      cases e4
      exact e3
    have hp : penOf vs j = c := by unfold penOf; rw [hv]
    have hbc : c = b := by rw [← hp]; exact tg j rfl
    subst hbc
    subst h2
    exact ⟨t, o', o, q2, q3, m, r, j, _, _, q1, h1⟩
  have m2m' : ∀ c o, H' c = some o → M2 c → M' c := fun c o e z => by
    rcases d2 c z with q | q
    · by_cases oc : Own (padG N.length svs) (L2.start N vs) c
      · rcases own_vs E1 hb A oc with fr | ⟨i, j, t', o2, e1, e2, e3, e4⟩
        · obtain ⟨u, eu⟩ := E.dom c q
          rw [A.fr c fr] at eu
          cases eu
        · obtain ⟨_, _, _, _, _, m, _⟩ := back e1 e3
          exact m
      · exact S.up c (up1 c q) oc
    · exact q.1
  have fk : Fine M1 M2 H1 H' := ⟨fun c o e n t => (S.keep c o e fun z => n ((bind_env E1 hb A E pt hN).ownM z).1).1 t, fun c o e z => by
    rcases d2 c z with q | q
    · exact up1 c q
    · exact (S.dn c q.1).elim id fun q => by rw [q] at e; cases e⟩
  have kk : Keep (Own γ σ) H H' := fun c o e n => by
    have n1 : ¬ Own (padG N.length svs) (L2.start N vs) c := fun z => (ow c z).elim (fun q => by rw [A.fr c q] at e; cases e) n
    cases t : isTbl o with
    | false =>
      have e1 := (k1 c o e n).1 t
      exact ⟨fun _ => (S.keep c o e1 n1).1 t, fun z => by cases z⟩
    | true =>
      obtain ⟨o1, e1, t1, _⟩ := (k1 c o e n).2 t
      exact ⟨fun z => (by cases z), fun _ => (S.keep c o1 e1 n1).2 t1⟩
  have wk : Fine M' M2 H' H' := Fine.weak m2m'
  refine ⟨⟨by rw [← p1.length, E1.len], fun j sv x h1 h2 => ?_, fun j l t o t' o' a h1 h2 h3 h4 => ?_, fun c z => ?_, E'.tab⟩, kk, pt.trans p1, m2m'⟩
  · by_cases hj : j ∈ slotsOf as
    · obtain ⟨k, ek⟩ := slotsOf_mem.mp hj
      obtain ⟨t, o', q1, q2, o, q3⟩ := p3 k j ek fun l hl => bindA_inj hb hl ek
      obtain ⟨y, y1, a, y2, ma, ra, tg⟩ := E1.slot q3
      rw [h2] at y1
      cases y1
      subst y2
      obtain ⟨t2, o2, o3, w1, w2, m, r, _⟩ := back ek h2
      rw [h1] at w1
      cases w1
      rw [q3] at w2
      cases w2
      exact ⟨a, rfl, u2 a (E.ownM (pt.symm.Own ⟨j, t, o, q3, h2⟩)).1, r.fine wk (fun _ e _ => e), tg⟩
    · rw [p2 j hj] at h1
      have q := E1.ok j sv x h1 h2
      cases sv with
      | none => trivial
      | val d => obtain ⟨v, e, r⟩ := q; exact ⟨v, e, r.fine fk⟩
      | view xs =>
        obtain ⟨a, us, e, s, r⟩ := q
        refine ⟨a, us, e, s.keepN S.keep fun b o u hb' z => ?_, r.fine fk⟩
        exact (bind_env E1 hb A E pt hN).ownNF b o u hb' z
      | own t o =>
        obtain ⟨a, e, m, r, tg⟩ := q
        subst e
        have oa : Own γ σ a := pt.symm.Own ⟨j, t, o, h1, h2⟩
        refine ⟨a, rfl, u2 a (E.ownM oa).1, r.fine fk fun u hu ht => (S.keep a u hu fun z => ?_).1 ht, tg⟩
        rcases own_vs E1 hb A z with fr | ⟨i, k, t', o2, e1, e2, e3, e4⟩
        · exact Own.tracked E (A.fr a fr) oa
        · have ei := E1.inj j i _ _ _ _ _ h1 e2 h2 e3
          subst ei
          exact hj (slotsOf_mem.mpr ⟨k, e1⟩)
  · obtain ⟨o3, k3⟩ := p1.symm.own h1
    obtain ⟨o4, k4⟩ := p1.symm.own h2
    exact E1.inj j l _ _ _ _ a k3 k4 h3 h4
  · rcases d2 c z with q | q
    · obtain ⟨o, e⟩ := E1.dom c (up1 c q)
      by_cases n : Own (padG N.length svs) (L2.start N vs) c
      · rcases own_vs E1 hb A n with fr | ⟨i, j, t', o2, e1, e2, e3, e4⟩
        · obtain ⟨u, eu⟩ := E.dom c q
          rw [A.fr c fr] at eu
          cases eu
        · obtain ⟨_, _, _, _, _, m, _⟩ := back e1 e3
          exact E'.dom c m
      · exact S.keep.there e n
    · exact E'.dom c q.1
end
end FC
namespace FC
open PySem PySem.Spec PyProof.Rows L2
/-! ### what a def promises -/
abbrev WofE (E : XK) : WX := fun cls d _ H => E cls d H
def spF (C : Ct) (N : List Str) (n : Nat) (b : F Fl) : Sp := fun vs H Q E => vs.length = n ∧ ∃ pens M γ, EnvRep C pens M γ (L2.start N vs) H ∧ aftS C (WofE E) pens M (L2.start N vs) γ H (b γ) { nx := fun _ H' => Q .non H', rt := Q }
section
variable {P : Program} {w : World} {K : PySem.W.Frag} {mg : Str → Option Value} {base : Heap} {x qual : Str} {params : Arguments} {body : List Stmt} {scope : Scope} {f : Addr} {fd : FuncData} {N ps : List Str} {k : Nat} {b : F Fl} {C : Ct}
/-- a def keeps its promise -/
def FnF (P : Program) (w : World) (K : PySem.W.Frag) (mg : Str → Option Value) (base : Heap) (C : Ct) (k : Nat) (f : Addr) (fd : FuncData) (ps N : List Str) (b : F Fl) : Prop := FnOk P w K mg base (L2.CX P w) k f fd ps (spF C N ps.length b)
theorem FnF.mono {j : Nat} (F : FnF P w K mg base C j f fd ps N b) (h : j ≤ k) : FnF P w K mg base C k f fd ps N b := FnOk.mono F h
/-- the context of a body -/
abbrev bcx (P : Program) (w : World) (K : PySem.W.Frag) (mg : Str → Option Value) (base : Heap) (N : List Str) (qual : Str) (scope : Scope) (f : Addr) (cdv : Value) (A : Around) (outer : List Env) (s : Shared) (H : Hp) (E : XK) : Cx := cxOf (L2.CX P w) P w K mg base N qual scope f cdv A outer s H E
theorem take_bcx {cdv : Value} {A : Around} {outer : List Env} {s : Shared} {H : Hp} {E : XK} : Takes (bcx P w K mg base N qual scope f cdv A outer s H E) (WofE E) := takes_of rfl rfl rfl rfl
theorem pass_bcx {cdv : Value} {A : Around} {outer : List Env} {s : Shared} {H : Hp} {E : XK} : PassesOwn (model P w) (bcx P w K mg base N qual scope f cdv A outer s H E).A (bcx P w K mg base N qual scope f cdv A outer s H E).env (bcx P w K mg base N qual scope f cdv A outer s H E).xe := passes_of rfl
end
/-! ### the calls -/
/-- the outcome of a call: what comes back, the callee's slots, the caller's -/
def callR (N : Nat) (b : F Fl) (as : List AV) (γ : Gm) : R (RV × Gm) := match bindA γ 0 as with
  | none => .st
  | some svs => match b (padG N svs) with
    | .ok .nx g => (match backG g 0 as γ with | some γ2 => .ok (.val .non, g) γ2 | none => .st)
    | .ok (.ret r) g => (match backG g 0 as γ with | some γ2 => .ok (r, g) γ2 | none => .st)
    | .ex e g => (match backG g 0 as γ with | some γ2 => .ex e γ2 | none => .st)
    | _ => .st
def RV.d : RV → D
  | .val d => d
  | .own o => o.d
def rvO : RV → Option MO
  | .own o => some o
  | _ => none
def fCall (N : Nat) (b : F Fl) (fr : F (List AV)) : F D := F.bind fr fun as => F.bind (callR N b as) fun r γ => .ok r.1.d γ
def nCall (N : Nat) (b : F Fl) (fr : F (List AV)) : F MO := F.bind fr fun as => F.bind (callR N b as) fun r => liftO (rvO r.1)
def RVn (C : Ct) (M' : Addr → Prop) (H' H : Hp) (v : V) : RV → Prop
  | .val d => Rep C M' H' v d
  | .own o => ∃ a, v = .ref a ∧ M' a ∧ ORep C M' H' a o ∧ H a = none
/-- what is known behind a call -/
structure Aft (C : Ct) (pens : Nat → Addr) (M : Addr → Prop) (σ : L2.St) (γ : Gm) (H : Hp) (vs : List V) (g γ2 : Gm) (M' : Addr → Prop) (H' : Hp) : Prop where
  env : ∀ M2 : Addr → Prop, (∀ c, M c → M2 c) → (∀ c, M2 c → M c ∨ (M' c ∧ H c = none)) → EnvRep C pens M2 γ2 σ H' ∧ Keep (Own γ σ) H H' ∧ Pat γ γ2 ∧ (∀ c o, H' c = some o → M2 c → M' c)
  arg : ∀ (j : Nat) (o' : MO) (a : Addr), g[j]? = some (.own (some j) o') → vs[j]? = some (.ref a) → M' a ∧ ORep C M' H' a o'
/-- behind the arguments: the callee's promise is met, whatever is wished of the outcome -/
theorem call_sp {C : Ct} {W : WX} {pens : Nat → Addr} {M M1 : Addr → Prop} {γ γ1 : Gm} {σ : L2.St} {H H1 : Hp} {vs : List V} {as : List AV} {N : List Str} {n : Nat} {b : F Fl} {Q : VK} (hn : n = as.length) (hN : as.length ≤ N.length)
    (E : EnvRep C pens M γ σ H) (E1 : EnvRep C pens M1 γ1 σ H1) (k1 : Keep (Own γ σ) H H1) (pt : Pat γ γ1) (up1 : ∀ a, M a → M1 a) (dn1 : ∀ a, M1 a → M a ∨ a ∈ freshA vs as) (A : AsOk C M1 H H1 σ γ1 vs as)
    (h : match callR N.length b as γ1 with
      | .ok r γ2 => ∀ v H' M', Aft C pens M σ γ H vs r.2 γ2 M' H' → RVn C M' H' H v r.1 → Q v H'
      | .ex e γ2 => ∀ cls d H', Stp C pens M σ γ H γ2 H' → ExRep C M e cls d H' → W cls d σ H'
      | .st => False) : spF C N n b vs H1 Q (WE W σ) := by
  have hlv : vs.length = as.length := Paired.length A.ok
  refine ⟨hlv.trans hn.symm, ?_⟩
  unfold callR at h
  cases hb : bindA γ1 0 as with
  | none => rw [hb] at h; exact h.elim
  | some svs =>
    rw [hb] at h
    simp only at h
    have Ec := bind_env E1 hb A E pt hN
    refine ⟨penOf vs, M1, padG N.length svs, Ec, ?_⟩
    have arg : ∀ {M' : Addr → Prop} {σ' : L2.St} {g : Gm} {H' : Hp}, EnvRep C (penOf vs) M' g σ' H' → ∀ (j : Nat) (o' : MO) (a : Addr), g[j]? = some (.own (some j) o') → vs[j]? = some (.ref a) → M' a ∧ ORep C M' H' a o' ∧ Own g σ' a := fun {M' σ' g H'} E' j o' a q1 q2 => by
      obtain ⟨x, h1, b', h2, m, r, tg⟩ := E'.slot q1
      have hp : penOf vs j = a := by unfold penOf; rw [q2]
      have hbc : a = b' := by rw [← hp]; exact tg j rfl
      subst hbc
      subst h2
      exact ⟨m, r, j, _, _, q1, h1⟩
    -- what comes back
    have rv : ∀ {v : V} {r : RV} {M' : Addr → Prop} {σ' : L2.St} {g γ2 : Gm} {H' : Hp}, EnvRep C (penOf vs) M' g σ' H' → backG g 0 as γ1 = some γ2 → RVok C M' (L2.start N vs) (padG N.length svs) H1 σ' g H' v r → RVn C M' H' H v r := fun {v r M' σ' g γ2 H'} E' hk k => by
      cases r with
      | val d => exact k
      | own o =>
        obtain ⟨a, ev, ma, ra, no, q⟩ := k
        refine ⟨a, ev, ma, ra, ?_⟩
        rcases q with q | q
        · exact k1.free q fun z => Own.tracked E1 q (pt.Own z)
        · rcases own_vs E1 hb A q with fr | ⟨i, j, t', o2, e1, e2, e3, e4⟩
          · exact A.fr a fr
          · obtain ⟨p1, p2, p3⟩ := backG_at hk
            obtain ⟨t, o', q1, q2, o, q3⟩ := p3 j i e1 fun l hl => bindA_inj hb hl e1
            rw [Nat.zero_add] at q1
            exact (no (arg E' j _ a q1 e4).2.2).elim
    have af : ∀ {M' : Addr → Prop} {σ' : L2.St} {g γ2 : Gm} {H' : Hp}, EnvRep C (penOf vs) M' g σ' H' → StpS M1 (L2.start N vs) (padG N.length svs) H1 M' σ' g H' → backG g 0 as γ1 = some γ2 → Aft C pens M σ γ H vs g γ2 M' H' := fun {M' σ' g γ2 H'} E' S' hk =>
      ⟨fun M2 a1 a2 => call_core E E1 k1 pt up1 dn1 A hN hb hk E' S' a1 a2, fun j o' a q1 q2 => let z := arg E' j o' a q1 q2; ⟨z.1, z.2.1⟩⟩
    cases ec : b (padG N.length svs) with
    | st => rw [ec] at h; exact h
    | ex e g =>
      rw [ec] at h
      simp only at h
      cases hk : backG g 0 as γ1 with
      | none => rw [hk] at h; exact h.elim
      | some γ2 =>
        rw [hk] at h
        intro cls d M' σ' H' E' S' re
        obtain ⟨c1, c2, c3, c4⟩ := call_core E E1 k1 pt up1 dn1 A hN hb hk E' S' (M2 := M) (fun _ z => z) (fun _ z => .inl z)
        exact h cls d H' ⟨c1, c2, c3⟩ ⟨re.1, re.2.imp id fun ⟨dx, vs, a1, a2, a3⟩ => ⟨dx, vs, a1, a2, a3.fine (Fine.weak c4)⟩⟩
    | ok fl g =>
      rw [ec] at h
      cases fl with
      | brk => exact h.elim
      | ct => exact h.elim
      | nx =>
        simp only at h
        cases hk : backG g 0 as γ1 with
        | none => rw [hk] at h; exact h.elim
        | some γ2 =>
          rw [hk] at h
          exact fun M' σ' H' E' S' => h .non H' M' (af E' S' hk) .non
      | ret r =>
        simp only at h
        cases hk : backG g 0 as γ1 with
        | none => rw [hk] at h; exact h.elim
        | some γ2 =>
          rw [hk] at h
          exact fun v M' σ' H' E' S' k => h v H' M' (af E' S' hk) (rv E' hk k)
/-- behind a call, as data -/
theorem Aft.rep {C : Ct} {pens : Nat → Addr} {M : Addr → Prop} {σ : L2.St} {γ : Gm} {H : Hp} {vs : List V} {g γ2 : Gm} {M' : Addr → Prop} {H' : Hp} (A : Aft C pens M σ γ H vs g γ2 M' H') (E : EnvRep C pens M γ σ H) {v : V} {r : RV} (k : RVn C M' H' H v r) : Stp C pens M σ γ H γ2 H' ∧ Rep C M H' v r.d := by
  obtain ⟨c1, c2, c3, c4⟩ := A.env M (fun _ z => z) fun _ z => .inl z
  refine ⟨⟨c1, c2, c3⟩, ?_⟩
  cases r with
  | val d => exact Rep.fine (Fine.weak c4) (show Rep C M' H' v d from k)
  | own o =>
    obtain ⟨a, rfl, ma, ra, ha0⟩ := k
    have na : ¬ M a := notM E.dom ha0
    cases o with
    | lst xs => obtain ⟨vs, e1, e2⟩ := ra; exact .lst e1 na (e2.fine (Fine.weak c4))
    | ins c fs => obtain ⟨dx, vs, e1, e2⟩ := ra; exact .ins e1 na (e2.fine (Fine.weak c4))
/-- an expression that is a call: as data -/
theorem fx_of_call {C : Ct} {W : WX} {X : Cx} {e : Expr} {N : List Str} {n : Nat} {b : F Fl} {p : Bool} {fr : F (List AV)} {es : List Expr} (mk : ∀ ta, PA X es ta → PE X e (fun σ H Q => ta σ H fun vs H1 => spF C N n b vs H1 Q (WE W σ))) (ha : FA C W p X es fr) (hn : ∀ γ as γ1, fr γ = .ok as γ1 → n = as.length) (hN : n ≤ N.length) : FX C W true false X e (fCall N.length b fr) :=
  PE.imp (mk _ ha) fun σ H Q ⟨pens, M, γ, E, h⟩ => by
  refine ⟨pens, M, γ, E, ?_⟩
  unfold fCall at h
  cases ea : fr γ with
  | st => rw [bind_st ea] at h; exact h
  | ex x γ' => rw [bind_ex ea] at h; exact aftA_ex E h
  | ok as γ1 =>
    rw [bind_ok ea] at h
    intro vs H1 M1 E1 k1 pt P1 up1 dn1 A
    have hl := hn _ _ _ ea
    refine call_sp hl (by rw [← hl]; exact hN) E E1 k1 pt up1 dn1 A ?_
    cases ec : callR N.length b as γ1 with
    | st => rw [bind_st ec] at h; exact h
    | ex e γ2 => rw [bind_ex ec] at h; exact h
    | ok r γ2 =>
      rw [bind_ok ec] at h
      intro v H' M' af rr
      obtain ⟨S, r2⟩ := af.rep E rr
      exact h v H' S (fun z => by cases z) r2
theorem fn_of_call {C : Ct} {W : WX} {X : Cx} {e : Expr} {N : List Str} {n : Nat} {b : F Fl} {p : Bool} {fr : F (List AV)} {es : List Expr} (mk : ∀ ta, PA X es ta → PE X e (fun σ H Q => ta σ H fun vs H1 => spF C N n b vs H1 Q (WE W σ))) (ha : FA C W p X es fr) (hn : ∀ γ as γ1, fr γ = .ok as γ1 → n = as.length) (hN : n ≤ N.length) : FN C W false X e (nCall N.length b fr) :=
  PE.imp (mk _ ha) fun σ H Q ⟨pens, M, γ, E, h⟩ => by
  refine ⟨pens, M, γ, E, ?_⟩
  unfold nCall at h
  cases ea : fr γ with
  | st => rw [bind_st ea] at h; exact h
  | ex x γ' => rw [bind_ex ea] at h; exact aftA_ex E h
  | ok as γ1 =>
    rw [bind_ok ea] at h
    intro vs H1 M1 E1 k1 pt P1 up1 dn1 A
    have hl := hn _ _ _ ea
    refine call_sp hl (by rw [← hl]; exact hN) E E1 k1 pt up1 dn1 A ?_
    cases ec : callR N.length b as γ1 with
    | st => rw [bind_st ec] at h; exact h
    | ex e γ2 => rw [bind_ex ec] at h; exact h
    | ok r γ2 =>
      obtain ⟨r, g⟩ := r
      rw [bind_ok ec] at h
      intro v H' M' af rr
      cases r with
      | val d => exact h.elim
      | own o =>
        obtain ⟨a, rfl, ma, ra, ha0⟩ := rr
        obtain ⟨c1, c2, c3, c4⟩ := af.env (adj M a) (fun _ z => .inl z) fun c z => z.imp id fun q => by rw [q]; exact ⟨ma, ha0⟩
        exact h a H' ha0 c1 c2 c3 (fun z => by cases z) (ra.fine (Fine.weak c4) fun _ e _ => e)
/-- the number of arguments -/
def ArgsN (n : Nat) (fr : F (List AV)) : Prop := ∀ γ as γ1, fr γ = .ok as γ1 → n = as.length
theorem an_nil : ArgsN 0 aNil := fun γ as γ1 e => by cases e; rfl
theorem an_val {n : Nat} {fa : F D} {fr : F (List AV)} (h : ArgsN n fr) : ArgsN (n + 1) (aVal fa fr) := fun γ as γ1 e => by
  unfold aVal F.bind at e
  split at e
  · rename_i d γ' _
    simp only at e
    split at e
    · rename_i as' γ'' q
      cases e
      rw [h _ _ _ q]
      rfl
    · cases e
    · cases e
  · cases e
  · cases e
theorem an_var {n i : Nat} {fr : F (List AV)} (h : ArgsN n fr) : ArgsN (n + 1) (aVar i fr) := fun γ as γ1 e => by
  unfold aVar at e
  have go : ∀ av : AV, F.bind fr (fun as γ => .ok (av :: as) γ) γ = .ok as γ1 → n + 1 = as.length := fun av e => by
    unfold F.bind at e
    split at e
    · rename_i as' γ'' q
      cases e
      rw [h _ _ _ q]
      rfl
    · cases e
    · cases e
  split at e
  · exact go _ e
  · exact go _ e
  · exact go _ e
  · cases e
end FC
namespace FC
open PySem PySem.Spec PyProof.Rows L2
/-! ### objects -/
section
variable {C : Ct} {W : WX} {X : Cx} {m p m1 p1 m2 p2 : Bool} {a b e' e : Expr} {es : List Expr} {fa fb : F D} {fr : F (List AV)} {x : Str} {pn pos : Pos} {i : Nat}
theorem SRep.insH {M : Addr → Prop} {H : Hp} {x : V} {c : Nat} {fs : List (Str × D)} (s : SRep C M H x (.ins c fs)) : ∃ a dx vfs, x = .ref a ∧ H a = some (.ins (C.cl c) dx vfs) ∧ RepF C M H vfs fs := by
  cases s with
  | rep r => cases r with
    | ins e n r => exact ⟨_, _, _, rfl, e, r⟩
  | ins e r => exact ⟨_, _, _, rfl, e, r⟩
/-- e.f, a field of an instance of one of these classes -/
def dFld (cs : List Nat) (f : Str) : D → Option D
  | .ins c fs => if c ∈ cs then fs.lookup f else none
  | _ => none
theorem fx_fld {cs : List Nat} {f : Str} (hc : ∀ c ∈ cs, Cls X.K (C.cl c) ∧ NoAttr X.K (C.cl c) f) (ha : FX C W m p X e fa) (hb : attributeBase e f X.env (eval e X.env) = eval e X.env := by rfl) : FX C W true p X (.Attribute e f pos) (f1 (dFld cs f) fa) :=
  fx1 (r := fun x H1 Q => ∃ a C dx fs v, x = .ref a ∧ H1 a = some (.ins C dx fs) ∧ Cls X.K C ∧ NoAttr X.K C f ∧ fs.lookup f = some v ∧ Q v H1) ha (fun ta h => pe_fld h hb) fun M H x dx d Q hd sx eg k => by
    cases dx with
    | ins c fs =>
      simp only [dFld] at eg
      split at eg
      · rename_i hm
        obtain ⟨a, dx, vfs, e1, e2, r⟩ := sx.insH
        obtain ⟨v, g1, g2⟩ := r.lookup eg
        exact ⟨a, _, dx, vfs, v, e1, e2, (hc c hm).1, (hc c hm).2, g1, k v H (Keep.refl _ _) g2⟩
      · cases eg
    | _ => cases eg
def putD (f : Str) (v : D) : List (Str × D) → List (Str × D)
  | [] => [(f, v)]
  | (g, x) :: r => if g = f then (g, v) :: r else (g, x) :: putD f v r
theorem repF_put {M : Addr → Prop} {H : Hp} {f : Str} {v : V} {d : D} (r : Rep C M H v d) : ∀ {ds : List (Str × D)} {vs : List (Str × V)}, RepF C M H vs ds → RepF C M H (putF f v vs) (putD f d ds)
  | [], _, .nil => .cons r .nil
  | (g, _) :: _, _, .cons q t => by
    simp only [putF, putD]
    split
    · exact .cons r t
    · exact .cons q (repF_put r t)
/-- own instances, by the slot -/
def oIns (cs : List Nat) (i : Nat) (γ : Gm) : Option (Option Nat × Nat × List (Str × D)) := match γ[i]? with
  | some (.own t (.ins c fs)) => if c ∈ cs ∧ fs.length < 1000 then some (t, c, fs) else none
  | _ => none
theorem oIns_eq {cs : List Nat} {γ : Gm} {q : Option Nat × Nat × List (Str × D)} (h : oIns cs i γ = some q) : γ[i]? = some (.own q.1 (.ins q.2.1 q.2.2)) ∧ q.2.1 ∈ cs ∧ q.2.2.length < 1000 := by
  unfold oIns at h
  split at h
  · rename_i e
    split at h
    · rename_i hz
      cases h
      exact ⟨e, hz⟩
    · cases h
  · cases h
def sSetF (cs : List Nat) (i : Nat) (f : Str) (fe : F D) : F Fl := F.bind fe fun d γ => match oIns cs i γ with
  | some (t, c, fs) => .ok .nx (γ.set i (.own t (.ins c (putD f d fs))))
  | none => .st
theorem fs_setF {cs : List Nat} {f : Str} {pos' : Pos} (hc : ∀ c ∈ cs, Cls X.K (C.cl c) ∧ NoAttr X.K (C.cl c) f) (ho : PE X a (tVar i)) (he : FX C W true p X e fa) (hs : swapsWith e (some (.Attribute a f pos')) pos.line X.env = pure false := by rfl) :
    FS C W X (.Assign [.Attribute a f pos'] e pos) (sSetF cs i f fa) := PS.imp (ps_fld ho he hs) fun D σ H ⟨pens, M, γ, E, h⟩ => by
  refine ⟨pens, M, γ, E, ?_⟩
  unfold sSetF at h
  cases ea : fa γ with
  | st => rw [bind_st ea] at h; exact h
  | ex x g => rw [bind_ex ea] at h; exact fun cls d H' S re => h cls d M σ H' S.env S.s re
  | ok d γ1 =>
    rw [bind_ok ea] at h
    intro v H1 S1 P1 r1
    cases eo : oIns cs i γ1 with
    | none => rw [eo] at h; exact h.elim
    | some q =>
      obtain ⟨t, c, fs⟩ := q
      rw [eo] at h
      obtain ⟨hi, hm, hl⟩ := oIns_eq eo
      obtain ⟨y, h1, o, h2, mo, ⟨dx, vfs, eh, rf⟩, _⟩ := S1.env.slot hi
      subst h2
      have hl2 : vfs.length < 1000 := by rw [rf.length]; exact hl
      refine ⟨.ref o, h1, o, C.cl c, dx, vfs, rfl, eh, (hc c hm).1, (hc c hm).2, hl2, ?_⟩
      have S2 := S1.env.wr (o' := .ins c (putD f d fs)) hi h1 eh (fun _ _ z => by cases z) (u' := .ins (C.cl c) dx (putF f v vfs)) ⟨dx, _, upd_same, (repF_put (show Rep C M H1 v d from r1) rf).fine (Fine.poke mo)⟩
      exact h M σ _ S2.env (S1.trans S2).s
/-! ### an expression as an argument: data, or a name of the frame -/
def aftV (C : Ct) (W : WX) (pens : Nat → Addr) (M : Addr → Prop) (σ : L2.St) (γ : Gm) (H : Hp) (p : Bool) (r : R AV) (Q : VK) : Prop := match r with
  | .ok av γ' => (∀ o, av ≠ .n o) ∧ ∀ v H', Stp C pens M σ γ H γ' H' → (p = true → γ' = γ ∧ Keep0 H H') → AOk C M H' σ γ' v av → Q v H'
  | .ex e γ' => ∀ cls d H', Stp C pens M σ γ H γ' H' → ExRep C M e cls d H' → W cls d σ H'
  | .st => False
def tFV (C : Ct) (W : WX) (p : Bool) (f : F AV) : TE := fun σ H Q => ∃ pens M γ, EnvRep C pens M γ σ H ∧ aftV C W pens M σ γ H p (f γ) Q
def FV (C : Ct) (W : WX) (p : Bool) (X : Cx) (e : Expr) (f : F AV) : Prop := PE X e (tFV C W p f)
def vVar (i : Nat) : F AV := fun γ => match γ[i]? with
  | some (.own _ _) => .ok (.s i) γ
  | some (.val d) => .ok (.d d) γ
  | some (.view xs) => .ok (.w xs) γ
  | _ => .st
def vVal (f : F D) : F AV := F.bind f fun d γ => .ok (.d d) γ
theorem fv_var (h : PE X e (tVar i)) : FV C W true X e (vVar i) := PE.imp h fun σ H Q ⟨pens, M, γ, E, h⟩ => by
  unfold vVar at h
  cases q : γ[i]? with
  | none => rw [q] at h; exact h.elim
  | some sv =>
    rw [q] at h
    obtain ⟨x, h1, h2⟩ := E.slot q
    cases sv with
    | none => exact h.elim
    | val d => obtain ⟨v, rfl, r⟩ := h2; exact ⟨v, h1, h.2 v H (Stp.pure E (Keep.refl _ _)) (fun _ => ⟨rfl, Keep.refl _ _⟩) r⟩
    | own t o => obtain ⟨a, rfl, m, r, _⟩ := h2; exact ⟨.ref a, h1, h.2 _ H (Stp.pure E (Keep.refl _ _)) (fun _ => ⟨rfl, Keep.refl _ _⟩) ⟨h1, t, o, q⟩⟩
    | view xs => obtain ⟨a, us, rfl, s, r⟩ := h2; exact ⟨.ref a, h1, h.2 _ H (Stp.pure E (Keep.refl _ _)) (fun _ => ⟨rfl, Keep.refl _ _⟩) ⟨a, us, rfl, s, r⟩⟩
/-- it stays so while other arguments come -/
theorem AOk.later {pens : Nat → Addr} {M M' : Addr → Prop} {H H' : Hp} {σ : L2.St} {γ γ' : Gm} {v : V} {vs : List V} {as : List AV} (E : EnvRep C pens M γ σ H) (k : Keep (Own γ σ) H H') (pt : Pat γ γ') (dn : ∀ a, M' a → M a ∨ a ∈ freshA vs as) (fr : ∀ a ∈ freshA vs as, H a = none) :
    ∀ {av : AV}, (∀ o, av ≠ .n o) → AOk C M H σ γ v av → AOk C M' H' σ γ' v av
  | .d _, _, r => Rep.fine (stepM E k dn fr) r
  | .n o, hn, _ => (hn o rfl).elim
  | .s _, _, ⟨h1, t, o, h2⟩ => ⟨h1, t, by obtain ⟨o', e⟩ := pt.own h2; exact ⟨o', e⟩⟩
  | .w _, _, ⟨a, us, e, s, r⟩ => ⟨a, us, e, s.keepN k fun b o u hb => E.ownNF b o u hb, r.fine (stepM E k dn fr)⟩
theorem freshA_skip {v : V} {vs : List V} {av : AV} {as : List AV} (h : ∀ o, av ≠ .n o) : freshA (v :: vs) (av :: as) = freshA vs as := by
  cases av with
  | n o => exact (h o rfl).elim
  | d _ => cases v <;> rfl
  | s _ => cases v <;> rfl
  | w _ => cases v <;> rfl
/-- the class of a thing as an argument -/
def avC (γ : Gm) : AV → Option (Nat × List (Str × D))
  | .d (.ins c fs) => some (c, fs)
  | .s i => match γ[i]? with
    | some (.own _ (.ins c fs)) => some (c, fs)
    | _ => none
  | _ => none
theorem avC_ok {pens : Nat → Addr} {M : Addr → Prop} {H : Hp} {σ : L2.St} {γ : Gm} {v : V} {av : AV} {c : Nat} {fs : List (Str × D)} (E : EnvRep C pens M γ σ H) (r : AOk C M H σ γ v av) (e : avC γ av = some (c, fs)) : ∃ a dx vfs, v = .ref a ∧ H a = some (.ins (C.cl c) dx vfs) ∧ RepF C M H vfs fs := by
  cases av with
  | d x =>
    cases x with
    | ins c' fs' =>
      cases e
      exact SRep.insH (.rep r)
    | _ => cases e
  | s i =>
    simp only [avC] at e
    split at e
    · rename_i t c' fs' q
      cases e
      obtain ⟨x, h1, a, h2, _, ⟨dx, vfs, eh, rf⟩, _⟩ := E.slot q
      obtain ⟨h3, _⟩ := r
      subst h2
      rw [h1] at h3
      cases h3
      exact ⟨a, dx, vfs, rfl, eh, rf⟩
    · cases e
  | n o => cases e
  | w xs => cases e
/-! ### methods -/
/-- what a method call asks: the thing, the arguments, the promise -/
def fMth (c : Nat) (nm : Str) (N : Nat) (b : F Fl) (fo : F AV) (fr : F (List AV)) : F D := F.bind fo fun av γ => match avC γ av with
  | some (c', fs) => if c' = c ∧ fs.lookup nm = none then F.bind fr (fun as γ2 => if (avC γ2 av).map (·.1) = some c then F.bind (callR N b (av :: as)) (fun r γ => .ok r.1.d γ) γ2 else .st) γ else .st
  | none => .st
theorem meth_te {N : List Str} {n c : Nat} {b : F Fl} {fo : F AV} {nm : Str} {σ : L2.St} {H : Hp} {Q : VK} {q : Bool} (hn : ArgsN n fr) (hN : n + 1 ≤ N.length) (h : tF C W true false (fMth c nm N.length b fo fr) σ H Q) :
    tFV C W q fo σ H fun x H1 => ∃ a dx fs, x = .ref a ∧ H1 a = some (.ins (C.cl c) dx fs) ∧ fs.lookup nm = none ∧ tFA C W p fr σ H1 fun vs H2 => (∃ dx' fs', H2 a = some (.ins (C.cl c) dx' fs')) ∧ spF C N (n + 1) b (x :: vs) H2 Q (WE W σ) := by
  obtain ⟨pens, M, γ, E, h⟩ := h
  refine ⟨pens, M, γ, E, ?_⟩
  unfold fMth at h
  cases eo : fo γ with
  | st => rw [bind_st eo] at h; exact h
  | ex x g => rw [bind_ex eo] at h; exact h
  | ok av γ1 =>
    rw [bind_ok eo] at h
    cases ec : avC γ1 av with
    | none => rw [ec] at h; exact h.elim
    | some q =>
      obtain ⟨c', fs⟩ := q
      rw [ec] at h
      simp only at h
      split at h
      case isFalse => exact h.elim
      rename_i hz
      obtain ⟨rfl, hl⟩ := hz
      have nn : ∀ o, av ≠ .n o := fun o z => by subst z; cases ec
      refine ⟨nn, fun v H1 S1 P1 r1 => ?_⟩
      obtain ⟨a, dx, vfs, rfl, eh, rf⟩ := avC_ok S1.env r1 ec
      refine ⟨a, dx, vfs, rfl, eh, rf.lookupN hl, pens, M, γ1, S1.env, ?_⟩
      cases ea : fr γ1 with
      | st => rw [bind_st ea] at h; exact h
      | ex x γ' => rw [bind_ex ea] at h; exact aftA_ex S1.env fun cls d H' S2 re => h cls d H' (S1.trans S2) re
      | ok as γ2 =>
        rw [bind_ok ea] at h
        intro vs H2 M2 E2 k2 pt2 P2 up2 dn2 A
        have hl := hn _ _ _ ea
        have r2 : AOk C M2 H2 σ γ2 (.ref a) av := r1.later S1.env k2 pt2 dn2 A.fr nn
        have ef : freshA (.ref a :: vs) (av :: as) = freshA vs as := freshA_skip nn
        have k02 : Keep (Own γ σ) H H2 := S1.keep.trans (k2.mono fun _ z => S1.pat.symm.Own z)
        have A2 : AsOk C M2 H H2 σ γ2 (.ref a :: vs) (av :: as) := ⟨.cons r2 A.ok, by rw [ef]; exact A.nd, fun b hb => by
          rw [ef] at hb
          exact S1.keep.free (A.fr b hb) fun z => Own.tracked S1.env (A.fr b hb) (S1.pat.Own z)⟩
        split at h
        case isFalse => exact h.elim
        rename_i hz2
        refine ⟨?_, call_sp (by rw [List.length_cons, ← hl]) (by rw [List.length_cons, ← hl]; exact hN) E E2 k02 (S1.pat.trans pt2) up2 (fun b z => by rw [ef]; exact dn2 b z) A2 ?_⟩
        · cases ec2 : avC γ2 av with
          | none => rw [ec2] at hz2; cases hz2
          | some q2 =>
            rw [ec2] at hz2
            cases hz2
            obtain ⟨a2, dx2, vf2, e1, e2, _⟩ := avC_ok E2 r2 ec2
            cases e1
            exact ⟨dx2, vf2, e2⟩
        · cases ek : callR N.length b (av :: as) γ2 with
          | st => rw [bind_st ek] at h; exact h
          | ex e γ3 => rw [bind_ex ek] at h; exact h
          | ok r γ3 =>
            rw [bind_ok ek] at h
            intro v H' M' af rr
            obtain ⟨S, r2⟩ := af.rep E rr
            exact h v H' S (fun z => by cases z) r2
/-! ### room, with no repr under way -/
structure GdL (k : Nat) (o : Option (List Code)) : Prop where
  some_ : 20 ≤ k → ∃ g, o = some g
  nil_ : 40 ≤ k → o = some []
theorem GdL.mono {j k : Nat} {o : Option (List Code)} (x : GdL k o) (h : j ≤ k) : GdL j o := ⟨fun z => x.some_ (Nat.le_trans z h), fun z => x.nil_ (Nat.le_trans z h)⟩
/-- room, and below the level 40 a repr may be under way -/
structure RoomG (k : Nat) (A : Around) : Prop where
  r : Room k A
  g : GdL k A.guards
theorem RoomG.mono {j k : Nat} {A : Around} (x : RoomG k A) (h : j ≤ k) : RoomG j A := ⟨x.r.mono h, x.g.mono h⟩
theorem RoomG.deeper {k : Nat} {A : Around} (x : RoomG (k + 1) A) (env : Env) : RoomG k (A.deeper env) := ⟨x.r.deeper env, x.g.mono (Nat.le_succ k)⟩
theorem RoomG.in1 {k : Nat} {A : Around} (x : RoomG (k + 1) A) : RoomG k A.in1 := ⟨x.r.in1, x.g.mono (Nat.le_succ k)⟩
theorem RoomG.make {k : Nat} {A : Around} (x : RoomG (k + 1) A) (c : Addr) (us : List Value) (kw : List (Str × Value)) : RoomG k (A.under (.builtin "type.__call__" ⟨.ref c :: us, kw⟩)) := ⟨x.r.make c us kw, by
  have push : ∀ {g : List Code}, A.guards = some g → (A.under (.builtin "type.__call__" ⟨.ref c :: us, kw⟩)).guards = some g := fun {g} e => by
    show pushGuards (Code.guards (.builtin "type.__call__" ⟨.ref c :: us, kw⟩)) A.guards = some g
    rw [e]
    rfl
  exact ⟨fun z => let ⟨g, e⟩ := x.g.some_ (Nat.le_succ_of_le z); ⟨g, push e⟩, fun z => push (x.g.nil_ (Nat.le_succ_of_le z))⟩⟩
/-- what a def promises of its positional arguments where no repr is under way -/
def FnG (P : Program) (w : World) (K : PySem.W.Frag) (mg : Str → Option Value) (base : Heap) (CX : CXT) (k : Nat) (f : Addr) (sp : Sp) : Prop :=
  ∀ (A : Around) (out : List Env) (s : Shared) (H : Hp) (us : List Value) (vs : List V) (Q : VK) (E : XK), RoomG k A → Env0 P w K mg base A out s H → Vals vs us → sp vs H Q E → codeAny (model P w) A (.call (.ref f) ⟨us, []⟩) (CR CX out P w H s Q E) s
theorem FnR.toG {P : Program} {w : World} {K : PySem.W.Frag} {mg : Str → Option Value} {base : Heap} {CX : CXT} {k : Nat} {f : Addr} {sp : Sp} (F : FnR P w K mg base CX k f sp) : FnG P w K mg base CX k f sp := fun A out s H us vs Q E hr => F A out s H us vs Q E hr.r
/-- the callee runs, at the slots -/
theorem run_fnRS {CX : CXT} {k : Nat} {f : Addr} {sp : Sp} {E : L2.St → XK} {Q : VK} {us : List Value} {vs : List V} {pins : List (Addr × Obj)} {σ : L2.St} {H : Hp} {s : Shared} (F : FnG X.prog X.w X.K X.mg X.base CX k f sp) (hr : RoomG k X.A) (hx : PassesAt CX X σ (E σ)) (I : Inv X pins σ H s) (r : Vals vs us) (h : sp vs H Q (E σ)) :
    codeAny (model X.prog X.w) X.A (.call (.ref f) ⟨us, []⟩) (fun r s' => match r with | .ok (.ret v) => EP X pins σ Q v s' | .ok _ => False | .error e => X.xe e s') s := by
  refine codeAny_mono (F X.A X.stack s H us vs Q (E σ) hr I.env0 r h) fun r s' hq => ?_
  match r, hq with
  | .error e, hq => exact hx pins H s e s' I hq
  | .ok (.ret u), hq => exact I.after hq
  | .ok .next, hq => exact hq.elim
  | .ok .brk, hq => exact hq.elim
  | .ok .cont, hq => exact hq.elim
/-- a def of the program by what it promises of its positional arguments -/
abbrev FnP (X : Cx) (C : Ct) (k : Nat) (f : Addr) (N : List Str) (n : Nat) (b : F Fl) : Prop := FnG X.prog X.w X.K X.mg X.base (L2.CX X.prog X.w) k f (spF C N n b)
theorem pe_methRS0 {k c n : Nat} {f : Addr} {nm : Str} {N : List Str} {b : F Fl} {to : TE} {apos : Pos} {pl : Sem Bool} (he : PE X e to) (cl : Cls X.K (C.cl c)) (hm : Meth X.K (C.cl c) nm f) (Fn : FnP X C k f N n b) (hr : RoomG k X.A) (tk : Takes X W)
    (ht : eval (.Call (.Attribute e nm apos) [] [] pos) X.env = (do
      let ov ← eval e X.env
      standAt apos.atName
      let (f, first) ← holding [ov] (getMethod ov nm pl)
      callWith pos f first (backTo pos (starEach [] X.env)) (backToKw pos (keywordEach [] X.env))) := by rfl) :
    PE X (.Call (.Attribute e nm apos) [] [] pos) (fun σ H Q => to σ H fun x H1 => ∃ a dx fs, x = .ref a ∧ H1 a = some (.ins (C.cl c) dx fs) ∧ fs.lookup nm = none ∧ spF C N n b [x] H1 Q (WE W σ)) := by
  refine ⟨fun pins s σ H Q I h => ?_⟩
  refine PySem.W.methodCall_KW (pl := pl) (thn (he.run pins s σ H _ I h) fun u s1 ⟨x, H1, I1, rx, o, dx, fs, ex, eo, l, q⟩ => ?_) ht
  subst ex
  have eu : u = Value.ref o := rx
  subst eu
  refine getmeth_ok I1 eo cl hm l ?_
  exact PySem.W.callWith_K0 (first := [.ref o]) I1.kIn hm.kp (wpAny_call (run_fnRS (us := [.ref o]) (vs := [.ref o]) (E := WE W) Fn hr (passAt tk σ) I1 (.cons rfl .nil) q))
theorem tFV.mono {q : Bool} {fo : F AV} {σ : L2.St} {H : Hp} {Q Q' : VK} (h : tFV C W q fo σ H Q) (k : ∀ v H, Q v H → Q' v H) : tFV C W q fo σ H Q' := by
  obtain ⟨pens, M, γ, E, h⟩ := h
  refine ⟨pens, M, γ, E, ?_⟩
  cases ea : fo γ with
  | st => rw [ea] at h; exact h
  | ex x g => rw [ea] at h; exact h
  | ok d g => rw [ea] at h; exact ⟨h.1, fun v H' S P r => k v H' (h.2 v H' S P r)⟩
theorem tFA.mono {σ : L2.St} {H : Hp} {Q Q' : List V → Hp → Prop} (h : tFA C W p fr σ H Q) (k : ∀ v H, Q v H → Q' v H) : tFA C W p fr σ H Q' := by
  obtain ⟨pens, M, γ, E, h⟩ := h
  refine ⟨pens, M, γ, E, ?_⟩
  cases ea : fr γ with
  | st => rw [ea] at h; exact h
  | ex x g => rw [ea] at h; exact h
  | ok d g => rw [ea] at h; exact fun v H' M' a1 a2 a3 a4 a5 a6 a7 => k v H' (h v H' M' a1 a2 a3 a4 a5 a6 a7)
theorem tFA.nil {σ : L2.St} {H : Hp} {Q : List V → Hp → Prop} (h : tFA C W p aNil σ H Q) : Q [] H := by
  obtain ⟨pens, M, γ, E, h⟩ := h
  exact h [] H M E (Keep.refl _ _) rfl (fun _ => ⟨rfl, Keep.refl _ _⟩) (fun _ z => z) (fun _ z => .inl z) ⟨.nil, List.nodup_nil, fun _ z => nomatch z⟩
/-- o.m() -/
theorem fx_meth0 {k c : Nat} {f : Addr} {nm : Str} {N : List Str} {b : F Fl} {fo : F AV} {q : Bool} {apos : Pos} {pl : Sem Bool} (he : FV C W q X e fo) (cl : Cls X.K (C.cl c)) (hm : Meth X.K (C.cl c) nm f) (Fn : FnP X C k f N 1 b) (hr : RoomG k X.A) (tk : Takes X W)
    (hN : 1 ≤ N.length := by decide)
    (ht : eval (.Call (.Attribute e nm apos) [] [] pos) X.env = (do
      let ov ← eval e X.env
      standAt apos.atName
      let (f, first) ← holding [ov] (getMethod ov nm pl)
      callWith pos f first (backTo pos (starEach [] X.env)) (backToKw pos (keywordEach [] X.env))) := by rfl) :
    FX C W true false X (.Call (.Attribute e nm apos) [] [] pos) (fMth c nm N.length b fo aNil) := PE.imp (pe_methRS0 he cl hm Fn hr tk ht) fun σ H Q h =>
  tFV.mono (meth_te (p := true) an_nil hN h) fun v H1 ⟨a, dx, fs, e1, e2, e3, t⟩ => ⟨a, dx, fs, e1, e2, e3, (tFA.nil t).2⟩
/-- a def by its name -/
theorem pe_callRS {k n : Nat} {f : Addr} {N : List Str} {b : F Fl} {ta : TA} (Fn : FnP X C k f N n b) (hr : RoomG k X.A) (hg : Gl X x) (hm : X.mg x = some (.ref f)) (hk : PySem.W.keepIn X.K (.ref f) = true) (tk : Takes X W)
    (ha : PA X (e :: es) ta) (hdb : (x == ("__debug__" : Str)) = false := by decide) (hst : starEach (e :: es) X.env = (false, eval e X.env) :: starEach es X.env := by rfl) (hpl : (backTo pos (starEach es X.env)).any (·.1) = false := by rfl) :
    PE X (.Call (.Name x pn) (e :: es) [] pos) (fun σ H Q => ta σ H fun vs H1 => spF C N n b vs H1 Q (WE W σ)) := by
  refine ⟨fun pins s σ H Q I h => wpAny_Call_Name_kw (ld_glob I hg hm ?_ hdb)⟩
  refine PySem.W.callWith_K (h₀ := X.base) I.ok.mod.kin hk (thn (ha.run pos pins s σ H _ I h) fun us s1 ⟨vs, H1, I1, r, q⟩ => ⟨I1.kIn, ?_⟩) hst hpl
  exact wpAny_call (run_fnRS (E := WE W) Fn hr (passAt tk σ) I1 r q)
theorem fx_def {k n : Nat} {f : Addr} {N : List Str} {b : F Fl} (Fn : FnP X C k f N n b) (hr : RoomG k X.A) (hg : Gl X x) (hm : X.mg x = some (.ref f)) (hk : PySem.W.keepIn X.K (.ref f) = true) (tk : Takes X W)
    (ha : FA C W p X (e :: es) fr) (hn : ArgsN n fr) (hN : n ≤ N.length := by decide) (hdb : (x == ("__debug__" : Str)) = false := by decide) (hst : starEach (e :: es) X.env = (false, eval e X.env) :: starEach es X.env := by rfl) (hpl : (backTo pos (starEach es X.env)).any (·.1) = false := by rfl) :
    FX C W true false X (.Call (.Name x pn) (e :: es) [] pos) (fCall N.length b fr) := fx_of_call (fun ta h => pe_callRS Fn hr hg hm hk tk h hdb hst hpl) ha hn hN
theorem fn_def {k n : Nat} {f : Addr} {N : List Str} {b : F Fl} (Fn : FnP X C k f N n b) (hr : RoomG k X.A) (hg : Gl X x) (hm : X.mg x = some (.ref f)) (hk : PySem.W.keepIn X.K (.ref f) = true) (tk : Takes X W)
    (ha : FA C W p X (e :: es) fr) (hn : ArgsN n fr) (hN : n ≤ N.length := by decide) (hdb : (x == ("__debug__" : Str)) = false := by decide) (hst : starEach (e :: es) X.env = (false, eval e X.env) :: starEach es X.env := by rfl) (hpl : (backTo pos (starEach es X.env)).any (·.1) = false := by rfl) :
    FN C W false X (.Call (.Name x pn) (e :: es) [] pos) (nCall N.length b fr) := fn_of_call (fun ta h => pe_callRS Fn hr hg hm hk tk h hdb hst hpl) ha hn hN
end
end FC
namespace FC
open PySem PySem.Spec PyProof.Rows L2
/-! ### instances made -/
section
variable {C : Ct} {W : WX} {X : Cx} {m p m1 p1 m2 p2 : Bool} {a b e' e : Expr} {es : List Expr} {fa fb : F D} {fr : F (List AV)} {x : Str} {pn pos : Pos} {i : Nat}
theorem ORep.plus {M : Addr → Prop} {H H' : Hp} {a o : Addr} (ho : H o = none) (k : Keep0 H H') {u : MO} (r : ORep C M H a u) : ORep C (adj M o) H' a u :=
  r.fine (Fine.trans (Fine.plus ho) (Fine.keep0 k) fun a u e _ z => z.elim id fun q => by rw [q, ho] at e; cases e) fun u e t => k.at e t
theorem AOk.plus {M : Addr → Prop} {H H' : Hp} {σ : L2.St} {γ : Gm} {o : Addr} {v : V} (ho : H o = none) (k : Keep0 H H') : ∀ {av : AV}, AOk C M H σ γ v av → AOk C (adj M o) H' σ γ v av
  | .d _, r => Rep.fine (Fine.trans (Fine.plus ho) (Fine.keep0 k) fun a u e _ z => z.elim id fun q => by rw [q, ho] at e; cases e) r
  | .n _, ⟨a, e, m, r⟩ => ⟨a, e, .inl m, r.plus ho k⟩
  | .s _, r => r
  | .w _, ⟨a, us, e, s, r⟩ => ⟨a, us, e, s.keep k, r.fine (Fine.trans (Fine.plus ho) (Fine.keep0 k) fun a u e _ z => z.elim id fun q => by rw [q, ho] at e; cases e)⟩
theorem paired_imp {α β : Type} {G G' : α → β → Prop} (h : ∀ a b, G a b → G' a b) : ∀ {l₁ : List α} {l₂ : List β}, Paired G l₁ l₂ → Paired G' l₁ l₂
  | _, _, .nil => .nil
  | _, _, .cons g r => .cons (h _ _ g) (paired_imp h r)
theorem fresh_there {M : Addr → Prop} {H0 H : Hp} {σ : L2.St} {γ : Gm} {vs : List V} {as : List AV} (A : AsOk C M H0 H σ γ vs as) {c : Addr} (h : c ∈ freshA vs as) : ∃ u, H c = some u := by
  obtain ⟨j, o, h1, h2⟩ := of_fresh h
  obtain ⟨v, e1, a, e2, _, r⟩ := paired_at A.ok h2
  rw [h1] at e1
  cases e1
  cases e2
  obtain ⟨u, e, _⟩ := r.there
  exact ⟨u, e⟩
/-- one more argument ahead: a new thing just laid -/
theorem AsOk.ahead {M : Addr → Prop} {H0 H H' : Hp} {σ : L2.St} {γ : Gm} {vs : List V} {as : List AV} {o : Addr} {u : MO} (A : AsOk C M H0 H σ γ vs as) (ho : H o = none) (h0 : H0 o = none) (k : Keep0 H H') (r : ORep C (adj M o) H' o u) : AsOk C (adj M o) H0 H' σ γ (.ref o :: vs) (.n u :: as) :=
  ⟨.cons ⟨o, rfl, .inr rfl, r⟩ (paired_imp (fun _ _ z => z.plus ho k) A.ok), List.nodup_cons.mpr ⟨fun z => (by
    obtain ⟨w, e⟩ := fresh_there A z
    rw [ho] at e
    cases e), A.nd⟩, fun c hc => (List.mem_cons.mp hc).elim (fun q => by rw [q]; exact h0) (A.fr c)⟩
/-- what a class's making gives -/
def mkO (r : RV × Gm) : Option MO := match r.1, (show List SV from r.2)[0]? with
  | RV.val D.non, some (SV.own (some 0) o) => some o
  | _, _ => none
/-- C(e, ..) -/
def nMake (c : Nat) (N : Nat) (b : F Fl) (fr : F (List AV)) : F MO := F.bind fr fun as => F.bind (callR N b (.n (.ins c []) :: as)) fun r => liftO (mkO r)
/-- C(e, ..), __init__ with a star parameter alone -/
def nMakeS (c : Nat) (N : Nat) (b : F Fl) (fr : F (List AV)) : F MO := F.bind fr fun as => F.bind (liftO (allD as)) fun ds => if ds.length ≤ sizeLine then F.bind (callR N b [.n (.ins c []), .d (.tup ds)]) fun r => liftO (mkO r) else fun _ => .st
theorem make_core {pens : Nat → Addr} {M M1 : Addr → Prop} {γ γ1 : Gm} {σ : L2.St} {H H1 : Hp} {o : Addr} {vs : List V} {as : List AV} {N : List Str} {n c : Nat} {b : F Fl} {Q : VK} (hn : n = as.length + 1) (hN : n ≤ N.length)
    (E : EnvRep C pens M γ σ H) (E1 : EnvRep C pens M1 γ1 σ H1) (k1 : Keep (Own γ σ) H H1) (pt : Pat γ γ1) (up1 : ∀ a, M a → M1 a) (dn1 : ∀ a, M1 a → M a ∨ a ∈ freshA (.ref o :: vs) (.n (.ins c []) :: as)) (A : AsOk C M1 H H1 σ γ1 (.ref o :: vs) (.n (.ins c []) :: as)) (h0 : H o = none)
    (h : aftN C W pens M σ γ H false (F.bind (callR N.length b (.n (.ins c []) :: as)) (fun r => liftO (mkO r)) γ1) Q) : spF C N n b (.ref o :: vs) H1 (fun v H2 => v = .non ∧ Q (.ref o) H2) (WE W σ) := by
  refine call_sp (by rw [hn, List.length_cons]) (by rw [List.length_cons, ← hn]; exact hN) E E1 k1 pt up1 dn1 A ?_
  cases ec : callR N.length b (.n (.ins c []) :: as) γ1 with
  | st => rw [bind_st ec] at h; exact h
  | ex e γ2 => rw [bind_ex ec] at h; exact h
  | ok r γ2 =>
    obtain ⟨rv, g⟩ := r
    rw [bind_ok ec] at h
    intro v H' M' af rr
    cases em : mkO (rv, g) with
    | none => rw [liftO_none em] at h; exact h.elim
    | some u =>
      rw [liftO_some em] at h
      have hz : rv = .val .non ∧ g[0]? = some (.own (some 0) u) := by
        unfold mkO at em
        split at em
        · rename_i e1 e2
          cases em
          exact ⟨e1, e2⟩
        · cases em
      obtain ⟨rfl, hg⟩ := hz
      obtain ⟨mo, ro⟩ := af.arg 0 u o hg rfl
      obtain ⟨c1, c2, c3, c4⟩ := af.env (adj M o) (fun _ z => .inl z) fun c z => z.imp id fun q => by rw [q]; exact ⟨mo, h0⟩
      refine ⟨?_, h o H' h0 c1 c2 c3 (fun z => by cases z) (ro.fine (Fine.weak c4) fun _ e _ => e)⟩
      cases (show Rep C M' H' v .non from rr)
      rfl
theorem keep_two {H : Hp} {o dx : Addr} {u1 u2 : HO} (ho : H o = none) (hd : H dx = none) (ne : dx ≠ o) : Keep0 H (upd (upd H dx u1) o u2) := (Keep.new hd).trans (Keep.new (by rw [upd_ne (Ne.symm ne)]; exact ho))
theorem make_te {N : List Str} {n c : Nat} {b : F Fl} {σ : L2.St} {H : Hp} {Q : VK} (hn : ArgsN n fr) (hN : n + 1 ≤ N.length) (h : tFN C W false (nMake c N.length b fr) σ H Q) :
    tFA C W p fr σ H fun vs H1 => ∀ o dx, H1 o = none → H1 dx = none → dx ≠ o → spF C N (n + 1) b (.ref o :: vs) (upd (upd H1 dx (.own o)) o (.ins (C.cl c) dx [])) (fun v H2 => v = .non ∧ Q (.ref o) H2) (WE W σ) := by
  obtain ⟨pens, M, γ, E, h⟩ := h
  refine ⟨pens, M, γ, E, ?_⟩
  unfold nMake at h
  cases ea : fr γ with
  | st => rw [bind_st ea] at h; exact h
  | ex x γ' => rw [bind_ex ea] at h; exact aftA_ex E h
  | ok as γ1 =>
    rw [bind_ok ea] at h
    intro vs H1 M1 E1 k1 pt P1 up1 dn1 A o dx ho hd ne
    have k0 : Keep0 H1 (upd (upd H1 dx (.own o)) o (.ins (C.cl c) dx [])) := keep_two ho hd ne
    have h0 : H o = none := k1.free ho fun z => Own.tracked E1 ho (pt.Own z)
    refine make_core (by rw [hn _ _ _ ea]) hN E (E1.plus ho ⟨_, upd_same⟩ k0) (k1.trans k0.any) pt (fun a z => .inl (up1 a z)) (fun a z => ?_) (A.ahead ho h0 k0 ⟨dx, [], upd_same, .nil⟩) h0 h
    have ef : freshA (.ref o :: vs) (.n (.ins c []) :: as) = o :: freshA vs as := rfl
    rw [ef]
    rcases z with z | z
    · exact (dn1 a z).imp id fun q => List.mem_cons_of_mem _ q
    · exact .inr (by rw [z]; exact List.mem_cons_self)
/-- the promise of a def with one parameter and a star parameter -/
def spStar (C : Ct) (N : List Str) (b : F Fl) : Sp := fun vs H Q E => ∃ ws rest, vs = ws ++ rest ∧ ws.length = 1 ∧ rest.length ≤ sizeLine ∧ ∀ q, H q = none → spF C N 2 b (ws ++ [V.ref q]) (upd H q (.tup rest)) Q E
theorem makeS_te {N : List Str} {c : Nat} {b : F Fl} {σ : L2.St} {H : Hp} {Q : VK} (hN : 2 ≤ N.length) (h : tFN C W false (nMakeS c N.length b fr) σ H Q) :
    tFA C W p fr σ H fun vs H1 => ∀ o dx, H1 o = none → H1 dx = none → dx ≠ o → spStar C N b (.ref o :: vs) (upd (upd H1 dx (.own o)) o (.ins (C.cl c) dx [])) (fun v H2 => v = .non ∧ Q (.ref o) H2) (WE W σ) := by
  obtain ⟨pens, M, γ, E, h⟩ := h
  refine ⟨pens, M, γ, E, ?_⟩
  unfold nMakeS at h
  cases ea : fr γ with
  | st => rw [bind_st ea] at h; exact h
  | ex x γ' => rw [bind_ex ea] at h; exact aftA_ex E h
  | ok as γ1 =>
    rw [bind_ok ea] at h
    cases eb : allD as with
    | none => rw [bind_st (liftO_none eb _)] at h; exact h.elim
    | some ds =>
      rw [bind_ok (liftO_some eb _)] at h
      refine aftA_all E eb fun vs H1 S1 P1 r1 o dx ho hd ne => ?_
      split at h
      case isFalse => exact h.elim
      rename_i hz
      have E1 := S1.env
      have k0 : Keep0 H1 (upd (upd H1 dx (.own o)) o (.ins (C.cl c) dx [])) := keep_two ho hd ne
      have h0 : H o = none := S1.keep.free ho fun z => Own.tracked E1 ho (S1.pat.Own z)
      refine ⟨[.ref o], vs, rfl, rfl, by rw [r1.length]; exact hz, fun q hq => ?_⟩
      have k3 : Keep0 (upd (upd H1 dx (.own o)) o (.ins (C.cl c) dx [])) (upd (upd (upd H1 dx (.own o)) o (.ins (C.cl c) dx [])) q (.tup vs)) := Keep.new hq
      have E2 : EnvRep C pens (adj M o) γ1 σ (upd (upd H1 dx (.own o)) o (.ins (C.cl c) dx [])) := E1.plus ho ⟨_, upd_same⟩ k0
      have E3 := E2.keep k3
      have rt : Rep C (adj M o) (upd (upd (upd H1 dx (.own o)) o (.ins (C.cl c) dx [])) q (.tup vs)) (.ref q) (.tup ds) :=
        rep_newT E2.dom hq (r1.fine (Fine.trans (Fine.plus ho) (Fine.keep0 k0) fun a u e _ z => z.elim id fun q => by rw [q, ho] at e; cases e))
      have A0 : AsOk C M H H1 σ γ1 [] [] := ⟨.nil, List.nodup_nil, fun _ z => nomatch z⟩
      have A1 : AsOk C (adj M o) H (upd (upd (upd H1 dx (.own o)) o (.ins (C.cl c) dx [])) q (.tup vs)) σ γ1 [.ref o, .ref q] [.n (.ins c []), .d (.tup ds)] := by
        refine ⟨.cons ⟨o, rfl, .inr rfl, dx, [], k3.at upd_same, .nil⟩ (.cons rt .nil), by show [o].Nodup; simp, fun c hc => ?_⟩
        have : c = o := List.mem_singleton.mp hc
        rw [this]; exact h0
      refine make_core (vs := [.ref q]) rfl hN E E3 (S1.keep.trans (Keep0.any (k0.trans k3))) S1.pat (fun a z => .inl z) (fun a z => ?_) A1 h0 h
      rcases z with z | z
      · exact .inl z
      · exact .inr (by rw [z]; show o ∈ [o]; simp)
theorem run_makeRS {k : Nat} {f Ca : Addr} {sp : Sp} {E : L2.St → XK} {pins : List (Addr × Obj)} {σ : L2.St} {H : Hp} {s : Shared} {Q : VK} {us : List Value} {vs : List V} (Mm : Mk X.K Ca f) (Fn : FnG X.prog X.w X.K X.mg X.base (L2.CX X.prog X.w) k f sp) (hr : RoomG (k + 1) X.A) (hx : PassesAt (L2.CX X.prog X.w) X σ (E σ)) (I : Inv X pins σ H s) (r : Vals vs us)
    (h : ∀ o dx, H o = none → H dx = none → dx ≠ o → sp (.ref o :: vs) (upd (upd H dx (.own o)) o (.ins Ca dx [])) (fun v H2 => v = .non ∧ Q (.ref o) H2) (E σ)) : wpAny (model X.prog X.w) X.A (call (.ref Ca) us) (EP X pins σ Q) X.xe s := by
  have I2 := Inv.made (C := Ca) I
  have h2 := h (s.heap.objs.size + 1) s.heap.objs.size (I.hok.fresh (Nat.le_succ _)) (I.hok.fresh (Nat.le_refl _)) (Nat.ne_of_lt (Nat.lt_succ_self _))
  have go := Fn _ X.stack _ _ (Value.ref (s.heap.objs.size + 1) :: us) (V.ref (s.heap.objs.size + 1) :: vs) _ _ (hr.make Ca us []) (I2.env0.make Ca us []) (.cons rfl r) h2
  refine wpAny_call (make_map (f := f) I.kIn Mm.makes Mm.init (beq_iff_eq.mp Mm.fn) (codeAny_mono go fun r s' hq => ?_))
  match r, hq with
  | .error e, hq => exact hx pins _ _ e s' I2 hq
  | .ok (.ret u), hq =>
    obtain ⟨v, H', I3, rv, ev, q3⟩ := I2.after hq
    subst ev
    exact ⟨rv, .ref (s.heap.objs.size + 1), H', I3, rfl, q3⟩
  | .ok .next, hq => exact hq.elim
  | .ok .brk, hq => exact hq.elim
  | .ok .cont, hq => exact hq.elim
theorem fn_make {k n c : Nat} {f : Addr} {N : List Str} {b : F Fl} (Mm : Mk X.K (C.cl c) f) (Fn : FnP X C k f N (n + 1) b) (hr : RoomG (k + 1) X.A) (hg : Gl X x) (hm : X.mg x = some (.ref (C.cl c))) (tk : Takes X W)
    (ha : FA C W p X (e :: es) fr) (hn : ArgsN n fr) (hN : n + 1 ≤ N.length := by decide) (hdb : (x == ("__debug__" : Str)) = false := by decide) (hst : starEach (e :: es) X.env = (false, eval e X.env) :: starEach es X.env := by rfl) (hpl : (backTo pos (starEach es X.env)).any (·.1) = false := by rfl) :
    FN C W false X (.Call (.Name x pn) (e :: es) [] pos) (nMake c N.length b fr) := ⟨fun pins s σ H Q I h => wpAny_Call_Name_kw (ld_glob I hg hm (PySem.W.callWith_K (h₀ := X.base) I.ok.mod.kin Mm.kp (thn (ha.run pos pins s σ H _ I (make_te (p := p) hn hN h)) fun us s1 ⟨vs, H1, I1, r, q⟩ => ⟨I1.kIn, run_makeRS (E := WE W) Mm Fn hr (passAt tk σ) I1 r q⟩) hst hpl) hdb)⟩
theorem fn_makeS {k c : Nat} {f : Addr} {N : List Str} {b : F Fl} (Mm : Mk X.K (C.cl c) f) (Fn : FnG X.prog X.w X.K X.mg X.base (L2.CX X.prog X.w) k f (spStar C N b)) (hr : RoomG (k + 1) X.A) (hg : Gl X x) (hm : X.mg x = some (.ref (C.cl c))) (tk : Takes X W)
    (ha : FA C W p X (e :: es) fr) (hN : 2 ≤ N.length := by decide) (hdb : (x == ("__debug__" : Str)) = false := by decide) (hst : starEach (e :: es) X.env = (false, eval e X.env) :: starEach es X.env := by rfl) (hpl : (backTo pos (starEach es X.env)).any (·.1) = false := by rfl) :
    FN C W false X (.Call (.Name x pn) (e :: es) [] pos) (nMakeS c N.length b fr) := ⟨fun pins s σ H Q I h => wpAny_Call_Name_kw (ld_glob I hg hm (PySem.W.callWith_K (h₀ := X.base) I.ok.mod.kin Mm.kp (thn (ha.run pos pins s σ H _ I (makeS_te (p := p) hN h)) fun us s1 ⟨vs, H1, I1, r, q⟩ => ⟨I1.kIn, run_makeRS (E := WE W) Mm Fn hr (passAt tk σ) I1 r q⟩) hst hpl) hdb)⟩
theorem fn_makeS0 {k c : Nat} {f : Addr} {N : List Str} {b : F Fl} (Mm : Mk X.K (C.cl c) f) (Fn : FnG X.prog X.w X.K X.mg X.base (L2.CX X.prog X.w) k f (spStar C N b)) (hr : RoomG (k + 1) X.A) (hg : Gl X x) (hm : X.mg x = some (.ref (C.cl c))) (tk : Takes X W)
    (hN : 2 ≤ N.length := by decide) (hdb : (x == ("__debug__" : Str)) = false := by decide) :
    FN C W false X (.Call (.Name x pn) [] [] pos) (nMakeS c N.length b aNil) := ⟨fun pins s σ H Q I h => wpAny_Call_Name_kw (ld_glob I hg hm (PySem.W.callWith_K0 I.kIn Mm.kp (run_makeRS (us := []) (vs := []) (E := WE W) Mm Fn hr (passAt tk σ) I .nil (tFA.nil (makeS_te (p := true) hN h)))) hdb)⟩
/-- plain binding by position lays nothing -/
theorem bnd_pos {CX : CXT} {P : Program} {w : World} {K : PySem.W.Frag} {mg : Str → Option Value} {base : Heap} {fd : FuncData} {ps : List Str} {A : Around} {out : List Env} {s : Shared} {H : Hp} {E : XK} {us : List Value} {vs : List V} (hb : Binds K fd ps []) (e0 : Env0 P w K mg base A out s H) (r : Vals vs us) (hl : vs.length = ps.length) :
    StX.Bnd CX P w K mg base fd ⟨us, []⟩ ps A out s H E fun xs H2 => xs = vs ∧ H2 = H := by
  intro A' Ex Q q
  have hl2 : (us ++ []).length = ps.length := by rw [List.append_nil, ← r.length]; exact hl
  have z := hb s us (e0.mod.kin.keeps fun b o e => (e0.bs b o e).1) hl2
  rw [List.append_nil] at z
  exact z _ A' Ex Q (q s H vs us e0 Un.refl rfl (fun _ _ x => x) r hl ⟨rfl, rfl⟩)
/-- a def with self and a star parameter keeps its promise -/
theorem starF_ok {P : Program} {w : World} {K : PySem.W.Frag} {mg : Str → Option Value} {base : Heap} {y qual : Str} {params : Arguments} {body : List Stmt} {scope : Scope} {f : Addr} {fd : FuncData} {N : List Str} {p1 pv : Str} {k : Nat} {b : F Fl} (Fd : FunD K y qual params body scope [] [] f fd) (S : FnScope N [p1, pv] scope)
    (hb : ∀ (kV doc pm : Value) (an : Option Addr) (cdv ct : Value), ∀ us rest : List Value, us.length = [p1].length → bindArgs (PySem.W.fnOf y qual params body scope .none kV doc pm an cdv ct) ⟨us ++ rest, []⟩ = (newTuple rest >>= fun t => pure ([p1].zip us ++ [(pv, t)])))
    (hbody : ∀ (cdv : Value) (A : Around) (outer : List Env) (s : Shared) (H : Hp) (E : XK), RoomG k (A.deeper (envOfC qual scope s.heap.objs.size f cdv)) → FSs C (WofE E) (bcx P w K mg base N qual scope f cdv A outer s H E) body b) :
    FnG P w K mg base (L2.CX P w) (k + 1) f (spStar C N b) := by
  obtain ⟨oc, od, dV, kV, doc, pm, an, cdv, ct, osl, rfl, lk, hcd, hD, _⟩ := Fd.ex
  have eD : dV = .none := hD.elim (fun z => z.2) fun z => (z.1 rfl).elim
  subst eD
  intro A out s H us vs Q E hr e0 r hsp
  obtain ⟨ws, rest, rfl, lw, lr, hq⟩ := hsp
  obtain ⟨ua, ub, rfl, r1, r2⟩ := StX.vals_split r
  have hn : H s.heap.objs.size = none := e0.hok.fresh (Nat.le_refl _)
  have la : ua.length = [p1].length := r1.length.symm.trans lw
  have lb : ub.length ≤ sizeLine := r2.length ▸ lr
  refine StX.run_bnd lk hcd S hr.r e0 (G := fun xs H2 => ∃ q, H q = none ∧ xs = ws ++ [V.ref q] ∧ H2 = upd H q (.tup rest)) (fun A' Ex Q' go => ?_) fun s2 H2 xs ⟨q, n, ex, eh⟩ hr2 => ?_
  · rw [hb kV doc pm an cdv ct ua ub la]
    refine wpAny_bind (wpAny_newTuple (wpAny_pure ?_) lb)
    have up := StX.un_laid (fs := frs out) (s := s) (o := ⟨.type "tuple", none, .seq ub.toArray, #[]⟩) (u := .tup rest) hn
    have nw : ObjOk P w (upd H s.heap.objs.size (.tup rest)) (s.heap.push ⟨.type "tuple", none, .seq ub.toArray, #[]⟩) s.heap.objs.size (.tup rest) := ⟨lr, ub, r2, _, Heap.get?_push_size _ rfl, rfl, _, rfl⟩
    have z := go _ _ (ws ++ [V.ref s.heap.objs.size]) (ua ++ [Value.ref s.heap.objs.size]) (StX.env0_laid e0 nw) up rfl (fun e t => StX.cxUp out s H _ _ E e t up (fun _ _ x => Heap.get?_push_of_some _ x) rfl) (r1.append (.cons rfl .nil)) (by simp [lw]) ⟨_, hn, rfl, rfl⟩
    have ez : [p1, pv].zip (ua ++ [Value.ref s.heap.objs.size]) = [p1].zip ua ++ [(pv, Value.ref s.heap.objs.size)] := by
      match ua, la with
      | [_], _ => rfl
    rw [ez] at z
    exact z
  · subst ex eh
    exact ⟨_, hbody cdv A out s2 _ E ⟨hr2, hr.g.mono (by omega)⟩, (hq q n).2⟩
/-- what a def promises, by position -/
theorem fnP_ok {P : Program} {w : World} {K : PySem.W.Frag} {mg : Str → Option Value} {base : Heap} {y qual : Str} {params : Arguments} {body : List Stmt} {scope : Scope} {f : Addr} {fd : FuncData} {N ps : List Str} {k : Nat} {b : F Fl} (Fd : FunD K y qual params body scope [] [] f fd) (S : FnScope N ps scope) (hb : Binds K fd ps [])
    (hbody : ∀ (cdv : Value) (A : Around) (outer : List Env) (s : Shared) (H : Hp) (E : XK), RoomG k (A.deeper (envOfC qual scope s.heap.objs.size f cdv)) → FSs C (WofE E) (bcx P w K mg base N qual scope f cdv A outer s H E) body b) :
    FnG P w K mg base (L2.CX P w) (k + 1) f (spF C N ps.length b) := by
  obtain ⟨oc, od, dV, kV, doc, pm, an, cdv, ct, osl, rfl, lk, hcd, _⟩ := Fd.ex
  intro A out s H us vs Q E hr e0 r hsp
  refine StX.run_bnd lk hcd S hr.r e0 (bnd_pos hb e0 r hsp.1) fun s2 H2 xs ⟨ex, eh⟩ hr2 => ?_
  subst ex eh
  exact ⟨_, hbody cdv A out s2 _ E ⟨hr2, hr.g.mono (by omega)⟩, hsp.2⟩
/-! ### properties -/
def fProp (c : Nat) (N : Nat) (b : F Fl) (fo : F AV) : F D := F.bind fo fun av γ => match avC γ av with
  | some (c', _) => if c' = c then (match callR N b [av] γ with
    | .ok r γ2 => .ok r.1.d γ2
    | _ => .st) else .st
  | none => .st
theorem prop_te {N : List Str} {c : Nat} {b : F Fl} {fo : F AV} {σ : L2.St} {H : Hp} {Q : VK} {q : Bool} (hN : 1 ≤ N.length) (h : tF C W true false (fProp c N.length b fo) σ H Q) :
    tFV C W q fo σ H fun x H1 => ∃ a dx fs, x = .ref a ∧ H1 a = some (.ins (C.cl c) dx fs) ∧ spF C N 1 b [.ref a] H1 Q E0 := by
  obtain ⟨pens, M, γ, E, h⟩ := h
  refine ⟨pens, M, γ, E, ?_⟩
  unfold fProp at h
  cases eo : fo γ with
  | st => rw [bind_st eo] at h; exact h
  | ex x g => rw [bind_ex eo] at h; exact h
  | ok av γ1 =>
    rw [bind_ok eo] at h
    cases ec : avC γ1 av with
    | none => rw [ec] at h; exact h.elim
    | some q =>
      obtain ⟨c', fs⟩ := q
      rw [ec] at h
      simp only at h
      split at h
      case isFalse => exact h.elim
      rename_i hz
      subst hz
      have nn : ∀ o, av ≠ .n o := fun o z => by subst z; cases ec
      refine ⟨nn, fun v H1 S1 P1 r1 => ?_⟩
      obtain ⟨a, dx, vfs, rfl, eh, rf⟩ := avC_ok S1.env r1 ec
      have ef : freshA [V.ref a] [av] = [] := freshA_skip nn
      have A : AsOk C M H H1 σ γ1 [.ref a] [av] := ⟨.cons r1 .nil, by rw [ef]; exact List.nodup_nil, fun b hb => by rw [ef] at hb; cases hb⟩
      refine ⟨a, dx, vfs, rfl, eh, ?_⟩
      have z : spF C N 1 b [.ref a] H1 Q (WE (fun _ _ _ _ => False) σ) := call_sp (as := [av]) rfl hN E S1.env S1.keep S1.pat (fun _ z => z) (fun _ z => .inl z) A (by
        cases ek : callR N.length b [av] γ1 with
        | st => rw [ek] at h; exact h
        | ex e γ3 => rw [ek] at h; exact h.elim
        | ok r γ3 =>
          rw [ek] at h
          intro v H' M' af rr
          obtain ⟨S, r2⟩ := af.rep E rr
          exact h v H' S (fun z => by cases z) r2)
      exact z
theorem fx_prop {k c : Nat} {g pr : Addr} {nm : Str} {N : List Str} {b : F Fl} {fo : F AV} {q : Bool} (he : FV C W q X e fo) (cl : Cls X.K (C.cl c)) (hp : PropOf X.K (C.cl c) nm pr g) (Fn : FnP X C k g N 1 b) (hr : RoomG (k + 1) X.A) (hN : 1 ≤ N.length := by decide)
    (hab : attributeBase e nm X.env (eval e X.env) = eval e X.env := by rfl) : FX C W true false X (.Attribute e nm pos) (fProp c N.length b fo) := by
  refine ⟨fun pins s σ H Q I h => attr_of hab (thn (he.run pins s σ H _ I (prop_te (q := q) hN h)) fun u s1 ⟨y, H1, I1, rx, o, dx, fs, ex, ea, z⟩ => ?_)⟩
  subst ex
  have eu : u = Value.ref o := rx
  subst eu
  obtain ⟨mA, O, _⟩ := ins_get I1.hok ea
  obtain ⟨od, J, _⟩ := O.look
  obtain ⟨rest, hrec⟩ := hp.rec_
  have I2 := I1.tok (s1.toks + 1)
  have hc : (PySem.W.clsIn X.K (C.cl c)).isSome = true := by
    obtain ⟨cd, hc, _⟩ := PySem.W.any_some cl.hd
    rw [hc] <;> rfl
  refine PySem.W.get_bind I1.kIn J (PySem.W.plainGet_of (cl.get nm)).1 (PySem.W.findObj_data hc hp.at_ hp.get hp.tak) (PySem.W.plainGet_of (cl.get nm)).2 (wpAny_call (PySem.W.prop_get (s := { s1 with toks := s1.toks + 1 }) I1.kIn hrec ?_))
  refine codeAny_mono (Fn X.A.in1 X.stack { s1 with toks := s1.toks + 1 } H1 [.ref o] [.ref o] Q E0 hr.in1 I2.env0.in1 (.cons rfl .nil) z) fun r s' hq => ?_
  match r, hq with
  | .error er, hq => exact (passL (X := X.nox) pins σ H1 { s1 with toks := s1.toks + 1 } er s' (I2.wish _) hq).elim
  | .ok (.ret u), hq =>
    obtain ⟨v, H', I3, rv, q3⟩ := I2.after hq
    show wpAny _ _ (handedOut u) _ _ _
    rw [PySem.W.handedOut_of (handed_of rv)]
    exact wpAny_pure ⟨v, H', I3, rv, q3⟩
  | .ok .next, hq => exact hq.elim
  | .ok .brk, hq => exact hq.elim
  | .ok .cont, hq => exact hq.elim
end
end FC
namespace FC
open PySem PySem.Spec PyProof.Rows L2
/-! ### set(x), x a tuple of tuples of ints -/
abbrev set0 (w : World) : Obj := { cls := .type "set", dict := none, data := .set #[] 0 (.fresh 0 0 (!w.params.followText "set-order")) }
section
variable {P : Program} {w : World} {A : Around} {E : Value → Shared → Prop} {s : Shared}
theorem beyond {h : Heap} {b : Addr} (hb : h.objs.size ≤ b) : h.get? b = none := by
  cases q : h.get? b with
  | none => rfl
  | some o => exact absurd (Heap.lt_size q) (Nat.not_lt_of_le hb)
theorem mkset_tup {l : Addr} {items : Array Value} (ks : List (Addr × List Int)) {Q : Value → Shared → Prop} (hh : A.handled = none) (ht : s.heap.IsTuple l items) (hi : items.toList = ks.map fun q => Value.ref q.1)
    (hk : ∀ q ∈ ks, IsT P w s.heap q.2 q.1) (hf : ks.length < 64) (hu : A.units + 3 < cLine)
    (fin : ∀ (h' : Heap) (tk : Nat) L es ep t, SetTR P w h' s.heap.objs.size L es ep t → Got ks ks.length L → (∀ b o, s.heap.get? b = some o → h'.get? b = some o) → Q (.ref s.heap.objs.size) { s with heap := h', toks := tk }) :
    wpAny (model P w) A (call (.type "set") [.ref l]) Q E s := by
  have num : items.size = ks.length := by
    rw [← Array.length_toList, hi, List.length_map]
  obtain ⟨mro, above, isMro⟩ := F.called_set.mro
  have w1 := F.called_set.made
  have w2 := F.called_set.sub
  have w3 := F.called_set.notType
  have w4 := F.called_set.canCreate
  have w5 := F.typeCall_set_1 (.ref l)
  refine wpAny_call (codeAny_of_tree ?_)
  show wpAny _ _ (callAny (.type "set") _) _ _ _
  refine wpAny_pure ⟨Code.quiet_builtin _ (by decide +kernel), codeAny_builtin F.entry_type_call ?_⟩
  rw [Around.under_plain (weight_type_call_type "set" [.ref l] []) rfl]
  repeat (any_goals (first | assumption | wp_step))
  -- the new object
  refine codeAny_mono (code_set_led1 (.ref l) (E := E) (Q₁ := fun v z => v = .ref s.heap.objs.size ∧ z = { s with heap := s.heap.push (set0 w) }) ⟨rfl, rfl⟩) fun r z hz => ?_
  match r, hz with
  | .error e, hz => exact hz
  | .ok .next, hz => exact hz.elim
  | .ok .brk, hz => exact hz.elim
  | .ok .cont, hz => exact hz.elim
  | .ok (.ret v), hz =>
    obtain ⟨rfl, rfl⟩ := hz
    have at0 : (s.heap.push (set0 w)).get? s.heap.objs.size = some (set0 w) := Heap.get?_push_size _ rfl
    have ty0 : Shared.TypeIs { s with heap := s.heap.push (set0 w) } (.ref s.heap.objs.size) "set" := ⟨_, at0, rfl⟩
    have i1 := F.called_set.init.lookup
    have i2 := F.called_set.init.bind (.ref s.heap.objs.size)
    repeat (any_goals (first | assumption | wp_step))
    -- its __init__
    refine codeAny_mono (codeAny_call_builtin (R := wants (fun r z => r = .none ∧ ∃ h' tk L es ep t, z = { s with heap := h', toks := tk } ∧ SetTR P w h' s.heap.objs.size L es ep t ∧ Got ks ks.length L ∧ (∀ b o, s.heap.get? b = some o → h'.get? b = some o)) E)
      F.called_set.init.plain F.entry_set_init (check_set_init_1 ty0 ?_)) fun r z hz => ?_
    · obtain ⟨ob, hob, cob, nob, dob⟩ := ht
      obtain ⟨c0, d0, dat0, sl0⟩ := ob
      simp only at cob dob
      subst cob dob
      have at1 : (s.heap.push (set0 w)).get? l = some { cls := .type "tuple", dict := d0, data := .seq items nob, slots := sl0 } := Heap.get?_push_of_some _ hob
      have s1 := F.sub_tuple_set
      have s2 := F.sub_tuple_frozenset
      have s3 : (Value.type "tuple" == Value.type "dict") = false := by decide
      have tup1 : (s.heap.push (set0 w)).IsTuple l items := ⟨_, at1, rfl, nob, rfl⟩
      have low : l < s.heap.objs.size := Heap.lt_size hob
      have sz1 : (s.heap.push (set0 w)).objs.size = s.heap.objs.size + 1 := Heap.size_push ..
      unfold Builtin.«set.__init__» noKeywords Builtin.Frozenset.updateFrom
      generalize ePI : pyIter = PI
      wp_walk
      subst ePI
      refine wpAny_pyIter_tuple tup1 (wpAny_bind (wpAny_runValue ?_))
      have hn3 : A.in1.in1.in1.handled = none := by simp [hh]
      have apart1 : l ≠ (s.heap.push (set0 w)).objs.size := by rw [sz1]; exact Nat.ne_of_lt (Nat.lt_succ_of_lt low)
      have apart2 : s.heap.objs.size ∉ [(s.heap.push (set0 w)).objs.size, l] := by
        rw [sz1]
        simp only [List.mem_cons, List.not_mem_nil, or_false, not_or]
        exact ⟨Nat.ne_of_lt (Nat.lt_succ_self _), Nat.ne_of_gt low⟩
      have each : ∀ (i : Nat) (v : Value), items[i]? = some v → ∃ q, ks[i]? = some q ∧ v = .ref q.1 := fun i v hv => by
        have e1 : (ks.map fun q => Value.ref q.1)[i]? = some v := by rw [← hi, Array.getElem?_toList]; exact hv
        rw [List.getElem?_map] at e1
        obtain ⟨q, e2, e3⟩ := Option.map_eq_some_iff.mp e1
        exact ⟨q, e2, e3.symm⟩
      refine set_update_tups ((Walks.tuple hn3 _ l apart1 items).toS) s.heap.objs.size apart2 ks num hf each s.heap hk (beyond (Nat.le_refl _)) (fun b hb => beyond ?_) hu (items.size - 0) 0 _ (by omega) (Nat.zero_le _) ⟨⟨_, Heap.get?_push_size _ rfl, rfl, rfl⟩, tup1.push _⟩ (fun b o e => Heap.get?_push_of_some _ (Heap.get?_push_of_some _ e)) ⟨[], #[], 0, _, setTR_fresh (Heap.get?_push_of_some _ at0), Got.zero ks⟩ ?_
      · rw [List.mem_singleton.mp hb, sz1]
        exact Nat.le_succ _
      · intro z L es ep t mv hS got kp
        obtain ⟨h', g', d', tk', os'⟩ := z
        have e1 : g' = s.gens := mv.gens
        have e2 : d' = s.drawn := mv.drawn
        have e3 : os' = s.os := mv.os
        subst e1 e2 e3
        rw [num] at got
        show wpAny _ _ _ _ _ _
        refine wpAny_pure ?_
        show wpAny _ _ (ret Value.none) _ _ _
        exact wpAny_pure ⟨rfl, h', tk', L, es, ep, t, rfl, hS, got, kp⟩
    · match r, hz with
      | .error e, hz => exact hz
      | .ok .next, hz => exact hz.elim
      | .ok .brk, hz => exact hz.elim
      | .ok .cont, hz => exact hz.elim
      | .ok (.ret v), hz =>
        obtain ⟨rfl, h', tk, L, es, ep, t, rfl, hS, got, kp⟩ := hz
        repeat (any_goals (first | assumption | wp_step))
        exact fin _ _ _ _ _ _ hS got kp
end
end FC
namespace FC
open PySem PySem.Spec PyProof.Rows L2
/-! ### isinstance -/
def isiB (T t : String) : Option Bool := if t ∈ tyNs ∧ T ∈ ["int", "bool", "str", "tuple", "list"] then some (decide (t = T) || (decide (t = "bool") && decide (T = "int"))) else none
theorem isiB_ok {K : PySem.W.Frag} {T t : String} {r : Bool} (h : isiB T t = some r) : PySem.W.kitOne K (.type t) (.type T) = some r := by
  refine kit_ty ?_
  have all : ∀ t ∈ tyNs, ∀ T ∈ ["int", "bool", "str", "tuple", "list"], kitB t T = some (decide (t = T) || (decide (t = "bool") && decide (T = "int"))) := by decide +kernel
  unfold isiB at h
  split at h
  · rename_i hz
    cases h
    exact all t hz.1 T hz.2
  · cases h
/-- what of a class isinstance asks -/
structure InsTy (K : PySem.W.Frag) (Ca : Addr) : Prop where
  cl : Cls K Ca
  ha : PySem.W.findIn K (.ref Ca) "__class__" = some (some (.builtin "object.__class__"))
  hn : PySem.W.specialIn K (.builtin "object.__class__") "__get__" = some (some (.builtin "getset_descriptor.__get__"))
  htk : PySem.W.takesIn K (.builtin "object.__class__") = some true
  hm : PySem.W.mroIn K Ca (.type "object") = some true
def dIsi (fb : String → Option Bool) (fc : Nat → Option Bool) : D → Option Bool
  | .non => fb "NoneType"
  | .bl _ => fb "bool"
  | .int _ => fb "int"
  | .str _ => fb "str"
  | .lst _ => fb "list"
  | .tup _ => fb "tuple"
  | .ins c _ => fc c
  | _ => none
section
variable {C : Ct} {W : WX} {X : Cx} {m p m1 p1 m2 p2 : Bool} {a b e' e : Expr} {es : List Expr} {fa fb : F D} {fr : F (List AV)} {x : Str} {pn pos : Pos} {i : Nat}
theorem fx_isi {ce : Expr} {cv : V} {cu : Value} {gb : String → Option Bool} {gc : Nat → Option Bool} (hce : PE X ce (tC cv)) (hk : ClsV cv cu) (hb : ∀ t r, gb t = some r → PySem.W.kitOne X.K (.type t) cu = some r) (hc : ∀ c r, gc c = some r → InsTy X.K (C.cl c) ∧ PySem.W.kitOne X.K (.ref (C.cl c)) cu = some r)
    (ha : FX C W m p X a fa) (hm : X.mg "isinstance" = none) (hg : Gl X "isinstance") (hs : starEach [a, ce] X.env = (false, eval a X.env) :: starEach [ce] X.env := by rfl) (hs2 : starEach [ce] X.env = (false, eval ce X.env) :: starEach [] X.env := by rfl) (hpl : (backTo pos (starEach [ce] X.env)).any (·.1) = false := by rfl) :
    FX C W true p X (.Call (.Name "isinstance" pn) [a, ce] [] pos) (f1 (fun d => (dIsi gb gc d).map D.bl) fa) :=
  fx1 (r := fun x H Q => rIsi X.K [x, cv] H Q) ha (fun ta h => pe_callB call_isi hg hm (by rfl) (pa_cons h (pa_cons hce pa_nil hs2) hs) (by decide) (by decide) hs hpl) fun M H x dx d Q hd sx eg k => by
    obtain ⟨r, e1, rfl⟩ := Option.map_eq_some_iff.mp eg
    have fin : ∀ t, TyX X.K H x t → PySem.W.kitOne X.K t cu = some r → rIsi X.K [x, cv] H Q := fun t h1 h2 => ⟨x, cv, t, cu, r, rfl, hk, h1, h2, k _ H (Keep.refl _ _) (.bl _)⟩
    cases dx with
    | non => rw [sx.nonH] at fin ⊢; exact fin _ (.base .non) (hb _ _ e1)
    | bl b => rw [sx.blH] at fin ⊢; exact fin _ (.base (.bl b)) (hb _ _ e1)
    | int i => rw [sx.intH] at fin ⊢; exact fin _ (.base (.int i)) (hb _ _ e1)
    | str i => rw [sx.strH] at fin ⊢; exact fin _ (.base (.str i)) (hb _ _ e1)
    | lst xs => obtain ⟨a, vs, rfl, h1, _⟩ := sx.lstH; exact fin _ (.base (.lst h1)) (hb _ _ e1)
    | tup xs => obtain ⟨a, vs, rfl, h1, _⟩ := sx.tupH; exact fin _ (.base (.tup h1)) (hb _ _ e1)
    | ins c fs =>
      obtain ⟨a, dx, vfs, rfl, h1, _⟩ := sx.insH
      obtain ⟨z, e2⟩ := hc c r e1
      exact fin _ (.base (.ins h1 z.cl z.ha z.hn z.htk z.hm)) e2
    | dct _ => cases e1
    | raw _ => cases e1
    | cls _ => cases e1
    | ft _ => cases e1
/-! ### repr of an int -/
/-! ### len(set(x)) -/
def ded : List (List Int) → List (List Int)
  | [] => []
  | x :: r => if x ∈ ded r then ded r else x :: ded r
theorem ded_mem : ∀ (l : List (List Int)) (x : List Int), x ∈ ded l ↔ x ∈ l
  | [], x => Iff.rfl
  | y :: r, x => by
    have ih := ded_mem r
    simp only [ded]
    split
    · rename_i h
      rw [ih x, List.mem_cons]
      exact ⟨.inr, fun z => z.elim (fun q => by rw [q]; exact (ih y).mp h) id⟩
    · rw [List.mem_cons, List.mem_cons, ih x]
theorem ded_nodup : ∀ l : List (List Int), (ded l).Nodup
  | [] => List.nodup_nil
  | y :: r => by
    simp only [ded]
    split
    · exact ded_nodup r
    · rename_i h
      exact List.nodup_cons.mpr ⟨h, ded_nodup r⟩
theorem ded_of_nodup : ∀ {l : List (List Int)}, l.Nodup → ded l = l
  | [], _ => rfl
  | y :: r, h => by
    obtain ⟨h1, h2⟩ := List.nodup_cons.mp h
    simp only [ded, ded_of_nodup h2]
    rw [if_neg h1]
theorem len_le {α : Type} [DecidableEq α] : ∀ {l m : List α}, l.Nodup → (∀ x ∈ l, x ∈ m) → l.length ≤ m.length
  | [], _, _, _ => Nat.zero_le _
  | x :: r, m, nd, h => by
    obtain ⟨h1, h2⟩ := List.nodup_cons.mp nd
    have hx := h x List.mem_cons_self
    have ih := len_le (l := r) (m := m.erase x) h2 fun y hy => (List.mem_erase_of_ne (fun e => h1 (by rw [← e]; exact hy))).mpr (h y (List.mem_cons_of_mem _ hy))
    rw [List.length_erase_of_mem hx] at ih
    have : 0 < m.length := List.length_pos_of_mem hx
    rw [List.length_cons]
    omega
theorem len_eq {α : Type} [DecidableEq α] {l m : List α} (h1 : l.Nodup) (h2 : m.Nodup) (h : ∀ x, x ∈ l ↔ x ∈ m) : l.length = m.length := Nat.le_antisymm (len_le h1 fun x hx => (h x).mp hx) (len_le h2 fun x hx => (h x).mpr hx)
def dTI : D → Option (List Int)
  | .tup xs => dInts xs
  | _ => none
def dTIs : List D → Option (List (List Int))
  | [] => some []
  | d :: r => (dTI d).bind fun x => (dTIs r).map (x :: ·)
def dLenSet (d : D) : Option D := (dItems d).bind fun xs => (dTIs xs).bind fun ks => if ks.length < 64 then some (.int (ded ks).length) else none
theorem dTIs_rep {K : PySem.W.Frag} {M : Addr → Prop} {H : Hp} : ∀ {xs : List D} {vs : List V} {ks : List (List Int)}, RepL C M H vs xs → dTIs xs = some ks → ∃ qs : List (Addr × List Int), vs = qs.map (fun q => V.ref q.1) ∧ qs.map (·.2) = ks ∧ ∀ q ∈ qs, SqT K H q.1 (q.2.map V.int)
  | [], _, _, .nil, e => by cases e; exact ⟨[], rfl, rfl, fun _ z => nomatch z⟩
  | d :: r, _, ks, .cons (v := v) r1 r2, e => by
    simp only [dTIs, Option.bind_eq_some_iff, Option.map_eq_some_iff] at e
    obtain ⟨x, e1, ks', e2, rfl⟩ := e
    obtain ⟨qs, h1, h2, h3⟩ := dTIs_rep (K := K) r2 e2
    cases d with
    | tup ys =>
      obtain ⟨a, us, rfl, ha, _, ru⟩ := (SRep.rep r1).tupH
      have ey := dInts_eq (show dInts ys = some x from e1)
      subst ey
      have eu := ru.ints
      subst eu
      exact ⟨(a, x) :: qs, by rw [h1]; rfl, by rw [← h2]; rfl, fun q hq => (List.mem_cons.mp hq).elim (fun z => by rw [z]; exact .inl (.inl ha)) (h3 q)⟩
    | _ => cases e1
theorem pe_lenSet {ta : TE} {p2' q : Pos} (hc : X.calm = true) (hu : X.A.units + 64 < cLine) (hg : Gl X "len") (hm : X.mg "len" = none) (hg2 : Gl X "set") (hm2 : X.mg "set" = none) (ha : PE X a ta) (na : starEach [a] X.env = (false, eval a X.env) :: starEach [] X.env := by rfl) :
    PE X (.Call (.Name "len" pn) [.Call (.Name "set" p2') [a] [] q] [] pos) (fun σ H Q => ta σ H fun x H1 => ∃ (l : Addr) (ks : List (Addr × List Int)), x = .ref l ∧ (SqL X.K H1 l (ks.map fun q => V.ref q.1) ∨ SqT X.K H1 l (ks.map fun q => V.ref q.1)) ∧ (∀ q ∈ ks, SqT X.K H1 q.1 (q.2.map V.int)) ∧ ks.length < 64 ∧ Q (.int (ded (ks.map (·.2))).length) H1) := by
  refine ⟨fun pins s σ H Q I h => Call_ (ld_blt I hg hm PySem.boot_len (PyProof.Rows.callWith_builtin1 (PyProof.Rows.args_cons ?_ rfl) rfl rfl))⟩
  refine Call_ (ld_blt I hg2 hm2 PyProof.Rows.boot_set ?_)
  refine PyProof.Rows.callWith_type1 (PyProof.Rows.args_cons (thn (ha.run pins s σ H _ I h) fun v s1 ⟨x, H1, I1, r1, q1⟩ => PyProof.Rows.args_nil ?_) na) na rfl
  obtain ⟨l, ks, rfl, hq, hk, hf, q1⟩ := q1
  have ev : v = Value.ref l := r1
  subst ev
  have fin : ∀ (h' : Heap) (tk : Nat) L es ep t, SetTR X.prog X.w h' s1.heap.objs.size L es ep t → Got ks ks.length L → (∀ b o, s1.heap.get? b = some o → h'.get? b = some o) → wpAny (model X.prog X.w) X.A (call (.builtin "len") [.ref s1.heap.objs.size]) (EP X pins σ Q) X.xe { s1 with heap := h', toks := tk } := fun h' tk L es ep t R g k => by
    obtain ⟨o, ho, hex, hd⟩ := R.ob
    have I2 : Inv X pins σ H1 { s1 with heap := h', toks := tk } := I1.kept k
    have hl : L.length = (ded (ks.map (·.2))).length := by
      rw [← List.length_map (f := fun q : Addr × List Int => q.2)]
      refine len_eq R.nd (ded_nodup _) fun y => ?_
      rw [ded_mem]
      constructor
      · intro z
        obtain ⟨q, e1, e2⟩ := List.mem_map.mp z
        exact List.mem_map.mpr ⟨q, List.mem_of_mem_take (g.sub q e1), e2⟩
      · intro z
        obtain ⟨q, e1, e2⟩ := List.mem_map.mp z
        rw [← e2]
        exact g.all q (by rw [List.take_length]; exact e1)
    have few := R.few
    have hsz : es.size = L.length := SetTR.size (s := { s1 with heap := h', toks := tk }) R
    refine call_len_set ho hex hd (SetTR.fits (s := { s1 with heap := h', toks := tk }) R) (by omega) ⟨.int (ded (ks.map (·.2))).length, H1, I2.tok _, ⟨_, by rw [← hl, hsz]⟩, q1⟩
  rcases hq with hq | hq
  · obtain ⟨its, rv, pl, hz⟩ := I1.list hq
    exact call_set_tups (P := X.prog) (w := X.w) ks (I1.ok.hd hc) pl.isList (by simpa using refs_of_vals rv) (fun q hq => I1.isT (hk q hq)) hf (by omega) fun h' tk L es ep t R g k => PyProof.Rows.args_nil (fin h' tk L es ep t R g k)
  · obtain ⟨its, rv, pl, hz⟩ := I1.tuple hq
    exact mkset_tup (P := X.prog) (w := X.w) ks (I1.ok.hd hc) (show s1.heap.IsTuple l its.toArray from pl) (by simpa using refs_of_vals rv) (fun q hq => I1.isT (hk q hq)) hf (by omega) fun h' tk L es ep t R g k => PyProof.Rows.args_nil (fin h' tk L es ep t R g k)
/-- as a value -/
theorem fx_lenSet {p2' q : Pos} (hc : X.calm = true) (hu : X.A.units + 64 < cLine) (hg : Gl X "len") (hm : X.mg "len" = none) (hg2 : Gl X "set") (hm2 : X.mg "set" = none) (ha : FX C W m p X a fa) (na : starEach [a] X.env = (false, eval a X.env) :: starEach [] X.env := by rfl) :
    FX C W true p X (.Call (.Name "len" pn) [.Call (.Name "set" p2') [a] [] q] [] pos) (f1 dLenSet fa) :=
  fx1 (r := fun x H1 Q => ∃ (l : Addr) (ks : List (Addr × List Int)), x = .ref l ∧ (SqL X.K H1 l (ks.map fun q => V.ref q.1) ∨ SqT X.K H1 l (ks.map fun q => V.ref q.1)) ∧ (∀ q ∈ ks, SqT X.K H1 q.1 (q.2.map V.int)) ∧ ks.length < 64 ∧ Q (.int (ded (ks.map (·.2))).length) H1) ha (fun ta h => pe_lenSet hc hu hg hm hg2 hm2 h na) fun M H x dx d Q hd sx eg k => by
    unfold dLenSet at eg
    simp only [Option.bind_eq_some_iff] at eg
    obtain ⟨xs, e1, ks, e2, e3⟩ := eg
    split at e3
    case isFalse => cases e3
    rename_i hl
    cases e3
    have sq : ∃ l us, x = .ref l ∧ (SqL X.K H l us ∨ SqT X.K H l us) ∧ RepL C M H us xs := by
      cases dx with
      | lst ys => cases e1; obtain ⟨l, us, h1, h2, h3⟩ := sx.lstH; exact ⟨l, us, h1, .inl (.inl (.inl h2)), h3⟩
      | tup ys => cases e1; obtain ⟨l, us, h1, h2, _, h3⟩ := sx.tupH; exact ⟨l, us, h1, .inr (.inl (.inl h2)), h3⟩
      | _ => cases e1
    obtain ⟨l, us, rfl, h2, h3⟩ := sq
    obtain ⟨qs, rfl, rfl, h6⟩ := dTIs_rep (K := X.K) h3 e2
    exact ⟨l, qs, rfl, h2, h6, by simpa using hl, k _ H (Keep.refl _ _) (.int _)⟩
end
end FC
namespace FC
open PySem PySem.Spec PyProof.Rows L2
/-- a special method of a class -/
structure Spe (K : PySem.W.Frag) (Ca : Addr) (m : Str) (g : Addr) : Prop where
  at_ : PySem.W.findIn K (.ref Ca) m = some (some (.ref g))
  fn : PySem.W.isFn K (.ref g) = true
  fi : PySem.W.fnIn K g = true
/-- what stands behind the top -/
structure Sy (fb : List Fb) (fn lf : List DefP) (K : PySem.W.Frag) (mg : Str → Option Value) (base : Heap) : Prop where
  ex : ∃ h : Heap, K.In h ∧ h.Ns mainGlobals mg
  ok : obsK (fun K => fb.all fun f => f.ok K) fn K = valP fn
  tb : ∀ d ∈ lf, LamX.TabB base mg (codeA K (d.ad K)) (tabA K (d.ad K))
  nd : (lf.map fun d => tabA K (d.ad K)).Nodup
section
variable {fb : List Fb} {fn lf : List DefP} {K : PySem.W.Frag} {mg : Str → Option Value} {base : Heap}
theorem Sy.fact (S : Sy fb fn lf K mg base) (i : Nat) {f : Fb} (h : fb[i]? = some f) : f.ok K = true := List.all_eq_true.mp (saysP_ex S.ok) f (List.mem_of_getElem? h)
theorem Sy.def_ (S : Sy fb fn lf K mg base) (i : Nat) {d : DefP} (h : fn[i]? = some d) (hc : d.cl = [] := by rfl) : ∃ fd, FunD K d.name d.qual d.params d.body d.scope [] [] (d.ad K) fd := saysP_def S.ok i h hc
theorem Sy.defX (S : Sy fb fn lf K mg base) (i : Nat) {d : DefP} (h : fn[i]? = some d) (hc : d.cl = [("__class__" : Str)] := by rfl) : ∃ (oc : Value) (od : Option Addr) (dV kV doc pm : Value) (an : Option Addr) (cdv ct : Value) (osl : Array (Option Value)) (cc : Addr),
    K.lookup (d.ad K) = some ⟨oc, od, .func (PySem.W.fnX d.name d.qual d.params d.body d.scope [("__class__", cc)] dV kV doc pm an cdv ct), osl⟩ ∧ PySem.W.codeIn K cdv d.qual = true := saysP_defX S.ok i h hc
theorem Sy.glo (S : Sy fb fn lf K mg base) (i : Nat) {x : Str} (h : fb[i]? = some (.fa (.glo x)) := by rfl) : mg x = some (.ref (He.ga K x)) := by obtain ⟨h0, X, G⟩ := S.ex; exact He.glo_ok X G (S.fact i h)
theorem Sy.free (S : Sy fb fn lf K mg base) (i : Nat) {x : Str} (h : fb[i]? = some (.fa (.free x)) := by rfl) : mg x = none := by obtain ⟨h0, X, G⟩ := S.ex; exact He.free_ok X G (S.fact i h)
theorem Sy.int (S : Sy fb fn lf K mg base) (i : Nat) {x : Str} {z : Int} (h : fb[i]? = some (.fa (.int x z)) := by rfl) : ∃ t, mg x = some (.int z t) := by obtain ⟨h0, X, G⟩ := S.ex; exact He.int_ok X G (S.fact i h)
theorem Sy.str (S : Sy fb fn lf K mg base) (i : Nat) {x z : Str} (h : fb[i]? = some (.fa (.str x z)) := by rfl) : ∃ t, mg x = some (.str z t) := by obtain ⟨h0, X, G⟩ := S.ex; exact He.str_ok X G (S.fact i h)
theorem Sy.keep (S : Sy fb fn lf K mg base) (i : Nat) {x : Str} (h : fb[i]? = some (.fa (.keep x)) := by rfl) : PySem.W.keepIn K (.ref (He.ga K x)) = true := He.keep_ok (S.fact i h)
theorem Sy.cls (S : Sy fb fn lf K mg base) (i : Nat) {x : Str} (h : fb[i]? = some (.fa (.cls x)) := by rfl) : Cls K (He.ga K x) := He.cls_ok (S.fact i h)
theorem Sy.noat (S : Sy fb fn lf K mg base) (i : Nat) {x f : Str} (h : fb[i]? = some (.fa (.noat x f)) := by rfl) : NoAttr K (He.ga K x) f := He.noat_ok (S.fact i h)
theorem Sy.meth (S : Sy fb fn lf K mg base) (i : Nat) {x m : Str} (h : fb[i]? = some (.fa (.meth x m)) := by rfl) : Meth K (He.ga K x) m (He.ma K (He.ga K x) m) := He.meth_ok (S.fact i h)
theorem Sy.mkr (S : Sy fb fn lf K mg base) (i : Nat) {x : Str} (h : fb[i]? = some (.fa (.mkr x)) := by rfl) : Mk K (He.ga K x) (He.ma K (He.ga K x) "__init__") := He.mkr_ok (S.fact i h)
theorem Sy.isi (S : Sy fb fn lf K mg base) (i : Nat) {x : Str} (h : fb[i]? = some (.isi x) := by rfl) : InsTy K (He.ga K x) := by
  obtain ⟨c1, c⟩ := He.ba (S.fact i h)
  obtain ⟨c2, c⟩ := He.ba c
  obtain ⟨c3, c⟩ := He.ba c
  obtain ⟨c4, c5⟩ := He.ba c
  exact ⟨He.cls_ok c1, He.eqO_ok c2, He.eqO_ok c3, of_decide_eq_true c4, of_decide_eq_true c5⟩
theorem Sy.kit (S : Sy fb fn lf K mg base) (i : Nat) {x y : Str} {b : Bool} (h : fb[i]? = some (.kit x y b) := by rfl) : PySem.W.kitOne K (.ref (He.ga K x)) (.ref (He.ga K y)) = some b := of_decide_eq_true (S.fact i h)
theorem Sy.kitT (S : Sy fb fn lf K mg base) (i : Nat) {x : Str} {T : String} (h : fb[i]? = some (.kitT x T) := by rfl) : PySem.W.kitOne K (.ref (He.ga K x)) (.type T) = some false := of_decide_eq_true (S.fact i h)
theorem Sy.kitN (S : Sy fb fn lf K mg base) (i : Nat) {x : Str} {T : String} (h : fb[i]? = some (.kitN T x) := by rfl) : PySem.W.kitOne K (.type T) (.ref (He.ga K x)) = some false := of_decide_eq_true (S.fact i h)
theorem Sy.call (S : Sy fb fn lf K mg base) (i : Nat) {x : Str} (h : fb[i]? = some (.call x) := by rfl) : StX.CallO K (He.ga K x) (He.ma K (He.ga K x) "__call__") := by
  obtain ⟨c1, c⟩ := He.ba (S.fact i h)
  obtain ⟨c2, c3⟩ := He.ba c
  exact ⟨He.eqO_ok c1, c2, c3⟩
theorem Sy.spec (S : Sy fb fn lf K mg base) (i : Nat) {x m : Str} (h : fb[i]? = some (.spec x m) := by rfl) : Spe K (He.ga K x) m (He.ma K (He.ga K x) m) := by
  obtain ⟨c1, c⟩ := He.ba (S.fact i h)
  obtain ⟨c2, c3⟩ := He.ba c
  exact ⟨He.eqO_ok c1, c2, c3⟩
theorem Sy.bool (S : Sy fb fn lf K mg base) (i : Nat) {f : PySem.W.Frag → Bool} (h : fb[i]? = some (.bf f) := by rfl) : f K = true := S.fact i h
theorem Sy.prop (S : Sy fb fn lf K mg base) (i : Nat) {x f : Str} (h : fb[i]? = some (.prop x f) := by rfl) : PropOf K (He.ga K x) f (He.ma K (He.ga K x) f) (prG K (He.ga K x) f) := by
  obtain ⟨c1, c⟩ := He.ba (S.fact i h)
  obtain ⟨c2, c⟩ := He.ba c
  obtain ⟨c3, c4⟩ := He.ba c
  refine ⟨He.eqO_ok c1, He.eqO_ok c2, of_decide_eq_true c3, ?_⟩
  unfold prG
  split at c4
  · rename_i g r e
    rw [e]
    exact ⟨r, rfl⟩
  · cases c4
end
/-! ### the law -/
/-- how the script stands at the law's entry -/
def SvScript (ns : List Int) (sv : SV) : Prop := sv = .view (ns.map D.int) ∨ sv = .val (.lst (ns.map D.int))
theorem law_sp {C : Ct} {N : List Str} {b : F Fl} {H : Hp} {a : Addr} {ns : List Int} (hN : 1 ≤ N.length) (hT : LamX.Tabs C.T H) (hS : SqL C.K H a (ns.map V.int)) (hb : ∀ sv, SvScript ns sv → ∃ g, b (padG N.length [sv]) = .ok (.ret (.val (.bl true))) g) :
    spF C N 1 b [.ref a] H (fun v _ => v = .bl true) fun _ _ _ => False := by
  have go : ∀ sv, SvScript ns sv → SlotOk C (fun _ => 0) Nope H (some (.ref a)) sv → spF C N 1 b [.ref a] H (fun v _ => v = .bl true) fun _ _ _ => False := fun sv h1 h2 => by
    obtain ⟨g, e⟩ := hb sv h1
    have nt : ∀ {j : Nat} {t : Option Nat} {o : MO}, (padG N.length [sv])[j]? = some (.own t o) → False := fun {j t o} z => by
      rcases padG_at z with q | ⟨_, q⟩
      · cases j with
        | zero => rcases h1 with h1 | h1 <;> (rw [h1] at q; cases q)
        | succ j => simp at q
      · cases q
    refine ⟨rfl, fun _ => 0, Nope, padG N.length [sv], ⟨?_, fun j s x e1 e2 => ?_, fun j k t o t' o' c z => (nt z).elim, fun _ z => z.elim, hT⟩, ?_⟩
    · unfold L2.start padG
      simp only [List.length_append, List.length_map, List.length_replicate, List.length_cons, List.length_nil]
    · rcases padG_at e1 with q | ⟨_, q⟩
      · cases j with
        | zero =>
          cases q
          rw [start_at (v := .ref a) rfl] at e2
          cases e2
          exact h2
        | succ j => simp at q
      · rw [q]; trivial
    · rw [e]
      intro v M' σ' H' E' S' r
      cases (show Rep C M' H' v (.bl true) from r)
      rfl
  rcases hS with (h | ⟨o, h⟩) | h
  · exact go _ (.inr rfl) ⟨.ref a, rfl, .lst h id (repL_ints ns)⟩
  · exact go _ (.inl rfl) ⟨a, _, rfl, .inl ⟨o, h⟩, repL_ints ns⟩
  · exact go _ (.inl rfl) ⟨a, _, rfl, .inr (.inr h), repL_ints ns⟩
/-- the law's def is called at the heap behind the top, no repr under way; cs: code objects with their tables -/
theorem law_callG {P : Program} {w : World} {K : PySem.W.Frag} {mg mb : Str → Option Value} {CX : CXT} {k : Nat} {fa a : Addr} {cs : List (Addr × Addr)} {sp : Sp} {t : Shared} {us : List Value} {ns : List Int}
    (inK : K.In t.heap) (nG : t.heap.Ns mainGlobals mg) (nB : t.heap.Ns builtinsNs mb) (eB : ∀ x : Str, x ≠ "__name__" → mb x = bootBuiltins x) (nL : t.heap.NoLimit) (eg : t.gens = #[])
    (tE : ∀ p ∈ cs, t.heap.get? p.2 = some { cls := .none, data := .fields #[] }) (tK : ∀ p ∈ cs, K.lookup p.2 = none) (tH : ∀ p ∈ cs, PySem.W.codeHdIn K p.1 p.2 = true)
    (tM : ∃ (bm : Addr) (ob : Obj), mg "__builtins__" = some (.ref bm) ∧ bm ≠ builtinsNs ∧ t.heap.get? bm = some ob ∧ ob.cls = .type "module" ∧ ob.dict = some builtinsNs ∧ ob.data = .plain)
    (ea : t.heap.get? a = some { cls := .type "list", data := .seq us.toArray }) (ri : IntsAre us ns) (lz : ns.length ≤ sizeLine) (room : RoomG k callerA)
    (F : ∀ b : Heap, K.In b → b.Ns mainGlobals mg → (∀ p ∈ cs, LamX.TabB b mg p.1 p.2) → FnG P w K mg b CX k fa sp)
    (go : ∀ H : Hp, (∀ p ∈ cs, H p.2 = some (.tbl #[])) → SqL K H a (ns.map V.int) → sp [.ref a] H (fun v _ => v = .bl true) fun _ _ _ => False)
    (noX : ∀ H e t', CX [] H t (fun _ _ _ => False) e t' → False) :
    codeAny (model P w) callerA (.call (.ref fa) ⟨[.ref a], []⟩) (fun r t' => r = .ok (.ret (.bool true)) ∧ OldK t.heap t'.heap ∧ t'.os = t.os ∧ AllBare t'.gens) t := by
  have vi := vals_ints ri
  have main : ∀ H : Hp, (∀ b u, H b = some u → (b = a ∧ K.lookup a = none ∧ u = .frz { cls := .type "list", data := .seq us.toArray } (.lst (ns.map V.int))) ∨ ((∃ p ∈ cs, p.2 = b) ∧ u = .tbl #[])) → (∀ p ∈ cs, H p.2 = some (.tbl #[])) → SqL K H a (ns.map V.int) →
      codeAny (model P w) callerA (.call (.ref fa) ⟨[.ref a], []⟩) (fun r t' => r = .ok (.ret (.bool true)) ∧ OldK t.heap t'.heap ∧ t'.os = t.os ∧ AllBare t'.gens) t := by
    intro H hH hC hS
    have hok : HOk P w H t.heap := fun b u z => by
      rcases hH b u z with ⟨e1, _, e2⟩ | ⟨⟨p, hp, e1⟩, e2⟩
      · subst e1 e2
        exact ⟨ea, by rw [List.length_map]; exact lz, us, _, vi, ea⟩
      · subst e1 e2
        exact tE p hp
    have clear : ∀ {b : Addr}, (b = a → K.lookup a = none → False) → (∀ p ∈ cs, p.2 = b → False) → H b = none := fun {b} n1 n2 => by
      cases z : H b with
      | none => rfl
      | some u =>
        rcases hH b u z with ⟨e1, e2, _⟩ | ⟨⟨p, hp, e1⟩, _⟩
        · exact (n1 e1 e2).elim
        · exact (n2 p hp e1).elim
    have ns2 : ∀ {b : Addr} {m : Str → Option Value}, t.heap.Ns b m → (hidT t.heap H).Ns b m := fun {b m} ⟨o, es, ep, e, d, r⟩ => ⟨o, es, ep, hidT_get e (clear (fun q _ => by
      rw [q, ea] at e
      cases e
      cases d) fun p hp q => by
      rw [← q, tE p hp] at e
      cases e
      cases d), d, r⟩
    have inB : K.In (hidT t.heap H) := fun b o e => hidT_get (inK b o e) (clear (fun q z => by
      rw [q, z] at e
      cases e) fun p hp q => by
      rw [← q, tK p hp] at e
      cases e)
    have md : Mod K mg (hidT t.heap H) := ⟨inB, ns2 nG, ⟨mb, ns2 nB, eB⟩, nL.elim fun c z => ⟨c, ns2 z.1, z.2⟩⟩
    have e0 : Env0 P w K mg (hidT t.heap H) callerA [] t H := ⟨rfl, md, fun _ _ e => of_hidT e, Nat.le_of_eq (hidT_size _ _), trivial, fun b z => absurd (show b ∈ ([] : List Addr) from z) List.not_mem_nil, hok, .of_eq eg⟩
    have tB : ∀ p ∈ cs, LamX.TabB (hidT t.heap H) mg p.1 p.2 := fun p hp => by
      obtain ⟨bm, ob, m1, m2, m3, m4, m5, m6⟩ := tM
      have notG : ∀ {b : Addr} {m : Str → Option Value}, t.heap.Ns b m → bm ≠ b ∧ b ≠ p.2 := fun {b m} ⟨o, es, ep, e, d, _⟩ => by
        constructor
        · intro q
          rw [q, e] at m3
          cases m3
          rw [d] at m6
          cases m6
        · intro q
          rw [q, tE p hp] at e
          cases e
          cases d
      refine NdefX.tabB_of_K inB (tH p hp) ⟨bm, ob, m1, m2, (notG nG).1, fun q => ?_, hidT_get m3 (clear (fun q _ => ?_) fun r hr q => ?_), m4, m5, m6⟩ (notG nG).2
      · rw [q, tE p hp] at m3
        cases m3
        cases m6
      · rw [q, ea] at m3
        cases m3
        cases m6
      · rw [← q, tE r hr] at m3
        cases m3
        cases m6
    refine codeAny_mono (F _ inB (ns2 nG) tB callerA [] t H [.ref a] [.ref a] _ _ room e0 (.cons rfl .nil) (go H hC hS)) fun r t' h => ?_
    match r, h with
    | .error e, h => exact (noX H e t' h).elim
    | .ok .next, h => exact h.elim
    | .ok .brk, h => exact h.elim
    | .ok .cont, h => exact h.elim
    | .ok (.ret u), ⟨v, H', os, bare, un, hok', r', q⟩ =>
      have q2 : v = .bl true := q
      subst q2
      obtain rfl : u = Value.bool true := r'
      have stay : ∀ b o, t.heap.get? b = some o → t'.heap.get? b = some o ∨ ∃ p ∈ cs, p.2 = b := fun b o e => by
        cases z : H b with
        | none => exact .inl (un.keep b o e z (fun y => absurd (show b ∈ ([] : List Addr) from y) List.not_mem_nil) (by simp))
        | some u =>
          rcases hH b u z with ⟨_, _, e2⟩ | ⟨p, _⟩
          · rw [e2] at z
            have z2 := un.frzs b _ _ z
            obtain ⟨e3, _⟩ := hok b _ z
            obtain ⟨e4, _⟩ := hok' b _ z2
            rw [e] at e3
            cases e3
            exact .inl e4
          · exact .inr p
      have grow : ∀ p ∈ cs, ∃ more : Array Value, t'.heap.get? p.2 = some { cls := .none, data := .fields more } := fun p hp => by
        obtain ⟨more, z⟩ := un.tbls p.2 #[] (hC p hp)
        exact ⟨_, hok' p.2 _ z⟩
      refine ⟨rfl, ⟨fun b o e => ?_, fun b o e => ?_⟩, os, bare⟩
      · rcases stay b o e with y | ⟨p, hp, y⟩
        · exact .inl y
        · subst y
          obtain ⟨more, y⟩ := grow p hp
          rw [tE p hp] at e
          cases e
          exact .inr (.inl ⟨((PySem.W.codeHd_of_K inK (tH p hp)).tab (tE p hp)).isCodeTable, rfl, #[], more, rfl, by rw [Array.empty_append]; exact y⟩)
      · rcases stay b o e with y | ⟨p, hp, y⟩
        · exact ⟨o, y⟩
        · subst y
          obtain ⟨more, y⟩ := grow p hp
          exact ⟨_, y⟩
  cases hk : K.lookup a with
  | some o =>
    have e := inK a o hk
    rw [ea] at e
    cases e
    refine main (fun b => if ∃ p ∈ cs, p.2 = b then some (.tbl #[]) else none) (fun b u z => ?_) (fun p hp => if_pos ⟨p, hp, rfl⟩) (.inr ⟨_, us.toArray, _, hk, rfl, rfl, rfl, by rw [List.size_toArray, ri.length]; exact lz, by simpa using vi⟩)
    by_cases q : ∃ p ∈ cs, p.2 = b
    · have z2 := (if_pos q).symm.trans z
      cases z2
      exact .inr ⟨q, rfl⟩
    · cases (if_neg q).symm.trans z
  | none =>
    have na : ∀ p ∈ cs, p.2 ≠ a := fun p hp q => by
      have e := tE p hp
      rw [q, ea] at e
      cases e
    refine main (fun b => if b = a then some (.frz { cls := .type "list", data := .seq us.toArray } (.lst (ns.map V.int))) else if ∃ p ∈ cs, p.2 = b then some (.tbl #[]) else none) (fun b u z => ?_) (fun p hp => (if_neg (na p hp)).trans (if_pos ⟨p, hp, rfl⟩)) (.inl (.inr ⟨_, if_pos rfl⟩))
    by_cases q : b = a
    · have z2 := (if_pos q).symm.trans z
      cases z2
      exact .inl ⟨q, hk, rfl⟩
    · have z1 := (if_neg q).symm.trans z
      by_cases q2 : ∃ p ∈ cs, p.2 = b
      · have z2 := (if_pos q2).symm.trans z1
        cases z2
        exact .inr ⟨q2, rfl⟩
      · cases (if_neg q2).symm.trans z1
/-- what the law's def promises -/
def LawG (l : PySem.W.OpenLaw) (w : World) (K : PySem.W.Frag) (k n : Nat) (mg : Str → Option Value) (fa : Addr) (h : Heap) : Prop :=
  ∃ (sp : Sp) (cs : List (Addr × Addr)), ((∀ p ∈ cs, h.get? p.2 = some { cls := .none, data := .fields #[] }) ∧ (∀ p ∈ cs, K.lookup p.2 = none) ∧ (∀ p ∈ cs, PySem.W.codeHdIn K p.1 p.2 = true)) ∧
    (∀ (H : Hp) (a : Addr) (ns : List Int), ns.length ≤ n → (∀ z ∈ ns, Builtin.Int.intBits z ≤ 1048576) → (∀ p ∈ cs, H p.2 = some (.tbl #[])) → SqL K H a (ns.map V.int) → sp [.ref a] H (fun v _ => v = .bl true) fun _ _ _ => False) ∧
    ∀ b : Heap, K.In b → b.Ns mainGlobals mg → (∀ p ∈ cs, LamX.TabB b mg p.1 p.2) → FnG l.prog w K mg b (L2.CX l.prog w) k fa sp
theorem no_cx {P : Program} {w : World} {H : Hp} {s : Shared} {e : Value} {s' : Shared} : L2.CX P w [] H s (fun _ _ _ => False) e s' → False := by
  rintro ⟨_, _, _, _, _, _, _, _, _, _, _, _, z⟩
  exact z
theorem walk_G {l : PySem.W.OpenLaw} {n k : Nat} {q : Program} {loose : List Str} {XP : (Str → Option Value) → Heap → Prop} {YP : World → Heap → Prop} {d : DefRec}
    (hn : l.most = some n) (hz : n ≤ sizeLine) (hd : d.params.defaults = []) (room : RoomG k callerA)
    (F : ∀ (w : World) (mg : Str → Option Value) (fa : Addr) (h : Heap), YP w h → h.Ns mainGlobals mg → mg d.name = some (.ref fa) → ∃ K : PySem.W.Frag, K.In h ∧ LawG l w K k n mg fa h) : PySem.W.WalkO q loose XP YP l.row.toRowW d [] (fun f vs => PySem.call f vs) :=
  Att.attach_callB hn hd fun w s₀ s₁ mg mb fa o pm cd doc a vs ns G Y ho h1 h2 hm hobj hi hlen hbits hg => by
    obtain ⟨K, KX, sp, cs, ⟨t1, t2, t3⟩, go, hF⟩ := F w mg fa _ Y G.T.g hm
    exact law_callG KX G.T.g G.T.b G.T.builtins G.T.nolimit hg t1 t2 t3 G.T.bmain hobj hi (Nat.le_trans hlen hz) room hF (fun H => go H a ns hlen hbits) fun _ _ _ => no_cx
/-- the names of a def's lambdas -/
def lamQ (d : DefP) : Str := (envOfC d.qual d.scope 0 0 .none).qual ++ "<lambda>"
theorem lawG_of {l : PySem.W.OpenLaw} {w : World} {K : PySem.W.Frag} {C : Ct} {lf : List DefP} {h : Heap} (hC : C.K = K) (hC2 : C.T = lf.map fun d => (tabA K (d.ad K), lamQ d)) (t : Tab0 lf K h) {k n : Nat} {mg : Str → Option Value} {fa : Addr} {N : List Str} {b : F Fl} (hN : 1 ≤ N.length)
    (hF : ∀ base : Heap, K.In base → base.Ns mainGlobals mg → (∀ d ∈ lf, LamX.TabB base mg (codeA K (d.ad K)) (tabA K (d.ad K))) → FnG l.prog w K mg base (L2.CX l.prog w) k fa (spF C N 1 b)) (hb : ∀ (ns : List Int), ns.length ≤ n → (∀ z ∈ ns, Builtin.Int.intBits z ≤ 1048576) → ∀ sv, SvScript ns sv → ∃ g, b (padG N.length [sv]) = .ok (.ret (.val (.bl true))) g) : LawG l w K k n mg fa h := by
  subst hC
  have un : ∀ p ∈ lf.map (fun d => (codeA C.K (d.ad C.K), tabA C.K (d.ad C.K))), ∃ d ∈ lf, p = (codeA C.K (d.ad C.K), tabA C.K (d.ad C.K)) := fun p hp => by
    obtain ⟨d, hd, e⟩ := List.mem_map.mp hp
    exact ⟨d, hd, e.symm⟩
  refine ⟨_, lf.map (fun d => (codeA C.K (d.ad C.K), tabA C.K (d.ad C.K))), ⟨fun p hp => ?_, fun p hp => ?_, fun p hp => ?_⟩, fun H a ns h1 h2 h3 h4 => law_sp hN (fun p hp => ?_) h4 (hb ns h1 h2), fun base i1 i2 i3 => hF base i1 i2 fun d hd => i3 _ (List.mem_map.mpr ⟨d, hd, rfl⟩)⟩
  · obtain ⟨d, hd, rfl⟩ := un p hp; exact t.emp d hd
  · obtain ⟨d, hd, rfl⟩ := un p hp; exact t.out d hd
  · obtain ⟨d, hd, rfl⟩ := un p hp; exact t.hd d hd
  · rw [hC2] at hp
    obtain ⟨d, hd, rfl⟩ := List.mem_map.mp hp
    exact LamX.TabS.nil (h3 _ (List.mem_map.mpr ⟨d, hd, rfl⟩))
end FC
namespace FC
open PySem PySem.Spec PyProof.Rows L2
/-! ### what the mirrors do: common facts -/
theorem beqI (i j : Int) : (i == j) = decide (i = j) := by
  by_cases h : i = j
  · subst h; simp
  · simp [h]
theorem dEq_int (i j : Int) : dEq (.int i) (.int j) = some (.bl (decide (i = j))) := by
  simp only [dEq, D.data]
  rw [if_pos (by simp [PyData.depth])]
  simp [PyData.eqv, beqI]
theorem dNe_int (i j : Int) : dNe (.int i) (.int j) = some (.bl (!decide (i = j))) := by
  simp only [dNe, D.data]
  rw [if_pos (by simp [PyData.depth])]
  simp [PyData.eqv, beqI]
/-- a pair, pairs -/
def limD (p : Int × Int) : D := .tup [.int p.1, .int p.2]
def limsD (ps : List (Int × Int)) : List D := ps.map limD
def limY (p : Int × Int) : PyData := .tuple [.int p.1, .int p.2]
theorem limD_data (p : Int × Int) : (limD p).data = some (limY p) := by simp [limD, limY, D.data, D.dataL]
theorem limsD_data : ∀ ps : List (Int × Int), D.dataL (limsD ps) = some (ps.map limY)
  | [] => rfl
  | p :: ps => by
    have ih := limsD_data ps
    unfold limsD at ih ⊢
    simp only [List.map_cons, D.dataL, limD_data, ih]
theorem limsD_length (ps : List (Int × Int)) : (limsD ps).length = ps.length := List.length_map ..
theorem limY_eqv (p q : Int × Int) : PyData.eqv (limY p) (limY q) = decide (p = q) := by
  obtain ⟨a, b⟩ := p
  obtain ⟨c, d⟩ := q
  simp [limY, PyData.eqv, PyData.eqvAll, beqI, Bool.decide_and, Prod.mk.injEq]
theorem prYs_lay : ∀ ps : List (Int × Int), PyData.canLayAll0 (ps.map limY) = true ∧ PyData.depthAll (ps.map limY) ≤ 1
  | [] => ⟨rfl, Nat.zero_le _⟩
  | p :: ps => by
    obtain ⟨h1, h2⟩ := prYs_lay ps
    refine ⟨?_, ?_⟩
    · simp only [List.map_cons, PyData.canLayAll0, h1, Bool.and_true]; rfl
    · simp only [List.map_cons, PyData.depthAll]
      have : PyData.depth (limY p) = 1 := rfl
      rw [this]
      omega
theorem limY_any (p : Int × Int) (ps : List (Int × Int)) : ((ps.map limY).any fun z => PyData.eqv z (limY p)) = decide (p ∈ ps) := by
  induction ps with
  | nil => simp
  | cons q ps ih =>
    rw [List.map_cons, List.any_cons, ih, limY_eqv]
    by_cases h : q = p
    · subst h; simp
    · have h2 : ¬ p = q := fun e => h e.symm
      simp [h, h2]
theorem dNotIn_pr (p : Int × Int) (ps : List (Int × Int)) : dNotIn (limD p) (.lst (limsD ps)) = some (.bl (!decide (p ∈ ps))) := by
  simp only [dNotIn, limD_data, limsD_data]
  rw [if_pos (Nat.le_trans (Nat.min_le_right _ _) (show (limY p).depth ≤ 64 by simp [limY, PyData.depth, PyData.depthAll])), limY_any]
theorem dTIs_pr : ∀ ps : List (Int × Int), dTIs (limsD ps) = some (ps.map fun p => [p.1, p.2])
  | [] => rfl
  | p :: ps => by
    have ih := dTIs_pr ps
    unfold limsD at ih ⊢
    simp only [List.map_cons, dTIs, ih, limD, dTI, dInts]
    rfl
theorem nodup_pr {ps : List (Int × Int)} (h : ps.Nodup) : (ps.map fun p => [p.1, p.2]).Nodup := by
  refine List.Pairwise.map _ (fun a b hne e => hne ?_) h
  simp only [List.cons.injEq, and_true] at e
  exact Prod.ext e.1 e.2
theorem dLenSet_pr {ps : List (Int × Int)} (h : ps.Nodup) (hl : ps.length < 64) : dLenSet (.tup (limsD ps)) = some (.int ps.length) := by
  simp only [dLenSet, dItems, Option.bind_some, dTIs_pr, List.length_map]
  rw [if_pos hl, ded_of_nodup (nodup_pr h), List.length_map]
/-! ### the combinators, applied -/
section
variable {α β δ : Type}
theorem bindA_ (f : F α) (k : α → F β) (γ : Gm) : F.bind f k γ = match f γ with | .ok a g => k a g | .ex e g => .ex e g | .st => .st := rfl
theorem f0A (d : D) (γ : Gm) : f0 d γ = .ok d γ := rfl
theorem f1A (k : α → Option β) (fa : F α) (γ : Gm) : f1 k fa γ = match fa γ with | .ok x g => liftO (k x) g | .ex e g => .ex e g | .st => .st := by
  unfold f1 F.bind
  cases fa γ <;> rfl
theorem f2A (k : α → β → Option δ) (fa : F α) (fb : F β) (γ : Gm) : f2 k fa fb γ = match fa γ with | .ok x g => (match fb g with | .ok y g2 => liftO (k x y) g2 | .ex e g2 => .ex e g2 | .st => .st) | .ex e g => .ex e g | .st => .st := by
  unfold f2 F.bind
  cases fa γ with
  | ok x g => simp only [F.bind] <;> cases fb g <;> rfl
  | _ => rfl
theorem liftS (a : α) (γ : Gm) : liftO (some a) γ = .ok a γ := rfl
theorem liftN (γ : Gm) : liftO (none : Option α) γ = .st := rfl
theorem seqA (s t : F Fl) (γ : Gm) : sSeq s t γ = match s γ with | .ok .nx g => t g | .ok f g => .ok f g | .ex e g => .ex e g | .st => .st := by
  unfold sSeq F.bind
  cases s γ with
  | ok f g => cases f <;> rfl
  | _ => rfl
theorem ifA (c : F Bool) (s t : F Fl) (γ : Gm) : sIf c s t γ = match c γ with | .ok true g => s g | .ok false g => t g | .ex e g => .ex e g | .st => .st := by
  unfold sIf F.bind
  cases c γ with
  | ok b g => cases b <;> rfl
  | _ => rfl
theorem retA (f : F D) (γ : Gm) : sRet f γ = match f γ with | .ok d g => .ok (.ret (.val d)) g | .ex e g => .ex e g | .st => .st := by
  unfold sRet F.bind
  cases f γ <;> rfl
theorem setA (i : Nat) (f : F D) (γ : Gm) : sSet i f γ = match f γ with | .ok d g => .ok .nx (g.set i (.val d)) | .ex e g => .ex e g | .st => .st := by
  unfold sSet F.bind
  cases f γ <;> rfl
theorem setNA (i : Nat) (f : F MO) (γ : Gm) : sSetNew i f γ = match f γ with | .ok o g => .ok .nx (g.set i (.own none o)) | .ex e g => .ex e g | .st => .st := by
  unfold sSetNew F.bind
  cases f γ <;> rfl
theorem exprA (f : F D) (γ : Gm) : sExpr f γ = match f γ with | .ok _ g => .ok .nx g | .ex e g => .ex e g | .st => .st := by
  unfold sExpr F.bind
  cases f γ <;> rfl
theorem nilA (γ : Gm) : sNil γ = .ok .nx γ := rfl
theorem aNilA (γ : Gm) : aNil γ = .ok [] γ := rfl
theorem aValA (f : F D) (r : F (List AV)) (γ : Gm) : aVal f r γ = match f γ with | .ok x g => (match r g with | .ok as g2 => .ok (.d x :: as) g2 | .ex e g2 => .ex e g2 | .st => .st) | .ex e g => .ex e g | .st => .st := by
  unfold aVal F.bind
  cases f γ with
  | ok x g => simp only [F.bind] <;> cases r g <;> rfl
  | _ => rfl
theorem aNewA (f : F MO) (r : F (List AV)) (γ : Gm) : aNew f r γ = match f γ with | .ok x g => (match r g with | .ok as g2 => .ok (.n x :: as) g2 | .ex e g2 => .ex e g2 | .st => .st) | .ex e g => .ex e g | .st => .st := by
  unfold aNew F.bind
  cases f γ with
  | ok x g => simp only [F.bind] <;> cases r g <;> rfl
  | _ => rfl
theorem callA (N : Nat) (b : F Fl) (r : F (List AV)) (γ : Gm) : fCall N b r γ = match r γ with | .ok as g => (match callR N b as g with | .ok v g2 => .ok v.1.d g2 | .ex e g2 => .ex e g2 | .st => .st) | .ex e g => .ex e g | .st => .st := by
  unfold fCall F.bind
  cases r γ with
  | ok x g => simp only [F.bind] <;> cases callR N b x g <;> rfl
  | _ => rfl
theorem nCallA (N : Nat) (b : F Fl) (r : F (List AV)) (γ : Gm) : nCall N b r γ = match r γ with | .ok as g => (match callR N b as g with | .ok v g2 => liftO (rvO v.1) g2 | .ex e g2 => .ex e g2 | .st => .st) | .ex e g => .ex e g | .st => .st := by
  unfold nCall F.bind
  cases r γ with
  | ok x g => simp only [F.bind] <;> cases callR N b x g <;> rfl
  | _ => rfl
theorem fDA (f : F MO) (γ : Gm) : fD f γ = match f γ with | .ok o g => .ok o.d g | .ex e g => .ex e g | .st => .st := by
  unfold fD F.bind
  cases f γ <;> rfl
theorem vAndA (fa fb : F D) (γ : Gm) : vAnd fa fb γ = match fa γ with | .ok (.bl true) g => fb g | .ok (.bl false) g => .ok (.bl false) g | .ex e g => .ex e g | _ => .st := by
  unfold vAnd F.bind
  cases fa γ with
  | ok d g => cases d with
    | bl b => cases b <;> rfl
    | _ => rfl
  | _ => rfl
theorem tAndA (fa fb : F Bool) (γ : Gm) : tAndF fa fb γ = match fa γ with | .ok true g => fb g | .ok false g => .ok false g | .ex e g => .ex e g | .st => .st := by
  unfold tAndF F.bind
  cases fa γ with
  | ok b g => cases b <;> rfl
  | _ => rfl
theorem tOrA (fa fb : F Bool) (γ : Gm) : tOrF fa fb γ = match fa γ with | .ok true g => .ok true g | .ok false g => fb g | .ex e g => .ex e g | .st => .st := by
  unfold tOrF F.bind
  cases fa γ with
  | ok b g => cases b <;> rfl
  | _ => rfl
theorem tNotA (fa : F Bool) (γ : Gm) : tNotF fa γ = match fa γ with | .ok b g => .ok (!b) g | .ex e g => .ex e g | .st => .st := by
  unfold tNotF F.bind
  cases fa γ <;> rfl
theorem fTupA (r : F (List AV)) (γ : Gm) : fTup r γ = match r γ with | .ok as g => (match allD as with | some xs => liftO (dTup xs) g | none => .st) | .ex e g => .ex e g | .st => .st := by
  unfold fTup F.bind liftO
  cases r γ with
  | ok as g => simp only <;> cases allD as <;> rfl
  | _ => rfl
theorem nLstA (r : F (List AV)) (γ : Gm) : nLst r γ = match r γ with | .ok as g => (match allD as with | some xs => liftO (dLst xs) g | none => .st) | .ex e g => .ex e g | .st => .st := by
  unfold nLst F.bind liftO
  cases r γ with
  | ok as g => simp only <;> cases allD as <;> rfl
  | _ => rfl
theorem iArgsA (k : List D → Option (List D)) (r : F (List AV)) (γ : Gm) : iArgs k r γ = match r γ with | .ok as g => (match allD as with | some xs => liftO (k xs) g | none => .st) | .ex e g => .ex e g | .st => .st := by
  unfold iArgs F.bind liftO
  cases r γ with
  | ok as g => simp only <;> cases allD as <;> rfl
  | _ => rfl
theorem forA (fi : F (List D)) (gt : GD) (b : F Fl) (γ : Gm) : sFor fi gt b γ = match fi γ with | .ok xs g => forL gt b xs g | .ex e g => .ex e g | .st => .st := by
  unfold sFor F.bind
  cases fi γ <;> rfl
theorem parA (is : List Nat) (r : F (List AV)) (γ : Gm) : sPar is r γ = match r γ with | .ok as g => (match putAll is as g with | some g2 => .ok .nx g2 | none => .st) | .ex e g => .ex e g | .st => .st := by
  unfold sPar F.bind
  cases r γ with
  | ok x g => simp only <;> cases putAll is x g <;> rfl
  | _ => rfl
theorem nMakeSA (c N : Nat) (b : F Fl) (r : F (List AV)) (γ : Gm) : nMakeS c N b r γ = match r γ with | .ok as g => (match allD as with | some ds => (if ds.length ≤ sizeLine then F.bind (callR N b [.n (.ins c []), .d (.tup ds)]) (fun r => liftO (mkO r)) g else .st) | none => .st) | .ex e g => .ex e g | .st => .st := by
  unfold nMakeS
  rw [bindA_]
  cases r γ with
  | ok as g =>
    cases h : allD as with
    | none => simp only [F.bind, liftO, h]
    | some ds =>
      simp only [bindA_, liftO, h]
      split <;> rfl
  | _ => rfl
end
/-! ### one step each -/
section
variable {α β δ : Type} {γ g g2 g3 : Gm}
theorem oCall {N : Nat} {b : F Fl} {r : F (List AV)} {as : List AV} {v : RV × Gm} (h1 : r γ = .ok as g) (h2 : callR N b as g = .ok v g2) : fCall N b r γ = .ok v.1.d g2 := by rw [callA, h1]; simp only [h2]
end
/-! ### comprehensions, loops -/
theorem atI_nat {xs : List D} {i : Int} {k : Nat} {d : D} (h : i = k) (e : xs[k]? = some d) : atI xs i = some d := by
  have hk : k < xs.length := (List.getElem?_eq_some_iff.mp e).1
  subst h
  unfold atI ixN
  rw [if_pos (by omega), if_pos (by omega)]
  simpa using e
end FC
namespace FC
open PySem PySem.Spec PyProof.Rows L2
/-! ### repr of data -/
theorem noDict_ints : ∀ ns : List Int, PyData.hasDictAll (ns.map PyData.int) = false
  | [] => by simp only [List.map_nil, PyData.hasDictAll]
  | n :: ns => by simp only [List.map_cons, PyData.hasDictAll, PyData.hasDict, noDict_ints ns, Bool.or_self]
mutual
theorem data_noDict : ∀ {d : D} {p : PyData}, d.data = some p → p.hasDict = false
  | .non, _, e => by simp only [D.data] at e; cases e; simp only [PyData.hasDict]
  | .bl _, _, e => by simp only [D.data] at e; cases e; simp only [PyData.hasDict]
  | .int _, _, e => by simp only [D.data] at e; cases e; simp only [PyData.hasDict]
  | .str _, _, e => by simp only [D.data] at e; cases e; simp only [PyData.hasDict]
  | .lst xs, _, e => by
    simp only [D.data] at e
    obtain ⟨ps, q, rfl⟩ := Option.map_eq_some_iff.mp e
    simp only [PyData.hasDict]
    exact dataL_noDict q
  | .tup xs, _, e => by
    simp only [D.data] at e
    obtain ⟨ps, q, rfl⟩ := Option.map_eq_some_iff.mp e
    simp only [PyData.hasDict]
    exact dataL_noDict q
  | .dct _, _, e => by simp only [D.data] at e; cases e
  | .ins _ _, _, e => by simp only [D.data] at e; cases e
  | .raw _, _, e => by simp only [D.data] at e; cases e
  | .cls _, _, e => by simp only [D.data] at e; cases e
  | .ft ns, _, e => by simp only [D.data] at e; cases e; simp only [PyData.hasDict]; exact noDict_ints ns
theorem dataL_noDict : ∀ {ds : List D} {ps : List PyData}, D.dataL ds = some ps → PyData.hasDictAll ps = false
  | [], _, e => by simp only [D.dataL] at e; cases e; simp only [PyData.hasDictAll]
  | x :: xs, _, e => by
    simp only [D.dataL] at e
    cases q : D.data x with
    | none => rw [q] at e; cases e
    | some p =>
      cases q2 : D.dataL xs with
      | none => rw [q, q2] at e; cases e
      | some ps =>
        rw [q, q2] at e
        cases e
        simp only [PyData.hasDictAll, data_noDict q, dataL_noDict q2, Bool.or_self]
end
/-- whether repr of it is told here, and what it is -/
def shownD (p : PyData) : Option Str := if p.showable = true ∧ p.depth ≤ 100 ∧ p.shown.length ≤ sizeLine then some p.shown else none
def dRepr (d : D) : Option D := d.data.bind fun p => (shownD p).map D.str
section
variable {C : Ct} {W : WX} {X : Cx} {m p m1 p1 m2 p2 : Bool} {a b e' e : Expr} {es : List Expr} {fa fb : F D} {fr : F (List AV)} {x : Str} {pn pos : Pos} {i : Nat}
theorem call_reprD {k : Nat} (hr : RoomG k X.A) (h40 : 40 ≤ k) : CallR X (.builtin "repr") (fun xs H Q => ∃ v p y, xs = [v] ∧ Dp X.K H v p ∧ p.hasDict = false ∧ shownD p = some y ∧ Q (.str y) H) := by
  intro pins s σ H xs us Q I r h
  obtain ⟨v, p, y, rfl, hd, nd, hs, q⟩ := h
  obtain ⟨u, rfl, ru⟩ := vals1 r
  obtain ⟨as, rr⟩ := Dp.reads I p v u hd ru
  unfold shownD at hs
  split at hs
  case isFalse => cases hs
  rename_i hz
  cases hs
  obtain ⟨z1, z2, z3⟩ := hz
  have hu : X.A.units + (p.depth + 1) < cLine := by have := hr.r.un; omega
  have fin : ∀ {t : Nat}, EP X pins σ Q (.str p.shown t) { s with toks := s.toks + 1 } := fun {t} => ⟨.str _, H, I.tok _, ⟨_, rfl⟩, q⟩
  cases rr with
  | none => exact PySem.P.repr_of_none (by simpa only [PyData.shown] using fin (t := s.toks))
  | bool b => exact PySem.P.repr_of_bool (by simpa only [PyData.shown] using fin (t := s.toks))
  | int i t => exact PySem.P.repr_of_int (by simpa [PyData.showable] using z1) (by simpa only [PyData.shown] using fin (t := s.toks))
  | str x t => exact PySem.P.repr_of_str (hsz := by simpa only [PyData.shown] using z3) (by simpa only [PyData.shown] using fin (t := s.toks))
  | list h1 h2 h3 h4 => exact repr_of_reads' (.list h1 h2 h3 h4) z1 (PyData.noDict_hsm nd) (hr.g.nil_ h40) hu (fun _ _ e => e) (fun h' t tk hk => ⟨.str _, H, I.kept (t' := tk) hk, ⟨_, rfl⟩, q⟩) z3
  | tuple h1 h2 h3 h4 => exact repr_of_reads' (.tuple h1 h2 h3 h4) z1 (PyData.noDict_hsm nd) (hr.g.nil_ h40) hu (fun _ _ e => e) (fun h' t tk hk => ⟨.str _, H, I.kept (t' := tk) hk, ⟨_, rfl⟩, q⟩) z3
  | dict _ _ _ _ _ => simp [PyData.hasDict] at nd
theorem fx_repr {k : Nat} (hr : RoomG k X.A) (ha : FX C W m p X a fa) (hm : X.mg "repr" = none) (hg : Gl X "repr") (he : starEach [a] X.env = (false, eval a X.env) :: starEach [] X.env := by rfl) (hpl : (backTo pos (starEach [] X.env)).any (·.1) = false := by rfl) (h40 : 40 ≤ k := by decide) : FX C W true p X (.Call (.Name "repr" pn) [a] [] pos) (f1 dRepr fa) :=
  fx_b1 (call_reprD hr h40) (fun M H x dx d Q hd sx e k => by
    obtain ⟨q, e1, e2⟩ := Option.bind_eq_some_iff.mp e
    obtain ⟨y, e3, rfl⟩ := Option.map_eq_some_iff.mp e2
    exact ⟨x, q, y, rfl, sx.dp e1, data_noDict e1, e3, k _ H (Keep.refl _ _) (.str _)⟩) ha (by rfl) hm hg (he := he) (hpl := hpl)
end
end FC
namespace FC
open PySem PySem.Spec PyProof.Rows L2
/-! ### what is wished behind a step -/
def WpD {α : Type} (m : R α) (Q : α → Gm → Prop) (E : Ex → Gm → Prop) : Prop := match m with
  | .ok a g => Q a g
  | .ex e g => E e g
  | .st => False
structure Wp {α : Type} (m : R α) (Q : α → Gm → Prop) (E : Ex → Gm → Prop) : Prop where
  run : WpD m Q E
abbrev E0 : Ex → Gm → Prop := fun _ _ => False
/-- what follows a statement in a block -/
def sqK (t : F Fl) (Q : Fl → Gm → Prop) (E : Ex → Gm → Prop) : Fl → Gm → Prop
  | .nx, g => Wp (t g) Q E
  | .ret v, g => Q (.ret v) g
  | .brk, g => Q .brk g
  | .ct, g => Q .ct g
/-- what follows a turn -/
def lpK (I : Gm → Prop) (Q : Fl → Gm → Prop) : Fl → Gm → Prop
  | .nx, g => I g
  | .ct, g => I g
  | .ret v, g => Q (.ret v) g
  | .brk, g => Q .nx g
/-- as data -/
def dK (Q : D → Gm → Prop) (v : RV) (g : Gm) : Prop := Q v.d g
def oK (Q : D → Gm → Prop) (o : MO) (g : Gm) : Prop := Q o.d g
theorem dk_val {Q : D → Gm → Prop} {d : D} {g : Gm} (h : Q d g) : dK Q (.val d) g := h
theorem dk_lst {Q : D → Gm → Prop} {xs : List D} {g : Gm} (h : Q (.lst xs) g) : dK Q (.own (.lst xs)) g := h
theorem dk_ins {Q : D → Gm → Prop} {c : Nat} {fs : List (Str × D)} {g : Gm} (h : Q (.ins c fs) g) : dK Q (.own (.ins c fs)) g := h
theorem ok_lst {Q : D → Gm → Prop} {xs : List D} {g : Gm} (h : Q (.lst xs) g) : oK Q (.lst xs) g := h
theorem ok_ins {Q : D → Gm → Prop} {c : Nat} {fs : List (Str × D)} {g : Gm} (h : Q (.ins c fs) g) : oK Q (.ins c fs) g := h
/-- what follows a call -/
def clK (Q : RV → Gm → Prop) : Fl → Gm → Prop
  | .nx, g => Q (.val .non) g
  | .ret v, g => Q v g
  | _, _ => False
section
variable {α β δ : Type} {γ g : Gm} {E : Ex → Gm → Prop}
theorem wp_ok {m : R α} {a : α} {Q : α → Gm → Prop} (h : m = .ok a g) (q : Q a g) : Wp m Q E := by rw [h]; exact ⟨q⟩
theorem Wp.out {m : R α} {Q : α → Gm → Prop} (h : Wp m Q E0) : ∃ a g, m = .ok a g ∧ Q a g := by
  cases m with
  | ok a g => exact ⟨a, g, rfl, h.run⟩
  | ex _ _ => exact h.run.elim
  | st => exact h.run.elim
theorem Wp.imp {m : R α} {Q Q' : α → Gm → Prop} {E' : Ex → Gm → Prop} (h : Wp m Q E) (k : ∀ a g, Q a g → Q' a g) (ke : ∀ e g, E e g → E' e g := by exact fun _ _ z => z) : Wp m Q' E' := by
  cases m with
  | ok a g => exact ⟨k a g h.run⟩
  | ex e g => exact ⟨ke e g h.run⟩
  | st => exact h.run.elim
theorem wp_bind {f : F α} {k : α → F β} {Q : β → Gm → Prop} (h : Wp (f γ) (fun a g => Wp (k a g) Q E) E) : Wp (F.bind f k γ) Q E := by
  unfold F.bind
  cases q : f γ <;> rw [q] at h
  · exact h.run
  · exact ⟨h.run⟩
  · exact h.run.elim
theorem wp_lift {o : Option α} {a : α} {Q : α → Gm → Prop} (h : o = some a) (q : Q a γ) : Wp (liftO o γ) Q E := by subst h; exact ⟨q⟩
theorem wp_liftE {o : Option α} {Q : α → Gm → Prop} (h : ∃ a, o = some a ∧ Q a γ) : Wp (liftO o γ) Q E := by obtain ⟨a, e, q⟩ := h; exact wp_lift e q
end
/-! ### expressions -/
section
variable {α β δ : Type} {γ g : Gm} {E : Ex → Gm → Prop}
variable {Q : D → Gm → Prop} {fa fb fc : F D} {d : D} {i : Nat}
theorem wp_f0 (h : Q d γ) : Wp (f0 d γ) Q E := ⟨h⟩
theorem wp_var (e : γ[i]? = some (.val d)) (h : Q d γ) : Wp (fVar i γ) Q E := by unfold fVar; rw [e]; exact ⟨h⟩
theorem wp_look (e : γ[i]? = some (.val d)) (h : Q d γ) : Wp (fLook i γ) Q E := by unfold fLook; rw [e]; exact ⟨h⟩
theorem wp_lookL {t : Option Nat} {xs : List D} (e : γ[i]? = some (.own t (.lst xs))) (h : Q (.lst xs) γ) : Wp (fLook i γ) Q E := by unfold fLook; rw [e]; exact ⟨h⟩
theorem wp_lookI {t : Option Nat} {c : Nat} {xs : List (Str × D)} (e : γ[i]? = some (.own t (.ins c xs))) (h : Q (.ins c xs) γ) : Wp (fLook i γ) Q E := by unfold fLook; rw [e]; exact ⟨h⟩
theorem wp_f1 {k : α → Option β} {fa : F α} {Q : β → Gm → Prop} (h : Wp (fa γ) (fun x g => ∃ y, k x = some y ∧ Q y g) E) : Wp (f1 k fa γ) Q E := wp_bind (h.imp fun _ _ z => wp_liftE z)
theorem wp_f2 {k : α → β → Option δ} {fa : F α} {fb : F β} {Q : δ → Gm → Prop} (h : Wp (fa γ) (fun x g => Wp (fb g) (fun y g2 => ∃ z, k x y = some z ∧ Q z g2) E) E) : Wp (f2 k fa fb γ) Q E :=
  wp_bind (h.imp fun _ _ z => wp_bind (z.imp fun _ _ z => wp_liftE z))
theorem wp_sl2 (h : Wp (fa γ) (fun x g => Wp (fb g) (fun y g2 => ∃ i, dInt y = some i ∧ Wp (fc g2) (fun z g3 => ∃ j, dInt z = some j ∧ ∃ r, dSl x (some i) (some j) = some r ∧ Q r g3) E) E) E) : Wp (fSl2 fa fb fc γ) Q E := by
  unfold fSl2
  refine wp_bind (h.imp fun x g h => ?_)
  refine wp_bind (wp_f1 (h.imp fun y g h => ?_))
  obtain ⟨i, e1, h⟩ := h
  refine ⟨i, e1, wp_bind (wp_f1 (h.imp fun z g h => ?_))⟩
  obtain ⟨j, e2, r, e3, q⟩ := h
  exact ⟨j, e2, wp_lift e3 q⟩
theorem wp_and (h : Wp (fa γ) (fun x g => ∃ b, x = .bl b ∧ ((b = true → Wp (fb g) Q E) ∧ (b = false → Q (.bl false) g))) E) : Wp (vAnd fa fb γ) Q E := by
  rw [vAndA]
  generalize fa γ = m at h
  cases m with
  | ok d g =>
    obtain ⟨b, rfl, h1, h2⟩ := h.run
    cases b with
    | true => exact h1 rfl
    | false => exact ⟨h2 rfl⟩
  | ex e g => exact ⟨h.run⟩
  | st => exact h.run.elim
/-! the same while the outcome is a Bool known as a whole -/
theorem wp_tand {fa fb : F Bool} {Q : Bool → Gm → Prop} (h : Wp (fa γ) (fun b g => (b = true → Wp (fb g) Q E) ∧ (b = false → Q false g)) E) : Wp (tAndF fa fb γ) Q E := by
  rw [tAndA]
  generalize fa γ = m at h
  cases m with
  | ok b g => cases b with
    | true => exact h.run.1 rfl
    | false => exact ⟨h.run.2 rfl⟩
  | ex e g => exact ⟨h.run⟩
  | st => exact h.run.elim
theorem wp_tor {fa fb : F Bool} {Q : Bool → Gm → Prop} (h : Wp (fa γ) (fun b g => (b = true → Q true g) ∧ (b = false → Wp (fb g) Q E)) E) : Wp (tOrF fa fb γ) Q E := by
  rw [tOrA]
  generalize fa γ = m at h
  cases m with
  | ok b g => cases b with
    | true => exact ⟨h.run.1 rfl⟩
    | false => exact h.run.2 rfl
  | ex e g => exact ⟨h.run⟩
  | st => exact h.run.elim
theorem wp_tnot {fa : F Bool} {Q : Bool → Gm → Prop} (h : Wp (fa γ) (fun b g => Q (!b) g) E) : Wp (tNotF fa γ) Q E := by
  rw [tNotA]
  generalize fa γ = m at h
  cases m <;> exact ⟨h.run⟩
theorem wp_fIf {c : F Bool} (h : Wp (c γ) (fun b g => (b = true → Wp (fa g) Q E) ∧ (b = false → Wp (fb g) Q E)) E) : Wp (fIf c fa fb γ) Q E := by
  unfold fIf
  refine wp_bind (h.imp fun b g h => ?_)
  cases b with
  | true => exact h.1 rfl
  | false => exact h.2 rfl
end
/-! ### arguments, displays, what is walked -/
section
variable {α β δ : Type} {γ g : Gm} {E : Ex → Gm → Prop} {i : Nat}
theorem wp_aNil {Q : List AV → Gm → Prop} (h : Q [] γ) : Wp (aNil γ) Q E := ⟨h⟩
theorem wp_aVal {f : F D} {r : F (List AV)} {Q : List AV → Gm → Prop} (h : Wp (f γ) (fun x g => Wp (r g) (fun as g2 => Q (.d x :: as) g2) E) E) : Wp (aVal f r γ) Q E := wp_bind (h.imp fun _ _ z => wp_bind (z.imp fun _ _ z => ⟨z⟩))
theorem wp_aNew {f : F MO} {r : F (List AV)} {Q : List AV → Gm → Prop} (h : Wp (f γ) (fun x g => Wp (r g) (fun as g2 => Q (.n x :: as) g2) E) E) : Wp (aNew f r γ) Q E := wp_bind (h.imp fun _ _ z => wp_bind (z.imp fun _ _ z => ⟨z⟩))
theorem wp_aVar {r : F (List AV)} {Q : List AV → Gm → Prop} {x : D} (e : γ[i]? = some (.val x)) (h : Wp (r γ) (fun as g2 => Q (.d x :: as) g2) E) : Wp (aVar i r γ) Q E := by unfold aVar; rw [e]; exact wp_bind (h.imp fun _ _ z => ⟨z⟩)
theorem wp_aVarS {r : F (List AV)} {Q : List AV → Gm → Prop} {t : Option Nat} {x : MO} (e : γ[i]? = some (.own t x)) (h : Wp (r γ) (fun as g2 => Q (.s i :: as) g2) E) : Wp (aVar i r γ) Q E := by unfold aVar; rw [e]; exact wp_bind (h.imp fun _ _ z => ⟨z⟩)
theorem wp_aVarW {r : F (List AV)} {Q : List AV → Gm → Prop} {x : List D} (e : γ[i]? = some (.view x)) (h : Wp (r γ) (fun as g2 => Q (.w x :: as) g2) E) : Wp (aVar i r γ) Q E := by unfold aVar; rw [e]; exact wp_bind (h.imp fun _ _ z => ⟨z⟩)
theorem wp_aStar {f : F D} {r : F (List AV)} {Q : List AV → Gm → Prop} (h : Wp (f γ) (fun x g => ∃ xs, dItems x = some xs ∧ Wp (r g) (fun as g2 => Q (xs.map .d ++ as) g2) E) E) : Wp (aStar f r γ) Q E := by
  unfold aStar
  refine wp_bind (h.imp fun x g h => ?_)
  obtain ⟨xs, e, h⟩ := h
  exact wp_bind (wp_lift e (wp_bind (h.imp fun _ _ z => ⟨z⟩)))
theorem wp_tup {r : F (List AV)} {Q : D → Gm → Prop} (h : Wp (r γ) (fun as g => ∃ xs, allD as = some xs ∧ xs.length ≤ sizeLine ∧ Q (.tup xs) g) E) : Wp (fTup r γ) Q E := by
  unfold fTup
  refine wp_bind (h.imp fun as g h => ?_)
  obtain ⟨xs, e, hs, q⟩ := h
  refine wp_bind (wp_lift e (wp_lift ?_ q))
  unfold dTup
  rw [if_pos hs]
theorem wp_nLst {r : F (List AV)} {Q : MO → Gm → Prop} (h : Wp (r γ) (fun as g => ∃ xs, allD as = some xs ∧ xs.length ≤ sizeLine ∧ Q (.lst xs) g) E) : Wp (nLst r γ) Q E := by
  unfold nLst
  refine wp_bind (h.imp fun as g h => ?_)
  obtain ⟨xs, e, hs, q⟩ := h
  refine wp_bind (wp_lift e (wp_lift ?_ q))
  unfold dLst
  rw [if_pos hs]
theorem wp_fD {f : F MO} {Q : D → Gm → Prop} (h : Wp (f γ) (oK Q) E) : Wp (fD f γ) Q E := wp_bind (h.imp fun _ _ z => ⟨z⟩)
theorem wp_iArgs {k : List D → Option (List D)} {r : F (List AV)} {Q : List D → Gm → Prop} (h : Wp (r γ) (fun as g => ∃ xs, allD as = some xs ∧ ∃ ys, k xs = some ys ∧ Q ys g) E) : Wp (iArgs k r γ) Q E := by
  unfold iArgs
  refine wp_bind (h.imp fun as g h => ?_)
  obtain ⟨xs, e, ys, e2, q⟩ := h
  exact wp_bind (wp_lift e (wp_lift e2 q))
theorem wp_iSeq {f : F D} {Q : List D → Gm → Prop} (h : Wp (f γ) (fun x g => ∃ xs, dItems x = some xs ∧ Q xs g) E) : Wp (iSeqF f γ) Q E := wp_f1 h
theorem unw_wipe (g : Gm) (vs : List Nat) : unw g (wipeG g vs) vs = g := by
  refine List.ext_getElem? fun j => ?_
  by_cases h : j ∈ vs
  · exact unw_in (wipeG_length g vs) h
  · rw [unw_out h, wipeG_out h]
theorem wipe_ext {g g3 : Gm} {vs : List Nat} (hl : g3.length = g.length) (h : ∀ j, j ∉ vs → g3[j]? = g[j]?) : wipeG g3 vs = wipeG g vs := by
  refine List.ext_getElem? fun j => ?_
  by_cases hj : j ∈ vs
  · by_cases hlt : j < g.length
    · rw [wipeG_in (by rw [hl]; exact hlt) hj, wipeG_in hlt hj]
    · rw [List.getElem?_eq_none (by rw [wipeG_length, hl]; omega), List.getElem?_eq_none (by rw [wipeG_length]; omega)]
  · rw [wipeG_out hj, wipeG_out hj, h j hj]
theorem wipe1 {g : Gm} {v : Nat} {x : SV} : wipeG ((wipeG g [v]).set v x) [v] = wipeG g [v] := wipe_ext (by rw [List.length_set, wipeG_length]) fun j hj => by
  rw [List.getElem?_set_ne (fun z => hj (by rw [z]; exact List.mem_cons_self)), wipeG_out hj]
/-- a comprehension: each item is kept or not, and gives its value -/
theorem wp_lc {fi : F (List D)} {gt : GD} {c : F Bool} {e : F D} {vs : List Nat} {Q : MO → Gm → Prop} (pf : D → Bool) (f : D → D)
    (h : Wp (fi γ) (fun xs g => xs.length ≤ sizeLine ∧ okW g vs = true ∧ (∀ d ∈ xs, ∃ g1, gt d (wipeG g vs) = some g1 ∧ Wp (c g1) (fun b g2 => b = pf d ∧ (b = true → Wp (e g2) (fun y g3 => y = f d ∧ wipeG g3 vs = wipeG g vs) E0) ∧ (b = false → wipeG g2 vs = wipeG g vs)) E0) ∧ Q (.lst ((xs.filter pf).map f)) g) E) : Wp (nLc fi gt c e vs γ) Q E := by
  unfold nLc
  refine wp_bind (h.imp fun xs g h => ?_)
  obtain ⟨h1, h2, h3, q⟩ := h
  rw [if_pos ⟨h1, h2⟩]
  have lc : lcL gt c e vs xs [] (wipeG g vs) = .ok ([] ++ (xs.filter pf).map f) (wipeG g vs) := by
    clear q h1
    generalize ([] : List D) = acc
    induction xs generalizing acc with
    | nil => simp [lcL]
    | cons d xs ih =>
      obtain ⟨g1, e1, w⟩ := h3 d List.mem_cons_self
      obtain ⟨b, g2, e2, eb, k1, k2⟩ := w.out
      have ih := fun acc => ih (fun d hd => h3 d (List.mem_cons_of_mem _ hd)) acc
      unfold lcL
      simp only [e1, e2]
      cases b with
      | true =>
        obtain ⟨y, g3, e3, ey, e4⟩ := (k1 rfl).out
        simp only [e3, e4, ey, ih]
        rw [List.filter_cons_of_pos eb.symm, List.map_cons, List.append_assoc]
        rfl
      | false =>
        simp only [k2 rfl, ih]
        rw [List.filter_cons_of_neg (by rw [← eb]; exact Bool.false_ne_true)]
  rw [lc]
  refine ⟨?_⟩
  show Q (.lst ([] ++ (xs.filter pf).map f)) (unw g (wipeG g vs) vs)
  rw [unw_wipe]
  exact q
/-- all items are kept -/
theorem wp_lcA {fi : F (List D)} {gt : GD} {e : F D} {vs : List Nat} {Q : MO → Gm → Prop} (f : D → D)
    (h : Wp (fi γ) (fun xs g => xs.length ≤ sizeLine ∧ okW g vs = true ∧ (∀ d ∈ xs, ∃ g1, gt d (wipeG g vs) = some g1 ∧ Wp (e g1) (fun y g3 => y = f d ∧ wipeG g3 vs = wipeG g vs) E0) ∧ Q (.lst (xs.map f)) g) E) : Wp (nLc fi gt tTrue e vs γ) Q E := by
  refine wp_lc (fun _ => true) f (h.imp fun xs g h => ?_)
  obtain ⟨h1, h2, h3, q⟩ := h
  refine ⟨h1, h2, fun d hd => ?_, by rw [List.filter_eq_self.mpr fun _ _ => rfl]; exact q⟩
  obtain ⟨g1, e1, w⟩ := h3 d hd
  exact ⟨g1, e1, (show Wp (.ok true g1) _ _ from ⟨rfl, fun _ => w, fun z => nomatch z⟩)⟩
end
/-! ### statements -/
section
variable {γ g : Gm} {E : Ex → Gm → Prop} {i : Nat} {Q : Fl → Gm → Prop} {s t : F Fl}
theorem wp_seq (h : Wp (s γ) (sqK t Q E) E) : Wp (sSeq s t γ) Q E := by
  rw [seqA]
  generalize s γ = m at h
  cases m with
  | ok f g =>
    have h := h.run
    cases f with
    | nx => exact h
    | ret v => exact ⟨h⟩
    | brk => exact ⟨h⟩
    | ct => exact ⟨h⟩
  | ex e g => exact ⟨h.run⟩
  | st => exact h.run.elim
theorem wp_nx (h : Wp (t g) Q E) : sqK t Q E .nx g := h
theorem wp_rt {v : RV} (h : Q (.ret v) g) : sqK t Q E (.ret v) g := h
theorem wp_bk (h : Q .brk g) : sqK t Q E .brk g := h
theorem wp_ctn (h : Q .ct g) : sqK t Q E .ct g := h
theorem lp_nx {I : Gm → Prop} (h : I g) : lpK I Q .nx g := h
theorem lp_ct {I : Gm → Prop} (h : I g) : lpK I Q .ct g := h
theorem lp_rt {I : Gm → Prop} {v : RV} (h : Q (.ret v) g) : lpK I Q (.ret v) g := h
theorem lp_bk {I : Gm → Prop} (h : Q .nx g) : lpK I Q .brk g := h
theorem wp_nil (h : Q .nx γ) : Wp (sNil γ) Q E := ⟨h⟩
theorem wp_brk (h : Q .brk γ) : Wp (sBrk γ) Q E := ⟨h⟩
theorem wp_ct (h : Q .ct γ) : Wp (sCt γ) Q E := ⟨h⟩
theorem wp_retN (h : Q (.ret (.val .non)) γ) : Wp (sRetN γ) Q E := ⟨h⟩
theorem wp_ret {f : F D} (h : Wp (f γ) (fun d g => Q (.ret (.val d)) g) E) : Wp (sRet f γ) Q E := wp_bind (h.imp fun _ _ z => ⟨z⟩)
theorem wp_retNew {f : F MO} (h : Wp (f γ) (fun d g => Q (.ret (.own d)) g) E) : Wp (sRetNew f γ) Q E := wp_bind (h.imp fun _ _ z => ⟨z⟩)
theorem wp_retVar {d : D} (e : γ[i]? = some (.val d)) (h : Q (.ret (.val d)) γ) : Wp (sRetVar i γ) Q E := by unfold sRetVar; rw [e]; exact ⟨h⟩
theorem wp_retVarO {o : MO} (e : γ[i]? = some (.own none o)) (h : Q (.ret (.own o)) (γ.set i .none)) : Wp (sRetVar i γ) Q E := by unfold sRetVar; rw [e]; exact ⟨h⟩
theorem wp_expr {f : F D} (h : Wp (f γ) (fun _ g => Q .nx g) E) : Wp (sExpr f γ) Q E := wp_bind (h.imp fun _ _ z => ⟨z⟩)
theorem wp_set {f : F D} (h : Wp (f γ) (fun d g => Q .nx (g.set i (.val d))) E) : Wp (sSet i f γ) Q E := wp_bind (h.imp fun _ _ z => ⟨z⟩)
theorem wp_setN {f : F MO} (h : Wp (f γ) (fun d g => Q .nx (g.set i (.own none d))) E) : Wp (sSetNew i f γ) Q E := wp_bind (h.imp fun _ _ z => ⟨z⟩)
theorem wp_if {c : F Bool} (h : Wp (c γ) (fun b g => (b = true → Wp (s g) Q E) ∧ (b = false → Wp (t g) Q E)) E) : Wp (sIf c s t γ) Q E := by
  unfold sIf
  refine wp_bind (h.imp fun b g h => ?_)
  cases b with
  | true => exact h.1 rfl
  | false => exact h.2 rfl
theorem wp_par {is : List Nat} {r : F (List AV)} (h : Wp (r γ) (fun as g => ∃ g2, putAll is as g = some g2 ∧ Q .nx g2) E) : Wp (sPar is r γ) Q E := by
  unfold sPar
  refine wp_bind (h.imp fun as g h => ?_)
  obtain ⟨g2, e, q⟩ := h
  rw [e]
  exact ⟨q⟩
theorem wp_asg {f : F D} {gt : GD} (h : Wp (f γ) (fun d g => ∃ g2, gt d g = some g2 ∧ Q .nx g2) E) : Wp (sAsg f gt γ) Q E := by
  unfold sAsg
  refine wp_bind (h.imp fun as g h => ?_)
  obtain ⟨g2, e, q⟩ := h
  rw [e]
  exact ⟨q⟩
theorem wp_frz {xs : List D} (e : γ[i]? = some (.own none (.lst xs))) (h : Wp (s (γ.set i (.val (.lst xs)))) Q E) : Wp (sFrz i s γ) Q E := by
  unfold sFrz frz
  rw [e]
  exact h
theorem wp_frzV {d : D} (e : γ[i]? = some (.val d)) (h : Wp (s γ) Q E) : Wp (sFrz i s γ) Q E := by
  unfold sFrz frz
  rw [e]
  exact h
theorem wp_for {fi : F (List D)} {gt : GD} {b : F Fl} (h : Wp (fi γ) (fun xs g => Wp (forL gt b xs g) Q E) E) : Wp (sFor fi gt b γ) Q E := wp_bind h
/-- a loop, by what stands before each turn -/
theorem wp_forI {gt : GD} {b : F Fl} {xs : List D} (I : List D → Gm → Prop) (h0 : I xs γ) (hs : ∀ d ds g, I (d :: ds) g → ∃ g1, gt d g = some g1 ∧ Wp (b g1) (lpK (I ds) Q) E) (hq : ∀ g, I [] g → Q .nx g) : Wp (forL gt b xs γ) Q E := by
  induction xs generalizing γ with
  | nil => exact ⟨hq γ h0⟩
  | cons d ds ih =>
    obtain ⟨g1, e, w⟩ := hs d ds γ h0
    simp only [forL, e]
    generalize b g1 = m at w
    cases m with
    | ok f g =>
      have w := w.run
      cases f with
      | nx => exact ih w
      | ct => exact ih w
      | brk => exact ⟨w⟩
      | ret v => exact ⟨w⟩
    | ex e g => exact ⟨w.run⟩
    | st => exact w.run.elim
/-- the same, the turns in order -/
theorem wp_forN {gt : GD} {b : F Fl} {xs : List D} (I : Nat → Gm → Prop) (h0 : I 0 γ) (hs : ∀ k g d, k < xs.length → xs[k]? = some d → I k g → ∃ g1, gt d g = some g1 ∧ Wp (b g1) (lpK (I (k + 1)) Q) E) (hq : ∀ g, I xs.length g → Q .nx g) : Wp (forL gt b xs γ) Q E := by
  refine wp_forI (fun ds g => ∃ k, k + ds.length = xs.length ∧ ds = xs.drop k ∧ I k g) ⟨0, by simp, rfl, h0⟩ ?_ ?_
  · rintro d ds g ⟨k, e1, e2, h⟩
    have hk : k < xs.length := by rw [List.length_cons] at e1; omega
    have e3 : xs.drop k = xs[k] :: xs.drop (k + 1) := List.drop_eq_getElem_cons hk
    rw [e3] at e2
    cases e2
    obtain ⟨g1, e, w⟩ := hs k g xs[k] hk (List.getElem?_eq_getElem hk) h
    refine ⟨g1, e, w.imp fun f g z => ?_⟩
    cases f with
    | nx => exact ⟨k + 1, by rw [List.length_drop]; omega, rfl, z⟩
    | ct => exact ⟨k + 1, by rw [List.length_drop]; omega, rfl, z⟩
    | ret v => exact z
    | brk => exact z
  · rintro g ⟨k, e1, e2, h⟩
    have : k = xs.length := by simpa using e1
    subst this
    exact hq g h
/-! methods of own lists -/
theorem wp_m1 {f : List D → D → Option (D × List D)} {fa : F D} {Q : D → Gm → Prop} (h : (∃ q, oList i γ = some q) ∧ Wp (fa γ) (fun d g => ∃ t xs r ys, oList i g = some (t, xs) ∧ f xs d = some (r, ys) ∧ Q r (g.set i (.own t (.lst ys)))) E) : Wp (fM1 i f fa γ) Q E := by
  obtain ⟨⟨q, e⟩, h⟩ := h
  unfold fM1
  rw [e]
  refine wp_bind (h.imp fun d g h => ?_)
  obtain ⟨t, xs, r, ys, e1, e2, q⟩ := h
  simp only [e1, e2]
  exact ⟨q⟩
theorem wp_app {fa : F D} {Q : D → Gm → Prop} (h : (∃ q, oList i γ = some q) ∧ Wp (fa γ) (fun d g => ∃ t xs, oList i g = some (t, xs) ∧ xs.length < sizeLine ∧ Q .non (g.set i (.own t (.lst (xs ++ [d]))))) E) : Wp (fM1 i gApp fa γ) Q E :=
  wp_m1 ⟨h.1, h.2.imp fun d g ⟨t, xs, e, hs, q⟩ => ⟨t, xs, .non, xs ++ [d], e, by unfold gApp; rw [if_pos hs], q⟩⟩
end
/-! ### calls -/
section
variable {γ g : Gm} {E : Ex → Gm → Prop} {N : Nat} {b : F Fl} {r : F (List AV)} {as : List AV}
def WpC (N : Nat) (b : F Fl) (as : List AV) (γ : Gm) (Q : RV → Gm → Prop) (E : Ex → Gm → Prop) : Prop := Wp (callR N b as γ) (fun v g => Q v.1 g) E
theorem wp_call {Q : D → Gm → Prop} (h : Wp (r γ) (fun as g => WpC N b as g (dK Q) E) E) : Wp (fCall N b r γ) Q E :=
  wp_bind (h.imp fun _ _ z => wp_bind (z.imp fun _ _ z => ⟨z⟩))
theorem wp_nCall {Q : MO → Gm → Prop} (h : Wp (r γ) (fun as g => WpC N b as g (fun v g2 => ∃ o, rvO v = some o ∧ Q o g2) E) E) : Wp (nCall N b r γ) Q E :=
  wp_bind (h.imp fun _ _ z => wp_bind (z.imp fun _ _ ⟨o, e, q⟩ => wp_lift e q))
theorem wp_mth {c : Nat} {nm : Str} {fo : F AV} {Q : D → Gm → Prop} (h : Wp (fo γ) (fun av g => ∃ fs, avC g av = some (c, fs) ∧ fs.lookup nm = none ∧ Wp (r g) (fun as g2 => (avC g2 av).map (·.1) = some c ∧ WpC N b (av :: as) g2 (dK Q) E) E) E) : Wp (fMth c nm N b fo r γ) Q E := by
  unfold fMth
  refine wp_bind (h.imp fun av g h => ?_)
  obtain ⟨fs, e1, e2, h⟩ := h
  simp only [e1, e2, and_self, if_true]
  refine wp_bind (h.imp fun as g2 h => ?_)
  obtain ⟨e3, h⟩ := h
  simp only [e3, if_true]
  exact wp_bind (h.imp fun _ _ z => ⟨z⟩)
theorem wp_prop {c : Nat} {fo : F AV} {Q : D → Gm → Prop} (h : Wp (fo γ) (fun av g => ∃ fs, avC g av = some (c, fs) ∧ WpC N b [av] g (dK Q) E0) E) : Wp (fProp c N b fo γ) Q E := by
  unfold fProp
  refine wp_bind (h.imp fun av g h => ?_)
  obtain ⟨fs, e1, h⟩ := h
  simp only [e1, if_true]
  unfold WpC at h
  generalize callR N b [av] g = m at h
  cases m
  · exact ⟨h.run⟩
  · exact h.run.elim
  · exact h.run.elim
theorem wp_vVar {i : Nat} {Q : AV → Gm → Prop} {x : D} (e : γ[i]? = some (.val x)) (h : Q (.d x) γ) : Wp (vVar i γ) Q E := by unfold vVar; rw [e]; exact ⟨h⟩
theorem wp_vVal {f : F D} {Q : AV → Gm → Prop} (h : Wp (f γ) (fun d g => Q (.d d) g) E) : Wp (vVal f γ) Q E := wp_bind (h.imp fun _ _ z => ⟨z⟩)
/-- the callee as it is -/
theorem wpc_in {Q : RV → Gm → Prop} {svs : List SV} (hb : bindA γ 0 as = some svs) (h : Wp (b (padG N svs)) (clK fun v g => ∃ γ2, backG g 0 as γ = some γ2 ∧ Q v γ2) (fun e g => ∃ γ2, backG g 0 as γ = some γ2 ∧ E e γ2)) : WpC N b as γ Q E := by
  unfold WpC callR
  rw [hb]
  simp only
  generalize b (padG N svs) = m at h
  cases m with
  | ok f g =>
    have h := h.run
    cases f with
    | nx => obtain ⟨g2, e, q⟩ := h; simp only [e]; exact ⟨q⟩
    | ret v => obtain ⟨g2, e, q⟩ := h; simp only [e]; exact ⟨q⟩
    | brk => exact h.elim
    | ct => exact h.elim
  | ex e g => obtain ⟨g2, e, q⟩ := h.run; simp only [e]; exact ⟨q⟩
  | st => exact h.run.elim
theorem bind_d {γ : Gm} : ∀ {as : List AV} {ds : List D} {k : Nat}, allD as = some ds → bindA γ k as = some (ds.map .val)
  | [], ds, k, e => by cases e; rfl
  | .d x :: as, ds, k, e => by
    simp only [allD] at e
    obtain ⟨es, e1, rfl⟩ := Option.map_eq_some_iff.mp e
    simp only [bindA, bind_d e1, Option.map_some, List.map_cons]
  | .n _ :: as, ds, k, e => by cases e
  | .w _ :: as, ds, k, e => by cases e
  | .s _ :: as, ds, k, e => by cases e
theorem back_d {g γ : Gm} : ∀ {as : List AV} {ds : List D} {k : Nat}, allD as = some ds → backG g k as γ = some γ
  | [], ds, k, e => rfl
  | .d x :: as, ds, k, e => by
    simp only [allD] at e
    obtain ⟨es, e1, rfl⟩ := Option.map_eq_some_iff.mp e
    simp only [backG, back_d e1]
  | .n _ :: as, ds, k, e => by cases e
  | .w _ :: as, ds, k, e => by cases e
  | .s _ :: as, ds, k, e => by cases e
/-- what a def of data answers -/
structure Rt (N : Nat) (b : F Fl) (ds : List D) (v : D) : Prop where
  run : ∃ g, b (padG N (ds.map .val)) = .ok (.ret (.val v)) g
theorem Rt.of {ds : List D} {v : D} (h : Wp (b (padG N (ds.map .val))) (fun f _ => f = .ret (.val v)) E0) : Rt N b ds v := by
  obtain ⟨f, g, e, rfl⟩ := h.out
  exact ⟨⟨g, e⟩⟩
theorem wpc_rt {Q : RV → Gm → Prop} {ds : List D} {v : D} (h : Rt N b ds v) (ha : allD as = some ds) (q : Q (.val v) γ) : WpC N b as γ Q E := by
  obtain ⟨g, e⟩ := h.run
  refine wpc_in (bind_d ha) ?_
  rw [e]
  exact ⟨γ, back_d ha, q⟩
/-- a def with the pen ahead -/
def Pen (xs : List D) : Prop := ∃ a b c : Int, xs = [.int a, .int b, .int c]
structure Dr (N : Nat) (b : F Fl) (ds : List D) (P : D → Prop) : Prop where
  run : ∀ t xs, Pen xs → Wp (b (padG N (.own t (.lst xs) :: ds.map .val))) (fun f g => ∃ v xs' r, f = .ret (.val v) ∧ g = .own t (.lst xs') :: r ∧ Pen xs' ∧ P v) E0
theorem Dr.of {N : Nat} {b : F Fl} {ds : List D} {P : D → Prop} (h : ∀ t xs, Pen xs → Wp (b (padG N (.own t (.lst xs) :: ds.map .val))) (fun f g => ∃ v xs' r, f = .ret (.val v) ∧ g = .own t (.lst xs') :: r ∧ Pen xs' ∧ P v) E0) : Dr N b ds P := ⟨h⟩
theorem wpc_dr {Q : RV → Gm → Prop} {ds : List D} {P : D → Prop} {i : Nat} {t : Option Nat} {xs : List D} (h : Dr N b ds P) (ha : allD as = some ds) (hi : γ[i]? = some (.own t (.lst xs))) (hp : Pen xs) (q : ∀ v xs', Pen xs' → P v → Q (.val v) (γ.set i (.own t (.lst xs')))) : WpC N b (.s i :: as) γ Q E := by
  have ns : i ∉ slotsOf as := by
    rw [allD_eq ha]
    clear ha h
    induction ds with
    | nil => simp [slotsOf]
    | cons d ds ih => simpa [slotsOf] using ih
  refine wpc_in (svs := .own (some 0) (.lst xs) :: ds.map .val) (by simp only [bindA, hi, if_neg ns, bind_d ha, Option.map_some]) ?_
  refine (h.run (some 0) xs hp).imp (fun f g z => ?_) fun _ _ z => z.elim
  obtain ⟨v, xs', r, rfl, rfl, hp', pv⟩ := z
  exact ⟨_, by simp only [backG, List.getElem?_cons_zero, hi, if_true, back_d ha], q v xs' hp' pv⟩
end
/-! ### small words -/
theorem wp_ex {β : Type} {o : Option β} {y : β} {Q : β → Prop} (e : o = some y) (h : Q y) : ∃ y, o = some y ∧ Q y := ⟨y, e, h⟩
theorem wp_exb {b : Bool} {Q : Bool → Prop} (h : Q b) : ∃ b', D.bl b = .bl b' ∧ Q b' := ⟨b, rfl, h⟩
theorem wp_exP {γ β : Type} {c : γ} {o : Option (γ × β)} {y : β} {Q : β → Prop} (e : o = some (c, y)) (h : Q y) : ∃ y, o = some (c, y) ∧ Q y := ⟨y, e, h⟩
theorem ifTt {A B : Prop} (h : A) : (true = true → A) ∧ (true = false → B) := ⟨fun _ => h, fun z => nomatch z⟩
theorem ifFf {A B : Prop} (h : B) : (false = true → A) ∧ (false = false → B) := ⟨fun z => (nomatch z), fun _ => h⟩
theorem ifNt {A B : Prop} (h : B) : ((!true) = true → A) ∧ ((!true) = false → B) := ⟨fun z => (nomatch z), fun _ => h⟩
theorem ifNf {A B : Prop} (h : A) : ((!false) = true → A) ∧ ((!false) = false → B) := ⟨fun _ => h, fun z => nomatch z⟩
theorem ifd {p : Prop} [Decidable p] {A B : Prop} (h1 : p → A) (h2 : ¬ p → B) : (decide p = true → A) ∧ (decide p = false → B) := ⟨fun z => h1 (of_decide_eq_true z), fun z => h2 (of_decide_eq_false z)⟩
theorem ifn {p : Prop} [Decidable p] {A B : Prop} (h1 : ¬ p → A) (h2 : p → B) : ((!decide p) = true → A) ∧ ((!decide p) = false → B) := ⟨fun z => h1 (by simpa using z), fun z => h2 (by simpa using z)⟩
theorem ifN {b : Bool} {A B : Prop} (e : b = false) (h : B) : (b = true → A) ∧ (b = false → B) := ⟨fun z => by (rw [e] at z; cases z), fun _ => h⟩
theorem len_sz {α : Type} {l : List α} (h : l.length ≤ 64) : l.length ≤ sizeLine := by rw [sizeLine_eq]; omega
theorem len_szN {n : Nat} (h : n ≤ 10000000) : n ≤ sizeLine := by rw [sizeLine_eq]; omega
theorem lt_szN {n : Nat} (h : n < 10000000) : n < sizeLine := by rw [sizeLine_eq]; omega
theorem gt_nm {i : Nat} {d : D} {γ : Gm} : gNm i d γ = some (γ.set i (.val d)) := rfl
theorem gt_2 {i j : Nat} {x y : D} {γ : Gm} : gTupD 2 (gsCons (gNm i) (gsCons (gNm j) gsNil)) (.tup [x, y]) γ = some ((γ.set i (.val x)).set j (.val y)) := rfl
theorem gt_2l {i j : Nat} {p : Int × Int} {γ : Gm} : gTupD 2 (gsCons (gNm i) (gsCons (gNm j) gsNil)) (limD p) γ = some ((γ.set i (.val (.int p.1))).set j (.val (.int p.2))) := rfl
theorem wp_chain {γ : Gm} {E : Ex → Gm → Prop} {Q : D → Gm → Prop} {k1 k2 : D → D → Option D} {fa fb fc : F D} (h : Wp (fa γ) (fun x g => Wp (fb g) (fun y g2 => ∃ b, k1 x y = some (.bl b) ∧ ((b = true → Wp (fc g2) (fun z g3 => ∃ w, k2 y z = some w ∧ Q w g3) E) ∧ (b = false → Q (.bl false) g2))) E) E) : Wp (fChain k1 k2 fa fb fc γ) Q E := by
  unfold fChain
  refine wp_bind (h.imp fun x g h => wp_bind (h.imp fun y g2 h => ?_))
  obtain ⟨b, e, h1, h2⟩ := h
  rw [e]
  cases b with
  | true => exact wp_bind ((h1 rfl).imp fun _ _ z => wp_liftE z)
  | false => exact ⟨h2 rfl⟩
theorem wp_exbl {o : Option D} {b : Bool} {Q : Bool → Prop} (e : o = some (.bl b)) (h : Q b) : ∃ b, o = some (.bl b) ∧ Q b := ⟨b, e, h⟩
theorem wp_or {γ : Gm} {E : Ex → Gm → Prop} {Q : D → Gm → Prop} {fa fb : F D} (h : Wp (fa γ) (fun x g => ∃ b, dTruth x = some b ∧ ((b = true → Q x g) ∧ (b = false → Wp (fb g) Q E))) E) : Wp (vOr fa fb γ) Q E := by
  unfold vOr
  refine wp_bind (h.imp fun x g h => ?_)
  obtain ⟨b, e, h1, h2⟩ := h
  rw [e]
  cases b with
  | true => exact ⟨h1 rfl⟩
  | false => exact h2 rfl
/-! what the operations give -/
theorem q_add {i j : Int} : dAdd (.int i) (.int j) = some (.int (i + j)) := rfl
theorem q_sub {i j : Int} : dSub (.int i) (.int j) = some (.int (i - j)) := rfl
theorem q_lt {i j : Int} : dLt (.int i) (.int j) = some (.bl (decide (i < j))) := rfl
theorem q_le {i j : Int} : dLe (.int i) (.int j) = some (.bl (decide (i ≤ j))) := rfl
theorem q_gt {i j : Int} : dGt (.int i) (.int j) = some (.bl (decide (j < i))) := rfl
theorem q_ge {i j : Int} : dGe (.int i) (.int j) = some (.bl (decide (j ≤ i))) := rfl
theorem q_max2 {i j : Int} : dMax2 (.int i) (.int j) = some (.int (if j > i then j else i)) := rfl
theorem q_min2 {i j : Int} : dMin2 (.int i) (.int j) = some (.int (if j < i then j else i)) := rfl
theorem q_neg {i : Int} : dNeg (.int i) = some (.int (-i)) := rfl
theorem q_bl {b : Bool} : dBl (.bl b) = some b := rfl
theorem q_not {b : Bool} : vNot (.bl b) = some (.bl (!b)) := rfl
theorem q_trB {b : Bool} : dTruth (.bl b) = some b := rfl
theorem q_trI {i : Int} : dTruth (.int i) = some (i != 0) := rfl
theorem q_trL {xs : List D} : dTruth (.lst xs) = some (!xs.isEmpty) := rfl
theorem q_trT {xs : List D} : dTruth (.tup xs) = some (!xs.isEmpty) := rfl
theorem q_lenL {xs : List D} : dLen (.lst xs) = some (.int xs.length) := rfl
theorem q_lenT {xs : List D} : dLen (.tup xs) = some (.int xs.length) := rfl
theorem q_itL {xs : List D} : dItems (.lst xs) = some xs := rfl
theorem q_itT {xs : List D} : dItems (.tup xs) = some xs := rfl
theorem q_int {i : Int} : dInt (.int i) = some i := rfl
theorem q_tupL {xs : List D} : dTuple (.lst xs) = some (.tup xs) := rfl
theorem q_tupT {xs : List D} : dTuple (.tup xs) = some (.tup xs) := rfl
theorem q_lstL {xs : List D} : (dList (.lst xs)).map MO.lst = some (.lst xs) := rfl
theorem q_lstT {xs : List D} : (dList (.tup xs)).map MO.lst = some (.lst xs) := rfl
theorem q_isN_non : dIsN .non = some (.bl true) := rfl
theorem q_notN_non : dNotN .non = some (.bl false) := rfl
theorem q_isNB_non : dIsNB .non = some true := rfl
theorem q_notNB_non : dNotNB .non = some false := rfl
theorem q_i_int_non {fc : Nat → Option Bool} : (dIsi (isiB "int") fc .non).map D.bl = some (.bl false) := by simp only [dIsi, show isiB "int" "NoneType" = some false from by decide, Option.map_some]
theorem q_i_bool_non {fc : Nat → Option Bool} : (dIsi (isiB "bool") fc .non).map D.bl = some (.bl false) := by simp only [dIsi, show isiB "bool" "NoneType" = some false from by decide, Option.map_some]
theorem q_i_str_non {fc : Nat → Option Bool} : (dIsi (isiB "str") fc .non).map D.bl = some (.bl false) := by simp only [dIsi, show isiB "str" "NoneType" = some false from by decide, Option.map_some]
theorem q_i_tuple_non {fc : Nat → Option Bool} : (dIsi (isiB "tuple") fc .non).map D.bl = some (.bl false) := by simp only [dIsi, show isiB "tuple" "NoneType" = some false from by decide, Option.map_some]
theorem q_i_list_non {fc : Nat → Option Bool} : (dIsi (isiB "list") fc .non).map D.bl = some (.bl false) := by simp only [dIsi, show isiB "list" "NoneType" = some false from by decide, Option.map_some]
theorem q_isN_bl {b : Bool} : dIsN (.bl b) = some (.bl false) := rfl
theorem q_notN_bl {b : Bool} : dNotN (.bl b) = some (.bl true) := rfl
theorem q_isNB_bl {b : Bool} : dIsNB (.bl b) = some false := rfl
theorem q_notNB_bl {b : Bool} : dNotNB (.bl b) = some true := rfl
theorem q_i_int_bl {b : Bool} {fc : Nat → Option Bool} : (dIsi (isiB "int") fc (.bl b)).map D.bl = some (.bl true) := by simp only [dIsi, show isiB "int" "bool" = some true from by decide, Option.map_some]
theorem q_i_bool_bl {b : Bool} {fc : Nat → Option Bool} : (dIsi (isiB "bool") fc (.bl b)).map D.bl = some (.bl true) := by simp only [dIsi, show isiB "bool" "bool" = some true from by decide, Option.map_some]
theorem q_i_str_bl {b : Bool} {fc : Nat → Option Bool} : (dIsi (isiB "str") fc (.bl b)).map D.bl = some (.bl false) := by simp only [dIsi, show isiB "str" "bool" = some false from by decide, Option.map_some]
theorem q_i_tuple_bl {b : Bool} {fc : Nat → Option Bool} : (dIsi (isiB "tuple") fc (.bl b)).map D.bl = some (.bl false) := by simp only [dIsi, show isiB "tuple" "bool" = some false from by decide, Option.map_some]
theorem q_i_list_bl {b : Bool} {fc : Nat → Option Bool} : (dIsi (isiB "list") fc (.bl b)).map D.bl = some (.bl false) := by simp only [dIsi, show isiB "list" "bool" = some false from by decide, Option.map_some]
theorem q_isN_int {i : Int} : dIsN (.int i) = some (.bl false) := rfl
theorem q_notN_int {i : Int} : dNotN (.int i) = some (.bl true) := rfl
theorem q_isNB_int {i : Int} : dIsNB (.int i) = some false := rfl
theorem q_notNB_int {i : Int} : dNotNB (.int i) = some true := rfl
theorem q_i_int_int {i : Int} {fc : Nat → Option Bool} : (dIsi (isiB "int") fc (.int i)).map D.bl = some (.bl true) := by simp only [dIsi, show isiB "int" "int" = some true from by decide, Option.map_some]
theorem q_i_bool_int {i : Int} {fc : Nat → Option Bool} : (dIsi (isiB "bool") fc (.int i)).map D.bl = some (.bl false) := by simp only [dIsi, show isiB "bool" "int" = some false from by decide, Option.map_some]
theorem q_i_str_int {i : Int} {fc : Nat → Option Bool} : (dIsi (isiB "str") fc (.int i)).map D.bl = some (.bl false) := by simp only [dIsi, show isiB "str" "int" = some false from by decide, Option.map_some]
theorem q_i_tuple_int {i : Int} {fc : Nat → Option Bool} : (dIsi (isiB "tuple") fc (.int i)).map D.bl = some (.bl false) := by simp only [dIsi, show isiB "tuple" "int" = some false from by decide, Option.map_some]
theorem q_i_list_int {i : Int} {fc : Nat → Option Bool} : (dIsi (isiB "list") fc (.int i)).map D.bl = some (.bl false) := by simp only [dIsi, show isiB "list" "int" = some false from by decide, Option.map_some]
theorem q_isN_str {x : Str} : dIsN (.str x) = some (.bl false) := rfl
theorem q_notN_str {x : Str} : dNotN (.str x) = some (.bl true) := rfl
theorem q_isNB_str {x : Str} : dIsNB (.str x) = some false := rfl
theorem q_notNB_str {x : Str} : dNotNB (.str x) = some true := rfl
theorem q_i_int_str {x : Str} {fc : Nat → Option Bool} : (dIsi (isiB "int") fc (.str x)).map D.bl = some (.bl false) := by simp only [dIsi, show isiB "int" "str" = some false from by decide, Option.map_some]
theorem q_i_bool_str {x : Str} {fc : Nat → Option Bool} : (dIsi (isiB "bool") fc (.str x)).map D.bl = some (.bl false) := by simp only [dIsi, show isiB "bool" "str" = some false from by decide, Option.map_some]
theorem q_i_str_str {x : Str} {fc : Nat → Option Bool} : (dIsi (isiB "str") fc (.str x)).map D.bl = some (.bl true) := by simp only [dIsi, show isiB "str" "str" = some true from by decide, Option.map_some]
theorem q_i_tuple_str {x : Str} {fc : Nat → Option Bool} : (dIsi (isiB "tuple") fc (.str x)).map D.bl = some (.bl false) := by simp only [dIsi, show isiB "tuple" "str" = some false from by decide, Option.map_some]
theorem q_i_list_str {x : Str} {fc : Nat → Option Bool} : (dIsi (isiB "list") fc (.str x)).map D.bl = some (.bl false) := by simp only [dIsi, show isiB "list" "str" = some false from by decide, Option.map_some]
theorem q_isN_lst {xs : List D} : dIsN (.lst xs) = some (.bl false) := rfl
theorem q_notN_lst {xs : List D} : dNotN (.lst xs) = some (.bl true) := rfl
theorem q_isNB_lst {xs : List D} : dIsNB (.lst xs) = some false := rfl
theorem q_notNB_lst {xs : List D} : dNotNB (.lst xs) = some true := rfl
theorem q_i_int_lst {xs : List D} {fc : Nat → Option Bool} : (dIsi (isiB "int") fc (.lst xs)).map D.bl = some (.bl false) := by simp only [dIsi, show isiB "int" "list" = some false from by decide, Option.map_some]
theorem q_i_bool_lst {xs : List D} {fc : Nat → Option Bool} : (dIsi (isiB "bool") fc (.lst xs)).map D.bl = some (.bl false) := by simp only [dIsi, show isiB "bool" "list" = some false from by decide, Option.map_some]
theorem q_i_str_lst {xs : List D} {fc : Nat → Option Bool} : (dIsi (isiB "str") fc (.lst xs)).map D.bl = some (.bl false) := by simp only [dIsi, show isiB "str" "list" = some false from by decide, Option.map_some]
theorem q_i_tuple_lst {xs : List D} {fc : Nat → Option Bool} : (dIsi (isiB "tuple") fc (.lst xs)).map D.bl = some (.bl false) := by simp only [dIsi, show isiB "tuple" "list" = some false from by decide, Option.map_some]
theorem q_i_list_lst {xs : List D} {fc : Nat → Option Bool} : (dIsi (isiB "list") fc (.lst xs)).map D.bl = some (.bl true) := by simp only [dIsi, show isiB "list" "list" = some true from by decide, Option.map_some]
theorem q_isN_tup {xs : List D} : dIsN (.tup xs) = some (.bl false) := rfl
theorem q_notN_tup {xs : List D} : dNotN (.tup xs) = some (.bl true) := rfl
theorem q_isNB_tup {xs : List D} : dIsNB (.tup xs) = some false := rfl
theorem q_notNB_tup {xs : List D} : dNotNB (.tup xs) = some true := rfl
theorem q_i_int_tup {xs : List D} {fc : Nat → Option Bool} : (dIsi (isiB "int") fc (.tup xs)).map D.bl = some (.bl false) := by simp only [dIsi, show isiB "int" "tuple" = some false from by decide, Option.map_some]
theorem q_i_bool_tup {xs : List D} {fc : Nat → Option Bool} : (dIsi (isiB "bool") fc (.tup xs)).map D.bl = some (.bl false) := by simp only [dIsi, show isiB "bool" "tuple" = some false from by decide, Option.map_some]
theorem q_i_str_tup {xs : List D} {fc : Nat → Option Bool} : (dIsi (isiB "str") fc (.tup xs)).map D.bl = some (.bl false) := by simp only [dIsi, show isiB "str" "tuple" = some false from by decide, Option.map_some]
theorem q_i_tuple_tup {xs : List D} {fc : Nat → Option Bool} : (dIsi (isiB "tuple") fc (.tup xs)).map D.bl = some (.bl true) := by simp only [dIsi, show isiB "tuple" "tuple" = some true from by decide, Option.map_some]
theorem q_i_list_tup {xs : List D} {fc : Nat → Option Bool} : (dIsi (isiB "list") fc (.tup xs)).map D.bl = some (.bl false) := by simp only [dIsi, show isiB "list" "tuple" = some false from by decide, Option.map_some]
theorem q_fld {c : Nat} {f : Str} {x : D} {r : List (Str × D)} : dFld [c] f (.ins c ((f, x) :: r)) = some x := by simp [dFld, List.lookup]
theorem q_al0 : allD [] = some [] := rfl
theorem q_al1 {x0 : D} : allD [.d x0] = some [x0] := rfl
theorem q_al2 {x0 x1 : D} : allD [.d x0, .d x1] = some [x0, x1] := rfl
theorem q_al3 {x0 x1 x2 : D} : allD [.d x0, .d x1, .d x2] = some [x0, x1, x2] := rfl
theorem q_al4 {x0 x1 x2 x3 : D} : allD [.d x0, .d x1, .d x2, .d x3] = some [x0, x1, x2, x3] := rfl
theorem q_al5 {x0 x1 x2 x3 x4 : D} : allD [.d x0, .d x1, .d x2, .d x3, .d x4] = some [x0, x1, x2, x3, x4] := rfl
theorem q_al6 {x0 x1 x2 x3 x4 x5 : D} : allD [.d x0, .d x1, .d x2, .d x3, .d x4, .d x5] = some [x0, x1, x2, x3, x4, x5] := rfl
theorem q_al7 {x0 x1 x2 x3 x4 x5 x6 : D} : allD [.d x0, .d x1, .d x2, .d x3, .d x4, .d x5, .d x6] = some [x0, x1, x2, x3, x4, x5, x6] := rfl
theorem q_al8 {x0 x1 x2 x3 x4 x5 x6 x7 : D} : allD [.d x0, .d x1, .d x2, .d x3, .d x4, .d x5, .d x6, .d x7] = some [x0, x1, x2, x3, x4, x5, x6, x7] := rfl
theorem wp_lk1 {nm f : Str} {x : D} {W : Prop} (e : (nm == f) = false) (h : W) : List.lookup nm [(f, x)] = none ∧ W := ⟨by simp only [List.lookup, e], h⟩
theorem wp_lk2 {nm f f2 : Str} {x x2 : D} {W : Prop} (e : (nm == f) = false) (e2 : (nm == f2) = false) (h : W) : List.lookup nm [(f, x), (f2, x2)] = none ∧ W := ⟨by simp only [List.lookup, e, e2], h⟩
theorem wp_lk3 {nm f f2 f3 : Str} {x x2 x3 : D} {W : Prop} (e : (nm == f) = false) (e2 : (nm == f2) = false) (e3 : (nm == f3) = false) (h : W) : List.lookup nm [(f, x), (f2, x2), (f3, x3)] = none ∧ W := ⟨by simp only [List.lookup, e, e2, e3], h⟩
theorem wp_avm {g : Gm} {av : AV} {c : Nat} {W : Prop} (e : (avC g av).map (fun x => x.1) = some c) (h : W) : (avC g av).map (fun x => x.1) = some c ∧ W := ⟨e, h⟩
theorem q_rvO {o : MO} : rvO (.own o) = some o := rfl
end FC
namespace FC
open PySem PySem.Spec PyProof.Rows L2
/-! ### the text of data: it is there, it is not too long -/
mutual
/-- how long the text can be -/
def tcost : PyData → Nat
  | .none => 4
  | .bool _ => 5
  | .int _ => 101
  | .str x => 10 * x.length + 2
  | .list xs => 2 + tcostL xs
  | .tuple xs => 3 + tcostL xs
  | .dict _ => 0
def tcostL : List PyData → Nat
  | [] => 0
  | x :: xs => tcost x + 2 + tcostL xs
end
mutual
/-- small numbers, plain signs -/
def tfine : PyData → Prop
  | .int i => i.natAbs.log2 < 100
  | .str x => ∀ c ∈ x.cps.toList, c < 16 ^ 8
  | .list xs => tfineL xs
  | .tuple xs => tfineL xs
  | .dict _ => False
  | _ => True
def tfineL : List PyData → Prop
  | [] => True
  | x :: xs => tfine x ∧ tfineL xs
end
theorem strLen_add (x y : Str) : (x ++ y).length = x.length + y.length := strLen_append x y
theorem textFrom_le : ∀ (ts : List Str) (k : Nat) (acc : Str), (textFrom k acc ts).length ≤ acc.length + (ts.map fun t => t.length + 2).sum
  | [], k, acc => by simp [textFrom]
  | t :: r, k, acc => by
    have h := textFrom_le r (k + 1) (acc ++ (if k > 0 then ", " else "" : String) ++ t)
    have e : (acc ++ (if k > 0 then ", " else "" : String) ++ t).length ≤ acc.length + 2 + t.length := by
      rw [strLen_add, strLen_add]
      split <;> simp <;> decide
    simp only [textFrom, List.map_cons, List.sum_cons]
    omega
theorem join_le (sep : Str) : ∀ ts : List Str, (Str.join sep ts).length ≤ (ts.map fun t => t.length + sep.length).sum
  | [] => Nat.zero_le _
  | [x] => by simp [Str.join]
  | x :: y :: r => by
    have h := join_le sep (y :: r)
    show (x ++ sep ++ Str.join sep (y :: r)).length ≤ _
    rw [strLen_add, strLen_add, List.map_cons, List.sum_cons]
    omega
mutual
theorem tfine_shown : ∀ p : PyData, tfine p → p.showable = true ∧ p.shown.length ≤ tcost p
  | .none, _ => ⟨rfl, by decide⟩
  | .bool b, _ => ⟨rfl, by cases b <;> decide⟩
  | .int i, h => by
    have h : i.natAbs.log2 < 100 := h
    refine ⟨by simp only [PyData.showable, decide_eq_true_eq]; omega, ?_⟩
    have := int_text_length_le (a := i) (k := 100) (by decide) h
    simp only [PyData.shown, tcost]
    rw [PySem.ofString_length]
    exact this
  | .str x, h => ⟨rfl, by simp only [PyData.shown, tcost]; exact StrLaws.reprText_len x h⟩
  | .list xs, h => by
    obtain ⟨h1, h2⟩ := tfineL_shown xs h
    refine ⟨by simp only [PyData.showable, h1], ?_⟩
    have e := textFrom_le (PyData.shownAll xs) 0 "["
    simp only [PyData.shown, listText, tcost, strLen_add]
    have e1 : (("[" : String) : Str).length = 1 := by decide
    have e2 : (("]" : String) : Str).length = 1 := by decide
    omega
  | .tuple xs, h => by
    obtain ⟨h1, h2⟩ := tfineL_shown xs h
    refine ⟨by simp only [PyData.showable, h1], ?_⟩
    have e := join_le (", " : String) (PyData.shownAll xs)
    simp only [PyData.shown, tupleText, tcost, strLen_add]
    have e1 : (("(" : String) : Str).length = 1 := by decide
    have e3 : ((", " : String) : Str).length = 2 := by decide
    have e2 : ((if (PyData.shownAll xs).length == 1 then ",)" else ")" : String) : Str).length ≤ 2 := by split <;> decide
    rw [e3] at e
    omega
  | .dict _, h => h.elim
theorem tfineL_shown : ∀ ps : List PyData, tfineL ps → PyData.showableAll ps = true ∧ ((PyData.shownAll ps).map fun t => t.length + 2).sum ≤ tcostL ps
  | [], _ => ⟨rfl, Nat.le_refl _⟩
  | x :: xs, h => by
    obtain ⟨h1, h2⟩ := tfine_shown x h.1
    obtain ⟨h3, h4⟩ := tfineL_shown xs h.2
    refine ⟨by simp only [PyData.showableAll, h1, h3, Bool.and_self], ?_⟩
    simp only [PyData.shownAll, List.map_cons, List.sum_cons, tcostL]
    omega
end
/-- what repr gives -/
theorem dRepr_fine {d : D} {p : PyData} (e : d.data = some p) (h : tfine p) (hd : p.depth ≤ 100) (hc : tcost p ≤ 10000000) : dRepr d = some (.str p.shown) := by
  obtain ⟨h1, h2⟩ := tfine_shown p h
  unfold dRepr shownD
  rw [e, Option.bind_some, if_pos ⟨h1, hd, len_szN (by omega)⟩]
  rfl
theorem dEq_str (x y : Str) : dEq (.str x) (.str y) = some (.bl (decide (x = y))) := by
  unfold dEq
  simp only [D.data]
  rw [if_pos (by simp [PyData.depth])]
  have : PyData.eqv (.str x) (.str y) = decide (x = y) := by
    by_cases h : x = y
    · subst h; simp [PyData.eqv]
    · simp [PyData.eqv, h]
  rw [this]
theorem log2_lt {i : Int} (h : i.natAbs < 2 ^ 99) : i.natAbs.log2 < 100 := by
  by_cases c : i.natAbs = 0
  · rw [c]; decide
  · exact Nat.lt_succ_of_lt ((Nat.log2_lt c).mpr h)
theorem tfine_int {i : Int} (h : -1000000000000000000000 < i ∧ i < 1000000000000000000000) : tfine (.int i) := log2_lt (by
  have : (2 : Nat) ^ 99 = 633825300114114700748351602688 := by decide
  omega)
end FC
namespace FC
open PySem PySem.Spec PyProof.Rows L2
/-! ### the script looked at -/
theorem slist_of {ns : List Int} {sv : SV} {γ : Gm} {i : Nat} (h : SvScript ns sv) (h0 : γ[i]? = some sv) : sList i γ = .ok (ns.map D.int) γ := by
  unfold sList
  rw [h0]
  rcases h with rfl | rfl <;> rfl
section
variable {γ : Gm} {E : Ex → Gm → Prop} {Q : D → Gm → Prop} {ns : List Int} {sv : SV} {i : Nat}
theorem wp_seeLen (h : SvScript ns sv) (h0 : γ[i]? = some sv) (q : Q (.int ns.length) γ) : Wp (fSeeLen i γ) Q E := by
  unfold fSeeLen
  rw [bindA_, slist_of h h0]
  simp only [List.length_map]
  exact ⟨q⟩
theorem wp_seeIx {fb : F D} (h : SvScript ns sv) (h0 : γ[i]? = some sv) (q : Wp (fb γ) (fun y g => ∃ (k : Nat) (z : Int), y = .int k ∧ ns[k]? = some z ∧ Q (.int z) g) E) : Wp (fSeeIx i fb γ) Q E := by
  unfold fSeeIx
  rw [bindA_, slist_of h h0]
  simp only
  refine wp_bind (q.imp fun y g h => ?_)
  obtain ⟨k, z, rfl, e, q⟩ := h
  refine wp_lift (a := .int z) (atI_nat rfl ?_) q
  rw [List.getElem?_map, e]
  rfl
end
/-! ### the frame of a law -/
theorem cut_ints {ns : List Int} {lo hi : Option Int} : ∃ zs : List Int, FC.cutD (ns.map D.int) lo hi = zs.map D.int := ⟨(ns.drop (HT.sIx (ns.map D.int).length 0 lo)).take (HT.sIx (ns.map D.int).length (ns.map D.int).length hi - HT.sIx (ns.map D.int).length 0 lo), by
  unfold FC.cutD
  rw [← List.map_drop, ← List.map_take]⟩
theorem cut_len {ns : List Int} {lo hi : Option Int} : (FC.cutD (ns.map D.int) lo hi).length ≤ ns.length := by
  unfold FC.cutD
  rw [List.length_take, List.length_drop, List.length_map]
  omega
/-- a def that reads a cell of the script -/
def CellOk (cell : F Fl) : Prop := ∀ (ns : List Int) (sv : SV) (k : Nat), SvScript ns sv → ∃ z : Int, cell [sv, .val (.int k)] = .ok (.ret (.val (.int z))) [sv, .val (.int k)]
section
variable {γ : Gm} {E : Ex → Gm → Prop} {cell : F Fl} {ns : List Int} {sv : SV}
theorem wp_cell {Q : D → Gm → Prop} {r : F (List AV)} {k : Nat} (hc : CellOk cell) (h : SvScript ns sv) (h0 : γ[0]? = some sv) (hr : r γ = .ok [.d (.int k)] γ) (q : ∀ z : Int, Q (.int z) γ) : Wp (fCall 2 cell (aVar 0 r) γ) Q E := by
  obtain ⟨z, e⟩ := hc ns sv k h
  refine wp_ok (a := .int z) (g := γ) ?_ (q z)
  rcases h with rfl | rfl
  · refine oCall (as := [.w (ns.map D.int), .d (.int k)]) (g := γ) (v := (.val (.int z), [.view (ns.map D.int), .val (.int k)])) ?_ (by simp [callR, bindA, padG, e, backG])
    unfold aVar
    rw [h0]
    simp only [bindA_, hr]
  · refine oCall (as := [.d (.lst (ns.map D.int)), .d (.int k)]) (g := γ) (v := (.val (.int z), [.val (.lst (ns.map D.int)), .val (.int k)])) ?_ (by simp [callR, bindA, padG, e, backG])
    unfold aVar
    rw [h0]
    simp only [bindA_, hr]
theorem wp_cells {Q : List D → Gm → Prop} (hc : CellOk cell) (hl : ns.length ≤ 63) (h : SvScript ns sv) (h0 : γ[0]? = some sv) (q : ∀ zs : List Int, Q (zs.map .int) γ) : Wp (iSeqF (f2 dAdd (fD (nLst (aVal (fCall 2 cell (aVar 0 (aVal (f0 (.int 0)) aNil))) aNil))) (fSeeSl 0 1 3)) γ) Q E := by
  refine wp_iSeq (wp_f2 (wp_fD (wp_nLst (wp_aVal (wp_cell (k := 0) hc h h0 rfl fun z => wp_aNil ⟨[.int z], rfl, len_sz (by simp), ?_⟩)))))
  have hs : sList 0 γ = .ok (ns.map D.int) γ := by
    unfold sList
    rw [h0]
    rcases h with rfl | rfl <;> rfl
  refine ok_lst (wp_ok (a := .lst (FC.cutD (ns.map D.int) (some 1) (some 3))) (g := γ) (by unfold fSeeSl; rw [bindA_, hs]) ?_)
  obtain ⟨zs, e⟩ := cut_ints (ns := ns) (lo := some 1) (hi := some 3)
  have l := cut_len (ns := ns) (lo := some 1) (hi := some 3)
  rw [e] at l ⊢
  rw [List.length_map] at l
  refine ⟨.lst (.int z :: zs.map D.int), ?_, _, rfl, q (z :: zs)⟩
  unfold dAdd
  simp only
  rw [if_pos (len_szN (by simp; omega))]
  rfl
end
end FC
namespace FC
open PySem PySem.Spec PyProof.Rows L2
section
variable {C : Ct} {W : WX} {X : Cx} {m p q m1 p1 m2 p2 : Bool} {a b e' e : Expr} {es : List Expr} {fa fb : F D} {fo : F AV} {fr : F (List AV)} {x : Str} {pn pos : Pos} {i : Nat}
/-! ### small steps -/
theorem tF_f1 {r : V → Hp → VK → Prop} {g : D → Option D} {σ : L2.St} {H : Hp} {Q : VK} (hr : Op1 C r g) (h : tF C W true p (f1 g fa) σ H Q) : tF C W m p fa σ H (fun x H1 => r x H1 Q) := by
  obtain ⟨pens, M, γ, E, h⟩ := h
  refine ⟨pens, M, γ, E, ?_⟩
  unfold f1 F.bind at h
  cases ea : fa γ with
  | st => rw [ea] at h; exact h
  | ex e γ' => rw [ea] at h; exact h
  | ok d γ1 =>
    rw [ea] at h
    intro v H1 S1 P1 r1
    simp only [liftO] at h
    cases eg : g d with
    | none => rw [eg] at h; exact h.elim
    | some d2 => rw [eg] at h; exact hr M H1 v d d2 Q S1.env.dom r1.s eg (aft_fin S1 P1 h)
/-- one argument that is data, alone -/
theorem tFA_val {σ : L2.St} {H : Hp} {Q : List V → Hp → Prop} (h : tFA C W (p && true) (aVal fa aNil) σ H Q) : tF C W true p fa σ H (fun y H2 => Q [y] H2) := by
  obtain ⟨pens, M, γ, E, h⟩ := h
  refine ⟨pens, M, γ, E, ?_⟩
  unfold aVal at h
  cases ea : fa γ with
  | st => rw [bind_st ea] at h; exact h
  | ex e γ' => rw [bind_ex ea] at h; exact fun cls d H' S re => h cls d H' M S.env S.keep S.pat (fun _ z => z) (fun _ z => .inl z) re
  | ok d γ1 =>
    rw [bind_ok ea] at h
    intro v H1 S P r
    rw [Bool.and_true] at h
    exact h [v] H1 M S.env S.keep S.pat P (fun _ z => z) (fun _ z => .inl z) ⟨.cons (show Rep C M H1 v d from r) .nil, by cases v <;> exact List.nodup_nil, fun a z => by cases v <;> cases z⟩
/-- the callee runs somewhere below -/
theorem run_fnGA {CX : CXT} {k : Nat} {A : Around} {f : Addr} {sp : Sp} {E : L2.St → XK} {Q : VK} {us : List Value} {vs : List V} {pins : List (Addr × Obj)} {σ : L2.St} {H : Hp} {s : Shared} (F : FnG X.prog X.w X.K X.mg X.base CX k f sp) (hr : RoomG k A) (e0 : Env0 X.prog X.w X.K X.mg X.base A X.stack s H) (hx : PassesAt CX X σ (E σ)) (I : Inv X pins σ H s) (r : Vals vs us) (h : sp vs H Q (E σ)) :
    codeAny (model X.prog X.w) A (.call (.ref f) ⟨us, []⟩) (fun r s' => match r with | .ok (.ret v) => EP X pins σ Q v s' | .ok _ => False | .error e => X.xe e s') s := by
  refine codeAny_mono (F A X.stack s H us vs Q (E σ) hr e0 r h) fun r s' hq => ?_
  match r, hq with
  | .error e, hq => exact hx pins H s e s' I hq
  | .ok (.ret u), hq => exact I.after hq
  | .ok .next, hq => exact hq.elim
  | .ok .brk, hq => exact hq.elim
  | .ok .cont, hq => exact hq.elim
/-! ### len(o), o[e], o + o', repr(o): by the methods of the class -/
def dLenR : D → Option D | .int n => if 0 ≤ n ∧ n < 2 ^ 63 then some (.int n) else none | _ => none
theorem op1_lenR : Op1 C (fun x H Q => ∃ n : Int, x = .int n ∧ 0 ≤ n ∧ n < 2 ^ 63 ∧ Q (.int n) H) dLenR := fun M H x dx d Q hd sx e k => by
  cases dx with
  | int n =>
    simp only [dLenR] at e
    split at e
    · rename_i hz; cases e; exact ⟨n, sx.intH, hz.1, hz.2, k _ H (Keep.refl _ _) (.int n)⟩
    · cases e
  | _ => cases e
def dStrR : D → Option D | .str y => some (.str y) | _ => none
theorem op1_strR : Op1 C (fun x H Q => ∃ y : Str, x = .str y ∧ Q (.str y) H) dStrR := fun M H x dx d Q hd sx e k => by
  cases dx with
  | str y => cases e; exact ⟨y, sx.strH, k _ H (Keep.refl _ _) (.str y)⟩
  | _ => cases e
theorem fx_lenO {k c : Nat} {f : Addr} {N : List Str} {b : F Fl} (he : FV C W q X e fo) (sp : Spe X.K (C.cl c) "__len__" f) (Fn : FnP X C k f N 1 b) (hr : RoomG (k + 1) X.A) (tk : Takes X W) (hm : X.mg "len" = none) (hg : Gl X "len") (hN : 1 ≤ N.length := by decide)
    (hs : starEach [e] X.env = (false, eval e X.env) :: starEach [] X.env := by rfl) (hpl : (backTo pos (starEach [] X.env)).any (·.1) = false := by rfl) : FX C W true false X (.Call (.Name "len" pn) [e] [] pos) (f1 dLenR (fMth c ("" : Str) N.length b fo aNil)) := by
  refine PE.imp (t := fun σ H Q => tFV C W q fo σ H fun x H1 => ∃ o dx fs, x = .ref o ∧ H1 o = some (.ins (C.cl c) dx fs) ∧ spF C N 1 b [x] H1 (fun v H2 => ∃ n : Int, v = .int n ∧ 0 ≤ n ∧ n < 2 ^ 63 ∧ Q (.int n) H2) (WE W σ)) ⟨fun pins s σ H Q I h => ?_⟩ fun σ H Q h => tFV.mono (meth_te (p := true) an_nil hN (tF_f1 (m := true) op1_lenR h)) fun v H1 ⟨a, dx, fs, e1, e2, e3, t⟩ => ⟨a, dx, fs, e1, e2, (tFA.nil t).2⟩
  refine wpAny_Call_Name_kw (ld_blt I hg hm boot_len ?_)
  have h2 : tCons (tFV C W q fo) tNil σ H (fun vs H1 => ∃ x o dx fs, vs = [x] ∧ x = .ref o ∧ H1 o = some (.ins (C.cl c) dx fs) ∧ spF C N 1 b [x] H1 (fun v H2 => ∃ n : Int, v = .int n ∧ 0 ≤ n ∧ n < 2 ^ 63 ∧ Q (.int n) H2) (WE W σ)) := tFV.mono h fun v H1 ⟨o, dx, fs, z⟩ => ⟨v, o, dx, fs, rfl, z⟩
  refine PyProof.Rows.callWith_builtin1 (thn ((pa_cons he pa_nil hs).run pos pins s σ H _ I h2) fun us s1 ⟨vs, H1, I1, r1, x, o, dx, fs, e1, e2, e3, q1⟩ => ?_) hs hpl
  subst e1 e2
  obtain ⟨u, rfl, ru⟩ := vals1 r1
  cases (show u = Value.ref o from ru)
  obtain ⟨mA, O, _⟩ := ins_get I1.hok e3
  obtain ⟨od, J, _⟩ := O.look
  obtain ⟨m0, hF⟩ := I1.fr
  refine PySem.W.len_K hF I1.ok.mod.kin J sp.at_ sp.fn (thn (wpAny_call (run_fnGA (us := [.ref o]) (vs := [.ref o]) (E := WE W) Fn hr.in1 I1.env0.in1 (passAt tk σ) I1 (.cons rfl .nil) q1)) fun v s2 hv => ?_)
  obtain ⟨v', H2, I2, rv, n, rfl, h0, h1, q2⟩ := hv
  obtain ⟨t, rfl⟩ := (show ∃ t, v = Value.int n t from rv)
  exact ⟨⟨h0, h1⟩, .int n, H2, I2.tok _, ⟨_, rfl⟩, q2⟩
/-- o[e] -/
theorem fx_getO {k c : Nat} {f : Addr} {N : List Str} {b : F Fl} (he : FV C W q X e fo) (hb : FX C W true p X a fb) (sp : Spe X.K (C.cl c) "__getitem__" f) (Fn : FnP X C k f N 2 b) (hr : RoomG (k + 1) X.A) (tk : Takes X W) (hN : 2 ≤ N.length := by decide)
    (hsl : ∀ x i : Value, subscripted a true x i = runValue (.builtin "lifetime.subscript" ⟨[x, i], []⟩) := by intro _ _; rfl) : FX C W true false X (.Subscript e a pos) (fMth c ("" : Str) N.length b fo (aVal fb aNil)) := by
  refine PE.imp (t := fun σ H Q => tFV C W q fo σ H fun x H1 => ∃ o dx fs, x = .ref o ∧ H1 o = some (.ins (C.cl c) dx fs) ∧ tF C W true p fb σ H1 fun y H2 => (∃ dx' fs', H2 o = some (.ins (C.cl c) dx' fs')) ∧ spF C N 2 b [x, y] H2 Q (WE W σ)) ⟨fun pins s σ H Q I h => ?_⟩ fun σ H Q h => tFV.mono (meth_te (p := p && true) (an_val an_nil) hN h) fun v H1 ⟨a, dx, fs, e1, e2, e3, t⟩ => ⟨a, dx, fs, e1, e2, tFA_val t⟩
  refine Subscript_ (thn (he.run pins s σ H _ I h) fun u s1 ⟨x, H1, I1, rx, o, dx, fs, ex, eo, q1⟩ => thn (hb.run pins s1 σ H1 _ I1 q1) fun v s2 ⟨y, H2, I2, ry, ⟨dx', fs', eo'⟩, q2⟩ => ?_)
  subst ex
  cases (show u = Value.ref o from rx)
  obtain ⟨mA, O, _⟩ := ins_get I2.hok eo'
  obtain ⟨od, J, _⟩ := O.look
  obtain ⟨m0, hF⟩ := I2.fr
  exact PySem.W.sub_K hF I2.ok.mod.kin J sp.at_ sp.fi sp.fn (wpAny_call (run_fnGA (us := [.ref o, v]) (vs := [.ref o, y]) (E := WE W) Fn hr.in1 I2.env0.in1 (passAt tk σ) I2 (.cons rfl (.cons ry .nil)) q2)) (hsl _ _)
/-- repr(o) -/
theorem fx_reprO {k c : Nat} {f : Addr} {N : List Str} {b : F Fl} (he : FV C W q X e fo) (sp : Spe X.K (C.cl c) "__repr__" f) (Fn : FnP X C k f N 1 b) (hr : RoomG (k + 1) X.A) (tk : Takes X W) (hm : X.mg "repr" = none) (hg : Gl X "repr") (hN : 1 ≤ N.length := by decide)
    (hs : starEach [e] X.env = (false, eval e X.env) :: starEach [] X.env := by rfl) (hpl : (backTo pos (starEach [] X.env)).any (·.1) = false := by rfl) : FX C W true false X (.Call (.Name "repr" pn) [e] [] pos) (f1 dStrR (fMth c ("" : Str) N.length b fo aNil)) := by
  refine PE.imp (t := fun σ H Q => tFV C W q fo σ H fun x H1 => ∃ o dx fs, x = .ref o ∧ H1 o = some (.ins (C.cl c) dx fs) ∧ spF C N 1 b [x] H1 (fun v H2 => ∃ y : Str, v = .str y ∧ Q (.str y) H2) (WE W σ)) ⟨fun pins s σ H Q I h => ?_⟩ fun σ H Q h => tFV.mono (meth_te (p := true) an_nil hN (tF_f1 (m := true) op1_strR h)) fun v H1 ⟨a, dx, fs, e1, e2, e3, t⟩ => ⟨a, dx, fs, e1, e2, (tFA.nil t).2⟩
  refine wpAny_Call_Name_kw (ld_blt I hg hm (show bootBuiltins "repr" = some (.builtin "repr") by decide +kernel) ?_)
  have h2 : tCons (tFV C W q fo) tNil σ H (fun vs H1 => ∃ x o dx fs, vs = [x] ∧ x = .ref o ∧ H1 o = some (.ins (C.cl c) dx fs) ∧ spF C N 1 b [x] H1 (fun v H2 => ∃ y : Str, v = .str y ∧ Q (.str y) H2) (WE W σ)) := tFV.mono h fun v H1 ⟨o, dx, fs, z⟩ => ⟨v, o, dx, fs, rfl, z⟩
  refine PyProof.Rows.callWith_builtin1 (thn ((pa_cons he pa_nil hs).run pos pins s σ H _ I h2) fun us s1 ⟨vs, H1, I1, r1, x, o, dx, fs, e1, e2, e3, q1⟩ => ?_) hs hpl
  subst e1 e2
  obtain ⟨u, rfl, ru⟩ := vals1 r1
  cases (show u = Value.ref o from ru)
  obtain ⟨mA, O, _⟩ := ins_get I1.hok e3
  obtain ⟨od, J, _⟩ := O.look
  obtain ⟨m0, hF⟩ := I1.fr
  refine PySem.W.repr_K (hr.in1.r.units0) hF I1.ok.mod.kin J sp.at_ sp.fn (thn (wpAny_call (run_fnGA (us := [.ref o]) (vs := [.ref o]) (E := WE W) Fn hr.in1 I1.env0.in1 (passAt tk σ) I1 (.cons rfl .nil) q1)) fun v s2 hv => ?_)
  obtain ⟨v', H2, I2, rv, y, rfl, q2⟩ := hv
  obtain ⟨t, rfl⟩ := (show ∃ t, v = Value.str y t from rv)
  exact ⟨.str y, H2, I2, ⟨_, rfl⟩, q2⟩
/-! ### o + o', both of the class -/
def fAddO (c N : Nat) (b : F Fl) (fo : F AV) (fb : F D) : F D := F.bind fo fun av γ => match avC γ av with
  | some (c', _) => if c' = c then F.bind fb (fun d γ2 => match d with
    | .ins c2 fs => if c2 = c ∧ (avC γ2 av).map (·.1) = some c then F.bind (callR N b [av, .d (.ins c2 fs)]) (fun r γ => .ok r.1.d γ) γ2 else .st
    | _ => .st) γ else .st
  | none => .st
end
end FC
namespace FC
open PySem PySem.Spec PyProof.Rows L2
section
variable {C : Ct} {W : WX} {X : Cx} {m p q m1 p1 m2 p2 : Bool} {a b e' e : Expr} {es : List Expr} {fa fb : F D} {fo : F AV} {fr : F (List AV)} {x nm : Str} {pn pos apos sp : Pos} {i : Nat}
/-! ### classmethods called off their class -/
theorem call_te {N : List Str} {n : Nat} {b : F Fl} {σ : L2.St} {H : Hp} {Q : VK} (hn : ArgsN n fr) (hN : n ≤ N.length) (h : tF C W true false (fCall N.length b fr) σ H Q) : tFA C W p fr σ H fun vs H1 => spF C N n b vs H1 Q (WE W σ) := by
  obtain ⟨pens, M, γ, E, h⟩ := h
  refine ⟨pens, M, γ, E, ?_⟩
  unfold fCall at h
  cases ea : fr γ with
  | st => rw [bind_st ea] at h; exact h
  | ex x γ' => rw [bind_ex ea] at h; exact aftA_ex E h
  | ok as γ1 =>
    rw [bind_ok ea] at h
    intro vs H1 M1 E1 k1 pt P1 up1 dn1 A
    have hl := hn _ _ _ ea
    refine call_sp hl (by rw [← hl]; exact hN) E E1 k1 pt up1 dn1 A ?_
    cases ec : callR N.length b as γ1 with
    | st => rw [bind_st ec] at h; exact h
    | ex e γ2 => rw [bind_ex ec] at h; exact h
    | ok r γ2 =>
      rw [bind_ok ec] at h
      intro v H' M' af rr
      obtain ⟨S, r2⟩ := af.rep E rr
      exact h v H' S (fun z => by cases z) r2
/-- a class ahead of the arguments -/
def aCls (c : Nat) (fr : F (List AV)) : F (List AV) := F.bind fr fun as γ => .ok (.d (.cls c) :: as) γ
theorem an_cls {n c : Nat} (h : ArgsN n fr) : ArgsN (n + 1) (aCls c fr) := fun γ as γ1 e => by
  unfold aCls at e
  cases q : fr γ with
  | st => rw [bind_st q] at e; cases e
  | ex _ _ => rw [bind_ex q] at e; cases e
  | ok bs g => rw [bind_ok q] at e; cases e; rw [h _ _ _ q]; rfl
theorem freshA_cls {c : Addr} {k : Nat} {vs : List V} {as : List AV} : freshA (.ref c :: vs) (.d (.cls k) :: as) = freshA vs as := rfl
theorem cls_te {c : Nat} {σ : L2.St} {H : Hp} {R : List V → Hp → Prop} (h : tFA C W p (aCls c fr) σ H R) : tFA C W p fr σ H fun vs H1 => R (.ref (C.cl c) :: vs) H1 := by
  obtain ⟨pens, M, γ, E, h⟩ := h
  refine ⟨pens, M, γ, E, ?_⟩
  unfold aCls at h
  cases ea : fr γ with
  | st => rw [bind_st ea] at h; exact h
  | ex x γ' => rw [bind_ex ea] at h; exact h
  | ok as γ1 =>
    rw [bind_ok ea] at h
    intro vs H1 M1 E1 k1 pt P1 up1 dn1 A
    exact h (.ref (C.cl c) :: vs) H1 M1 E1 k1 pt P1 up1 (fun z w => by rw [freshA_cls]; exact dn1 z w) ⟨.cons (show Rep C M1 H1 _ _ from .cls c) A.ok, by rw [freshA_cls]; exact A.nd, fun z w => by rw [freshA_cls] at w; exact A.fr z w⟩
theorem fx_cmeth {k c n : Nat} {g pr : Addr} {mc : Value} {N : List Str} {b : F Fl} {pl : Sem Bool} (hm : X.mg x = some (.ref (C.cl c))) (hg : Gl X x) (r : ClX.CRead X.K (C.cl c) mc) (cm : ClX.CMet X.K (C.cl c) mc nm pr g) (Fn : FnP X C k g N (n + 1) b) (hr : RoomG k X.A) (tk : Takes X W)
    (ha : FA C W p X (a :: es) fr) (hn : ArgsN n fr) (hN : n + 1 ≤ N.length := by decide) (hdb : (x == ("__debug__" : Str)) = false := by decide) (hst : starEach (a :: es) X.env = (false, eval a X.env) :: starEach es X.env := by rfl) (hpl : (backTo pos (starEach es X.env)).any (·.1) = false := by rfl)
    (ht : eval (.Call (.Attribute (.Name x pn) nm apos) (a :: es) [] pos) X.env = (do
      let ov ← eval (.Name x pn) X.env
      standAt apos.atName
      let (f, first) ← holding [ov] (getMethod ov nm pl)
      callWith pos f first (backTo pos (starEach (a :: es) X.env)) (backToKw pos (keywordEach [] X.env))) := by rfl) :
    FX C W true false X (.Call (.Attribute (.Name x pn) nm apos) (a :: es) [] pos) (fCall N.length b (aCls c fr)) := by
  refine PE.imp (t := fun σ H Q => tFA C W p fr σ H fun vs H1 => spF C N (n + 1) b (.ref (C.cl c) :: vs) H1 Q (WE W σ)) ⟨fun pins s σ H Q I h => ?_⟩ fun σ H Q h => cls_te (call_te (an_cls hn) hN h)
  refine PySem.W.methodCall_KW (pl := pl) (thn ((pe_glob (v := .ref (C.cl c)) (pos := pn) hg hm rfl hdb).run pins s σ H (fun v H1 => v = .ref (C.cl c) ∧ tFA C W p fr σ H1 fun vs H1 => spF C N (n + 1) b (.ref (C.cl c) :: vs) H1 Q (WE W σ)) I ⟨rfl, h⟩) fun u s1 ⟨y, H1, I1, ry, ey, q⟩ => ?_) ht
  subst ey
  cases (show u = Value.ref (C.cl c) from ry)
  refine ClX.getmethcm_ok I1 r cm fun s2 I2 => ?_
  refine ClX.callwith_cm I2 (ClX.base_none I1 (Nat.le_refl _)) cm.fi (thn (ha.run pos _ s2 σ H1 _ I2 q) fun us s3 ⟨vs, H2, I3, rv, q2⟩ => ⟨⟨ClX.pin_at I3, I3.kIn⟩, ?_⟩) hst hpl
  have z := wpAny_call (PySem.W.method_call (ClX.pin_at I3) (run_fnRS (us := .ref (C.cl c) :: us) (vs := .ref (C.cl c) :: vs) (E := WE W) Fn hr (passAt tk σ) I3 (.cons rfl rv) q2))
  exact thn z fun _ _ y => ClX.unpinE y
/-! ### instances made by a class held in a name, by a list of arguments -/
def nMakeL (i c N : Nat) (b : F Fl) (fr : F (List AV)) : F MO := fun γ => match γ[i]? with
  | some (.val (.cls c')) => if c' = c then nMakeS c N b fr γ else .st
  | _ => .st
theorem makeL_te {N : List Str} {c : Nat} {b : F Fl} {σ : L2.St} {H : Hp} {Q : VK} (hN : 2 ≤ N.length) (h : tFN C W false (nMakeL i c N.length b fr) σ H Q) : σ[i]? = some (some (.ref (C.cl c))) ∧ tFN C W false (nMakeS c N.length b fr) σ H Q := by
  obtain ⟨pens, M, γ, E, h⟩ := h
  unfold nMakeL at h
  cases q : γ[i]? with
  | none => rw [q] at h; exact h.elim
  | some sv =>
    rw [q] at h
    cases sv with
    | val d =>
      cases d with
      | cls c' =>
        simp only at h
        split at h
        · rename_i hc
          subst hc
          obtain ⟨y, h1, v, h2, r⟩ := E.slot q
          subst h2
          cases r
          exact ⟨h1, pens, M, γ, E, h⟩
        · exact h.elim
      | _ => exact h.elim
    | none => exact h.elim
    | own _ _ => exact h.elim
    | view _ => exact h.elim
/-- the items of a starred argument, alone -/
theorem star_te {σ : L2.St} {H : Hp} {R : List V → Hp → Prop} (hK : X.K = C.K) (h : tFA C W (p && true) (aStar fa aNil) σ H R) : tF C W m p fa σ H fun y H1 => ∃ a us, y = V.ref a ∧ (SqT X.K H1 a us ∨ SqL X.K H1 a us) ∧ R us H1 := by
  obtain ⟨pens, M, γ, E, h⟩ := h
  refine ⟨pens, M, γ, E, ?_⟩
  unfold aStar at h
  cases ea : fa γ with
  | st => rw [bind_st ea] at h; exact h
  | ex x γ' => rw [bind_ex ea] at h; exact fun cls d H' S re => h cls d H' M S.env S.keep S.pat (fun _ z => z) (fun _ z => .inl z) re
  | ok d γ1 =>
    rw [bind_ok ea] at h
    intro v H1 S1 P1 r1
    cases ei : dItems d with
    | none => rw [bind_st (by unfold liftO; rw [ei])] at h; exact h.elim
    | some xs =>
      rw [bind_ok (f := liftO (dItems d)) (a := xs) (γ' := γ1) (by unfold liftO; rw [ei])] at h
      have its : ∃ a us, v = .ref a ∧ (SqT X.K H1 a us ∨ SqL X.K H1 a us) ∧ RepL C M H1 us xs := by
        cases d with
        | lst ys => cases ei; obtain ⟨a, us, e1, e2, e3⟩ := r1.s.lstH; exact ⟨a, us, e1, .inr (.inl (.inl e2)), e3⟩
        | tup ys => cases ei; obtain ⟨a, us, e1, e2, _, e3⟩ := r1.s.tupH; exact ⟨a, us, e1, .inl (.inl (.inl e2)), e3⟩
        | _ => cases ei
      obtain ⟨a, us, e1, e2, e3⟩ := its
      refine ⟨a, us, e1, e2, ?_⟩
      have ef := freshA_d xs us [] [] e3.length
      have h : aftA C W pens M σ γ H (p && true) (.ok (xs.map .d ++ []) γ1) R := h
      have z := h (us ++ []) H1 M S1.env S1.keep S1.pat (fun z => P1 (by rwa [Bool.and_true] at z)) (fun _ z => z) (fun _ z => .inl z) ⟨paired_d e3 .nil, by rw [ef]; exact List.nodup_nil, fun a ha => by rw [ef] at ha; cases ha⟩
      rwa [List.append_nil] at z
theorem fn_makeLStar {k c : Nat} {f : Addr} {N : List Str} {b : F Fl} (hv : PE X a (tVar i)) (Mm : Mk X.K (C.cl c) f) (Fn : FnG X.prog X.w X.K X.mg X.base (L2.CX X.prog X.w) k f (spStar C N b)) (hr : RoomG (k + 1) X.A) (tk : Takes X W)
    (he : FX C W m p X e fa) (hK : X.K = C.K := by rfl) (hN : 2 ≤ N.length := by decide)
    (ht : eval (.Call a [.Starred e sp] [] pos) X.env = (do callWith pos (← eval a X.env) [] (backTo pos (starEach [.Starred e sp] X.env)) (backToKw pos (keywordEach [] X.env))) := by rfl) (hst : starEach [.Starred e sp] X.env = [(true, eval e X.env)] := by rfl) :
    FN C W false X (.Call a [.Starred e sp] [] pos) (nMakeL i c N.length b (aStar fa aNil)) := ⟨fun pins s σ H Q I h => by
  obtain ⟨hs, h⟩ := makeL_te hN h
  refine Call_ (thn (hv.run pins s σ H (fun v H1 => v = .ref (C.cl c) ∧ H1 = H) I ⟨_, hs, rfl, rfl⟩) fun u s1 ⟨y, H1, I1, ry, ey, eh⟩ => ?_) ht
  subst ey eh
  cases (show u = Value.ref (C.cl c) from ry)
  refine PySem.W.callWith_S (h₀ := X.base) I1.ok.mod.kin Mm.kp (thn (he.run pins s1 σ _ _ I1 (star_te hK (makeS_te (p := p && true) hN h))) fun v s2 ⟨y, H2, I2, ry, a, xs, ey, hxs, q⟩ => ?_) hst
  subst ey
  cases (show v = Value.ref a from ry)
  exact StX.star_any I2 hxs fun us s3 I3 rv => ⟨I3.kIn, run_makeRS (E := WE W) Mm Fn hr (passAt tk σ) I3 rv q⟩⟩
/-! ### f-strings -/
def dFmt : D → Option D
  | .str y => if y.length ≤ sizeLine then some (.str y) else none
  | .int i => if i.natAbs.log2 < 1920 then some (.str (toString i)) else none
  | _ => none
theorem fx_fmt (ha : FX C W m p X a fa) : FX C W true p X (.FormattedValue a (-1) none pos) (f1 dFmt fa) := fx1 (r := fun x H Q => (∃ y : Str, x = .str y ∧ y.length ≤ sizeLine ∧ Q (.str y) H) ∨ ∃ i : Int, x = .int i ∧ i.natAbs.log2 < 1920 ∧ Q (.str (toString i)) H) ha (fun ta h => pe_fmt h) fun M H x dx d Q hd sx e k => by
  cases dx with
  | str y =>
    simp only [dFmt] at e
    split at e
    · rename_i hz; cases e; exact .inl ⟨y, sx.strH, hz, k _ H (Keep.refl _ _) (.str _)⟩
    · cases e
  | int i =>
    simp only [dFmt] at e
    split at e
    · rename_i hz; cases e; exact .inr ⟨i, sx.intH, hz, k _ H (Keep.refl _ _) (.str _)⟩
    · cases e
  | _ => cases e
def fJ : List (F D) → Str → F D
  | [], acc => fun γ => .ok (.str acc) γ
  | f :: fs, acc => F.bind f fun d => match d with
    | .str y => if (acc ++ y).length ≤ sizeLine then fJ fs (acc ++ y) else fun _ => .st
    | _ => fun _ => .st
inductive FXs (C : Ct) (W : WX) (X : Cx) : List Expr → List (F D) → Prop where
  | nil : FXs C W X [] []
  | cons {e : Expr} {f : F D} {es : List Expr} {fs : List (F D)} (h : ∃ p, FX C W true p X e f) (r : FXs C W X es fs) : FXs C W X (e :: es) (f :: fs)
theorem fj_run {pins : List (Addr × Obj)} {σ : L2.St} {es : List Expr} {fs : List (F D)} (h : FXs C W X es fs) : ∀ (acc : Str) (s : Shared) (H : Hp) (Q : VK) (R : Str → Shared → Prop), acc.length ≤ sizeLine → Inv X pins σ H s → tF C W true false (fJ fs acc) σ H Q →
    (∀ out s1 H1, out.length ≤ sizeLine → Inv X pins σ H1 s1 → Q (.str out) H1 → R out s1) → Joins (model X.prog X.w) X.A X.xe (evalEach es X.env) acc R s := by
  induction h with
  | nil =>
    intro acc s H Q R hz I q k
    have e0 : evalEach [] X.env = [] := by first | rfl | simp [evalEach]
    rw [e0]
    obtain ⟨pens, M, γ, E, q⟩ := q
    exact k acc s H hz I (q (.str acc) H (Stp.pure E (Keep.refl _ _)) (fun z => by cases z) (show Rep C M H _ _ from .str acc))
  | @cons e f es fs he r ih =>
    intro acc s H Q R hz I q k
    have e0 : evalEach (e :: es) X.env = eval e X.env :: evalEach es X.env := by first | rfl | simp [evalEach]
    rw [e0]
    obtain ⟨p, he⟩ := he
    have q2 : tF C W true p f σ H (fun x H1 => ∃ y : Str, x = .str y ∧ (acc ++ y).length ≤ sizeLine ∧ tF C W true false (fJ fs (acc ++ y)) σ H1 Q) := by
      obtain ⟨pens, M, γ, E, q⟩ := q
      refine ⟨pens, M, γ, E, ?_⟩
      unfold fJ at q
      cases ea : f γ with
      | st => rw [bind_st ea] at q; exact q
      | ex x g => rw [bind_ex ea] at q; exact q
      | ok d γ1 =>
        rw [bind_ok ea] at q
        cases d with
        | str y =>
          simp only at q
          split at q
          · rename_i hz2
            intro v H1 S1 P1 r1
            refine ⟨y, (MRep.s r1).strH, hz2, pens, M, γ1, S1.env, ?_⟩
            cases eb : fJ fs (acc ++ y) γ1 with
            | st => rw [eb] at q; exact q
            | ex x g => rw [eb] at q; exact fun cls dd H' S2 re => q cls dd H' (S1.trans S2) re
            | ok d2 g => rw [eb] at q; exact fun v2 H2 S2 P2 r2 => q v2 H2 (S1.trans S2) (fun z => by cases z) r2
          · exact q.elim
        | _ => exact q.elim
    refine thn (he.run pins s σ H _ I q2) fun v s1 ⟨x, H1, I1, r1, y, ex, hy, q1⟩ => ?_
    subst ex
    obtain ⟨tk, rfl⟩ := (show ∃ t, v = Value.str y t from r1)
    exact ⟨y, tk, rfl, hy, ih (acc ++ y) s1 H1 Q R hy I1 q1 k⟩
theorem fx_joined {v1 v2 : Expr} {rest : List Expr} {fs : List (F D)} (h : FXs C W X (v1 :: v2 :: rest) fs) : FX C W true false X (.JoinedStr (v1 :: v2 :: rest) pos) (fJ fs Str.empty) := ⟨fun pins s σ H Q I q =>
  wpAny_JoinedStr (fj_run h Str.empty s H Q _ (Nat.zero_le _) I q fun out s1 H1 hz I1 q1 => ⟨hz, .str out, H1, I1.tok _, ⟨_, rfl⟩, q1⟩)⟩
/-! ### facts of classes -/
theorem cread_of {K : PySem.W.Frag} {Ca : Addr} (h : PySem.W.readsIn K Ca (.type "type") = true) : ClX.CRead K Ca (.type "type") := by
  refine ⟨h, ?_⟩
  unfold PySem.W.readsIn at h
  obtain ⟨h, _⟩ := He.ba h
  obtain ⟨h, _⟩ := He.ba h
  obtain ⟨h, h3⟩ := He.ba h
  obtain ⟨_, h2⟩ := He.ba h
  unfold PySem.W.specialIn
  rw [beq_iff_eq.mp h2, Option.bind_some]
  exact beq_iff_eq.mp h3
theorem cmet_of {K : PySem.W.Frag} {Ca : Addr} {mn : Str} (h : cmB K Ca mn = true) : ClX.CMet K Ca (.type "type") mn (He.ma K Ca mn) (He5.wf K Ca "classmethod" mn) := He5.cmet_of (He.ba h).1 (He.ba h).2
/-! ### isinstance of a class of one's own -/
def isiCb (t : String) : Option Bool := if t ∈ tyNs then some false else none
theorem isiCb_ok {K : PySem.W.Frag} {T : Addr} (h : isiN T K = true) : ∀ t r, isiCb t = some r → PySem.W.kitOne K (.type t) (.ref T) = some r := fun t r e => by
  unfold isiCb at e
  split at e
  · rename_i hm
    cases e
    exact of_decide_eq_true (List.all_eq_true.mp h t hm)
  · cases e
/-- which classes are told, and how -/
def isiCc (tb : List (Nat × Bool)) (c : Nat) : Option Bool := tb.lookup c
theorem isiC1_ok {K : PySem.W.Frag} {cl : Nat → Addr} {T : Addr} {c0 : Nat} {r0 : Bool} (h : InsTy K (cl c0) ∧ PySem.W.kitOne K (.ref (cl c0)) (.ref T) = some r0) : ∀ c r, isiCc [(c0, r0)] c = some r → InsTy K (cl c) ∧ PySem.W.kitOne K (.ref (cl c)) (.ref T) = some r := fun c r e => by
  unfold isiCc at e
  rw [List.lookup_cons] at e
  split at e
  · rename_i q
    cases e
    rw [beq_iff_eq] at q
    subst q
    exact h
  · cases e
/-- the same in one word, for goals -/
def dIsC (tb : List (Nat × Bool)) (d : D) : Option D := (dIsi isiCb (isiCc tb) d).map D.bl
end
end FC
namespace FC
open PySem PySem.Spec PyProof.Rows L2
/-! ### methods of texts -/
def fS1 {β : Type} (g : Str → D → Option β) (fa fb : F D) : F β := F.bind fa fun x => match x with
  | .str a => F.bind fb fun y => liftO (g a y)
  | _ => fun _ => .st
section
variable {C : Ct} {W : WX} {X : Cx} {m p q m1 p1 m2 p2 : Bool} {a b e' e o : Expr} {es : List Expr} {fa fb : F D} {pos apos : Pos}
theorem fx_s1 {r : V → List V → Hp → VK → Prop} {g : Str → D → Option D} (mk : ∀ ta tb, PE X a ta → PE X b tb → PE X e' (tM1 r ta tb)) (hr : ∀ (M : Addr → Prop) (H : Hp) (x : Str) (y : V) (dy d : D) (Q : VK), (∀ a, M a → ∃ o, H a = some o) → SRep C M H y dy → g x dy = some d → (∀ v H', Keep0 H H' → Rep C M H' v d → Q v H') → r (.str x) [y] H Q)
    (ha : FX C W m1 p1 X a fa) (hb : FX C W m2 p2 X b fb) : FX C W true (p1 && p2) X e' (fS1 g fa fb) := PE.imp (mk _ _ ha hb) fun σ H Q ⟨pens, M, γ, E, h⟩ => by
  refine ⟨pens, M, γ, E, ?_⟩
  unfold fS1 at h
  cases ea : fa γ with
  | st => rw [bind_st ea] at h; exact h
  | ex e γ' => rw [bind_ex ea] at h; exact h
  | ok d γ1 =>
    rw [bind_ok ea] at h
    intro v H1 S1 P1 r1
    cases d with
    | str x =>
      have ev : v = .str x := (MRep.s r1).strH
      subst ev
      refine ⟨⟨x, rfl⟩, pens, M, γ1, S1.env, ?_⟩
      simp only at h
      cases eb : fb γ1 with
      | st => rw [bind_st eb] at h; exact h
      | ex e γ' => rw [bind_ex eb] at h; exact fun cls dd H' S2 re => h cls dd H' (S1.trans S2) re
      | ok d2 γ2 =>
        rw [bind_ok eb] at h
        intro v2 H2 S2 P2 r2
        simp only [liftO] at h
        cases eg : g x d2 with
        | none => rw [eg] at h; exact h.elim
        | some d3 =>
          rw [eg] at h
          exact hr M H2 x v2 d2 d3 Q S2.env.dom r2.s eg (aft_fin (S1.trans S2) (purity P1 P2) h)
    | _ => exact h.elim
theorem fn_s1 {r : V → List V → Hp → VK → Prop} {g : Str → D → Option (List D)} (mk : ∀ ta tb, PE X a ta → PE X b tb → PE X e' (tM1 r ta tb)) (hr : ∀ (C : Ct) (M : Addr → Prop) (H : Hp) (x : Str) (y : V) (dy : D) (xs : List D) (Q : VK), SRep C M H y dy → g x dy = some xs → (∀ p vs, H p = none → RepL C M H vs xs → Q (.ref p) (upd H p (.lst vs))) → r (.str x) [y] H Q)
    (ha : FX C W m1 p1 X a fa) (hb : FX C W m2 p2 X b fb) : FN C W (p1 && p2) X e' (fS1 (fun x y => (g x y).map MO.lst) fa fb) := PE.imp (mk _ _ ha hb) fun σ H Q ⟨pens, M, γ, E, h⟩ => by
  refine ⟨pens, M, γ, E, ?_⟩
  unfold fS1 at h
  cases ea : fa γ with
  | st => rw [bind_st ea] at h; exact h
  | ex e γ' => rw [bind_ex ea] at h; exact h
  | ok d γ1 =>
    rw [bind_ok ea] at h
    intro v H1 S1 P1 r1
    cases d with
    | str x =>
      have ev : v = .str x := (MRep.s r1).strH
      subst ev
      refine ⟨⟨x, rfl⟩, pens, M, γ1, S1.env, ?_⟩
      simp only at h
      cases eb : fb γ1 with
      | st => rw [bind_st eb] at h; exact h
      | ex e γ' => rw [bind_ex eb] at h; exact fun cls dd H' S2 re => h cls dd H' (S1.trans S2) re
      | ok d2 γ2 =>
        rw [bind_ok eb] at h
        intro v2 H2 S2 P2 r2
        simp only [liftO] at h
        cases eg : g x d2 with
        | none => rw [eg] at h; exact h.elim
        | some xs =>
          rw [eg] at h
          exact hr C M H2 x v2 d2 xs Q r2.s eg (aftN_fin E (S1.trans S2) (purity P1 P2) h)
    | _ => exact h.elim
/-- x.join(list of texts) -/
def dJoin (x : Str) (d : D) : Option D := (dItems d).bind fun xs => (dStrs xs).bind fun ys => if (ys.map (·.length)).sum + ys.length * x.length ≤ 16777216 then some (.str (Txt.join x ys)) else none
theorem fx_join (ha : FX C W m1 p1 X o fa) (hb : FX C W m2 p2 X e fb) (hs : starEach [e] X.env = [(false, eval e X.env)] := by rfl) (hbase : attributeBase o "join" X.env (eval o X.env) = eval o X.env := by rfl) (hline : (apos.endLine == pos.line) = true := by rfl) : FX C W true (p1 && p2) X (.Call (.Attribute o "join" apos) [e] [] pos) (fS1 dJoin fa fb) :=
  fx_s1 (fun ta tb h1 h2 => pe_join h1 h2 hs hbase hline) (fun M H x y dy d Q hd sy e k => by
    unfold dJoin at e
    cases e1 : dItems dy with
    | none => rw [e1] at e; cases e
    | some xs =>
      rw [e1, Option.bind_some] at e
      cases e2 : dStrs xs with
      | none => rw [e2] at e; cases e
      | some ys =>
        rw [e2, Option.bind_some] at e
        split at e
        case isFalse => cases e
        rename_i hz
        cases e
        have ex := dStrs_eq e2
        subst ex
        cases dy with
        | lst zs =>
          cases e1
          obtain ⟨l, us, rfl, h1, h2⟩ := sy.lstH
          have := h2.strs
          subst this
          exact ⟨x, l, ys, rfl, rfl, .inl (.inl (.inl h1)), hz, k _ H (Keep.refl _ _) (.str _)⟩
        | tup zs =>
          cases e1
          obtain ⟨l, us, rfl, h1, _, h2⟩ := sy.tupH
          have := h2.strs
          subst this
          exact ⟨x, l, ys, rfl, rfl, .inr (.inl (.inl h1)), hz, k _ H (Keep.refl _ _) (.str _)⟩
        | _ => cases e1) ha hb
def dStarts (x : Str) (d : D) : Option D := match d with | .str y => some (.bl (Txt.startswith x y)) | _ => none
def dEnds (x : Str) (d : D) : Option D := match d with | .str y => some (.bl (Txt.endswith x y)) | _ => none
theorem fx_startswith (ha : FX C W m1 p1 X o fa) (hb : FX C W m2 p2 X e fb) (hs : starEach [e] X.env = [(false, eval e X.env)] := by rfl) (hbase : attributeBase o "startswith" X.env (eval o X.env) = eval o X.env := by rfl) (hline : (apos.endLine == pos.line) = true := by rfl) : FX C W true (p1 && p2) X (.Call (.Attribute o "startswith" apos) [e] [] pos) (fS1 dStarts fa fb) :=
  fx_s1 (fun ta tb h1 h2 => pe_m1 F.slot_str_startswith F.type_str_startswith mt_startswith h1 h2 hs hbase hline) (fun M H x y dy d Q hd sy e k => by
    cases dy with
    | str z => cases e; rw [sy.strH]; exact ⟨x, z, rfl, rfl, k _ H (Keep.refl _ _) (.bl _)⟩
    | _ => cases e) ha hb
theorem fx_endswith (ha : FX C W m1 p1 X o fa) (hb : FX C W m2 p2 X e fb) (hs : starEach [e] X.env = [(false, eval e X.env)] := by rfl) (hbase : attributeBase o "endswith" X.env (eval o X.env) = eval o X.env := by rfl) (hline : (apos.endLine == pos.line) = true := by rfl) : FX C W true (p1 && p2) X (.Call (.Attribute o "endswith" apos) [e] [] pos) (fS1 dEnds fa fb) :=
  fx_s1 (fun ta tb h1 h2 => pe_m1 F.slot_str_endswith F.type_str_endswith mt_endswith h1 h2 hs hbase hline) (fun M H x y dy d Q hd sy e k => by
    cases dy with
    | str z => cases e; rw [sy.strH]; exact ⟨x, z, rfl, rfl, k _ H (Keep.refl _ _) (.bl _)⟩
    | _ => cases e) ha hb
def dSplit (x : Str) (d : D) : Option (List D) := match d with
  | .str y => if (y.length == 0) = false ∧ x.length + 2 ≤ sizeLine then some ((Txt.split x y).map D.str) else none
  | _ => none
theorem fn_split (ha : FX C W m1 p1 X o fa) (hb : FX C W m2 p2 X e fb) (hs : starEach [e] X.env = [(false, eval e X.env)] := by rfl) (hbase : attributeBase o "split" X.env (eval o X.env) = eval o X.env := by rfl) (hline : (apos.endLine == pos.line) = true := by rfl) : FN C W (p1 && p2) X (.Call (.Attribute o "split" apos) [e] [] pos) (fS1 (fun x y => (dSplit x y).map MO.lst) fa fb) :=
  fn_s1 (fun ta tb h1 h2 => pe_split h1 h2 hs hbase hline) (fun C M H x y dy xs Q sy e k => by
    cases dy with
    | str z =>
      simp only [dSplit] at e
      split at e
      · rename_i hz
        cases e
        rw [sy.strH]
        exact ⟨x, z, rfl, rfl, hz.1, hz.2, fun p hp => k p _ hp (repL_strs _)⟩
      · cases e
    | _ => cases e) ha hb
end
end FC
namespace FC
open PySem PySem.Spec PyProof.Rows L2
/-! ### what is wished behind the further steps -/
section
variable {γ : Gm} {E : Ex → Gm → Prop} {N c i : Nat} {b : F Fl} {r : F (List AV)} {fa fb : F D} {fo : F AV}
/-- what a class's __init__ with a star parameter makes of its arguments -/
structure Mk1 (c N : Nat) (b : F Fl) (ds : List D) (fs : List (Str × D)) : Prop where
  run : ∃ g, b (padG N [.own (some 0) (.ins c []), .val (.tup ds)]) = .ok .nx (.own (some 0) (.ins c fs) :: g)
theorem Mk1.of {ds : List D} {fs : List (Str × D)} (h : Wp (b (padG N [.own (some 0) (.ins c []), .val (.tup ds)])) (fun f g => f = .nx ∧ ∃ g', g = .own (some 0) (.ins c fs) :: g') E0) : Mk1 c N b ds fs := by
  obtain ⟨f, g, e, rfl, g', rfl⟩ := h.out
  exact ⟨⟨g', e⟩⟩
theorem wp_makeS {Q : MO → Gm → Prop} (h : Wp (r γ) (fun as g => ∃ ds, allD as = some ds ∧ ds.length ≤ sizeLine ∧ ∃ fs, Mk1 c N b ds fs ∧ Q (.ins c fs) g) E) : Wp (nMakeS c N b r γ) Q E := by
  unfold nMakeS
  refine wp_bind (h.imp fun as g h => ?_)
  obtain ⟨ds, e, hz, fs, ⟨⟨g', e2⟩⟩, q⟩ := h
  refine wp_bind (wp_lift e ?_)
  rw [if_pos hz]
  refine wp_bind (wp_ok (a := (.val .non, .own (some 0) (.ins c fs) :: g')) (g := g) ?_ (wp_lift (a := .ins c fs) ?_ q))
  · unfold callR
    simp only [bindA, Option.map_some, e2, backG]
  · simp [mkO]
theorem wp_makeL {Q : MO → Gm → Prop} (e : γ[i]? = some (.val (.cls c))) (h : Wp (nMakeS c N b r γ) Q E) : Wp (nMakeL i c N b r γ) Q E := by
  unfold nMakeL
  rw [e]
  simp only [if_true]
  exact h
theorem wp_aCls {Q : List AV → Gm → Prop} (h : Wp (r γ) (fun as g => Q (.d (.cls c) :: as) g) E) : Wp (aCls c r γ) Q E := wp_bind (h.imp fun _ _ z => ⟨z⟩)
theorem wp_addO {Q : D → Gm → Prop} (h : Wp (fo γ) (fun av g => ∃ fs, avC g av = some (c, fs) ∧ Wp (fb g) (fun d g2 => ∃ fs2, d = .ins c fs2 ∧ (avC g2 av).map (·.1) = some c ∧ WpC N b [av, .d (.ins c fs2)] g2 (dK Q) E) E) E) : Wp (fAddO c N b fo fb γ) Q E := by
  unfold fAddO
  refine wp_bind (h.imp fun av g h => ?_)
  obtain ⟨fs, e1, h⟩ := h
  simp only [e1, if_true]
  refine wp_bind (h.imp fun d g2 h => ?_)
  obtain ⟨fs2, rfl, e2, h⟩ := h
  simp only [e2, and_self, if_true]
  exact wp_bind (h.imp fun _ _ z => ⟨z⟩)
theorem wp_exI {c : Nat} {fs : List (Str × D)} {Q : List (Str × D) → Prop} (h : Q fs) : ∃ fs2, D.ins c fs = .ins c fs2 ∧ Q fs2 := ⟨fs, rfl, h⟩
/-- the parts of an f-string, one behind the other -/
theorem wp_fJ0 {acc : Str} {Q : D → Gm → Prop} (h : Q (.str acc) γ) : Wp (fJ [] acc γ) Q E := ⟨h⟩
theorem wp_fJ1 {f : F D} {fs : List (F D)} {acc : Str} {Q : D → Gm → Prop} (h : Wp (f γ) (fun d g => ∃ y, d = .str y ∧ (acc ++ y).length ≤ sizeLine ∧ Wp (fJ fs (acc ++ y) g) Q E) E) : Wp (fJ (f :: fs) acc γ) Q E := by
  unfold fJ
  refine wp_bind (h.imp fun d g h => ?_)
  obtain ⟨y, rfl, hz, h⟩ := h
  simp only [hz, if_true]
  exact h
theorem wp_exS {y : Str} {Q : Str → Prop} (h : Q y) : ∃ y', D.str y = .str y' ∧ Q y' := ⟨y, rfl, h⟩
theorem wp_s1 {β : Type} {g : Str → D → Option β} {Q : β → Gm → Prop} (h : Wp (fa γ) (fun x g1 => ∃ s, x = .str s ∧ Wp (fb g1) (fun y g2 => ∃ z, g s y = some z ∧ Q z g2) E) E) : Wp (fS1 g fa fb γ) Q E := by
  unfold fS1
  refine wp_bind (h.imp fun x g1 h => ?_)
  obtain ⟨s, rfl, h⟩ := h
  exact wp_bind (h.imp fun y g2 z => wp_liftE z)
end
theorem q_fmtI {i : Int} (h : i.natAbs.log2 < 1920) : dFmt (.int i) = some (.str (toString i)) := by simp only [dFmt]; rw [if_pos h]
theorem q_strI {i : Int} (h : i.natAbs.log2 < 1920) : dStr (.int i) = some (.str (toString i)) := by simp only [dStr]; rw [if_pos h]
theorem q_strR {y : Str} : dStrR (.str y) = some (.str y) := rfl
theorem q_lenR {n : Int} (h : 0 ≤ n ∧ n < 2 ^ 63) : dLenR (.int n) = some (.int n) := by simp only [dLenR]; rw [if_pos h]
theorem q_addS {x y : Str} (h : x.length + y.length ≤ sizeLine) : dAdd (.str x) (.str y) = some (.str (x ++ y)) := by simp only [dAdd]; rw [if_pos h]
theorem q_addL {x y : List D} (h : x.length + y.length ≤ sizeLine) : dAdd (.lst x) (.lst y) = some (.lst (x ++ y)) := by simp only [dAdd]; rw [if_pos h]
theorem q_isC_ins {c c' : Nat} {fs : List (Str × D)} {r : Bool} (h : c' = c) : dIsC [(c, r)] (.ins c' fs) = some (.bl r) := by subst h; simp [dIsC, dIsi, isiCc, List.lookup]
theorem q_isC_non {tb : List (Nat × Bool)} : dIsC tb .non = some (.bl false) := by simp only [dIsC, dIsi, show isiCb "NoneType" = some false from by decide, Option.map_some]
theorem q_isC_bl {tb : List (Nat × Bool)} {b : Bool} : dIsC tb (.bl b) = some (.bl false) := by simp only [dIsC, dIsi, show isiCb "bool" = some false from by decide, Option.map_some]
theorem q_isC_int {tb : List (Nat × Bool)} {i : Int} : dIsC tb (.int i) = some (.bl false) := by simp only [dIsC, dIsi, show isiCb "int" = some false from by decide, Option.map_some]
theorem q_isC_str {tb : List (Nat × Bool)} {x : Str} : dIsC tb (.str x) = some (.bl false) := by simp only [dIsC, dIsi, show isiCb "str" = some false from by decide, Option.map_some]
theorem q_isC_lst {tb : List (Nat × Bool)} {xs : List D} : dIsC tb (.lst xs) = some (.bl false) := by simp only [dIsC, dIsi, show isiCb "list" = some false from by decide, Option.map_some]
theorem q_isC_tup {tb : List (Nat × Bool)} {xs : List D} : dIsC tb (.tup xs) = some (.bl false) := by simp only [dIsC, dIsi, show isiCb "tuple" = some false from by decide, Option.map_some]
theorem wp_n1 {γ : Gm} {E : Ex → Gm → Prop} {k : D → Option (List D)} {fa : F D} {Q : MO → Gm → Prop} (h : Wp (fa γ) (fun x g => ∃ xs, k x = some xs ∧ Q (.lst xs) g) E) : Wp (n1 k fa γ) Q E :=
  wp_f1 (h.imp fun x g ⟨xs, e, q⟩ => ⟨.lst xs, by rw [e]; rfl, q⟩)
theorem q_dlL {xs : List D} : dList (.lst xs) = some xs := rfl
theorem q_dlT {xs : List D} : dList (.tup xs) = some xs := rfl
theorem wp_szR {α : Type} {l : List α} {Q : Prop} (h : Nat.ble l.length 64 = true) (q : Q) : l.length ≤ sizeLine ∧ Q := ⟨len_sz (Nat.le_of_ble_eq_true h), q⟩
end FC
namespace FC
open PySem PySem.Spec PyProof.Rows L2
/-! ### limits: what they let by together -/
/-- a limit as the program takes it -/
def In20 (p : Int × Int) : Prop := 1 ≤ p.1 ∧ p.1 ≤ 20 ∧ 1 ≤ p.2 ∧ p.2 ≤ 20
instance (p : Int × Int) : Decidable (In20 p) := by unfold In20; exact inferInstance
structure Good (ps : List (Int × Int)) : Prop where
  ne : ps ≠ []
  nd : ps.Nodup
  few : ps.length ≤ 6
  ins : ∀ p ∈ ps, In20 p
abbrev lim (ps : List (Int × Int)) : D := .ins 0 [("kept", .tup (limsD ps))]
theorem limsD_append (ps qs : List (Int × Int)) : limsD (ps ++ qs) = limsD ps ++ limsD qs := List.map_append ..
theorem dBls_map : ∀ ns : List Bool, dBls (ns.map D.bl) = some ns
  | [] => rfl
  | n :: ns => by simp [dBls, dBls_map ns]
theorem dStrs_map : ∀ ns : List Str, dStrs (ns.map D.str) = some ns
  | [] => rfl
  | n :: ns => by simp [dStrs, dStrs_map ns]
def sumAt (tab : List Int) (s : Int) (p : Int × Int) : Int := p.2 + tab.getD (s - p.1).toNat 0
def tabS (ps : List (Int × Int)) : Nat → List Int
  | 0 => [0]
  | n + 1 => tabS ps n ++ [minI (ps.map (sumAt (tabS ps n) ((n : Int) + 1)))]
/-! ### the most within a length: what is known of it -/
def most (ps : List (Int × Int)) (n : Nat) : Int := (tabS ps n).getD n 0
theorem q_all (bs : List Bool) : dAll (.lst (bs.map D.bl)) = some (.bl (bs.all _root_.id)) := by simp only [dAll, dBls_map, Option.map_some]
theorem q_ixE {xs : List D} {i : Int} {k : Nat} {d : D} (h : i = k) (e : xs[k]? = some d) : dIx (.lst xs) (.int i) = some d := atI_nat h e
theorem q_ixTE {xs : List D} {i : Int} {k : Nat} {d : D} (h : i = k) (e : xs[k]? = some d) : dIx (.tup xs) (.int i) = some d := atI_nat h e
theorem q_rng1 {i : Int} {n : Nat} (h : i = n) (hn : n ≤ 10000000) : dRng1 [.int i] = some (rngL 0 1 n) := by
  subst h
  simp only [dRng1]
  rw [if_pos ⟨by omega, by omega⟩]
  rfl
theorem q_rng1m {i : Int} (hn : i ≤ 10000000 ∧ -10000000 ≤ i) : dRng1 [.int i] = some (rngL 0 1 i.toNat) := by
  simp only [dRng1]
  rw [if_pos ⟨by omega, by omega⟩]
theorem mem_rng0 {n : Nat} {d : D} (h : d ∈ rngL 0 1 n) : ∃ i : Nat, i < n ∧ d = .int i := by
  obtain ⟨i, hi, rfl⟩ := List.mem_map.mp h
  exact ⟨i, List.mem_range.mp hi, by simp⟩
theorem rngL_len (lo c : Int) (n : Nat) : (rngL lo c n).length = n := by simp [rngL]
theorem q_mod {i j : Int} (h : 0 < j) : dMod (.int i) (.int j) = some (.int (i % j)) := by simp only [dMod]; rw [if_pos h]
theorem q_mulL {i j : Int} (h : -18446744073709551616 < i ∧ i < 18446744073709551616) : dMul (.int i) (.int j) = some (.int (i * j)) := by simp only [dMul]; rw [if_pos (.inl (by simpa using h))]
theorem q_notInP (p : Int × Int) (ps : List (Int × Int)) : dNotIn (limD p) (.lst (limsD ps)) = some (.bl (!decide (p ∈ ps))) := dNotIn_pr p ps
end FC
namespace FC
open PySem PySem.Spec PyProof.Rows L2
/-! ### texts of limits -/
/-- signs as repr wants them -/
def okS (x : Str) : Prop := ∀ c ∈ x.cps.toList, c < 16 ^ 8
theorem okS_of (s : String) : okS (Str.ofString s) := fun c hc => by
  rw [Str.ofString_eq_toList] at hc
  simp only [List.mem_map] at hc
  obtain ⟨ch, _, rfl⟩ := hc
  have h := ch.valid
  have e : ch.toNat = ch.val.toNat := rfl
  simp only [UInt32.isValidChar, Nat.isValidChar] at h
  rw [e]
  omega
theorem okS_app {x y : Str} (hx : okS x) (hy : okS y) : okS (x ++ y) := fun c hc => by
  have e : (x ++ y).cps.toList = x.cps.toList ++ y.cps.toList := Array.toList_append ..
  rw [e] at hc
  exact (List.mem_append.mp hc).elim (hx c) (hy c)
theorem empty_app (x : Str) : Str.empty ++ x = x := by
  show (⟨#[] ++ x.cps⟩ : Str) = x
  simp
theorem fold_ok (sep : Str) (hs : okS sep) : ∀ (ys : List Str) (acc : Array Nat), (∀ c ∈ acc.toList, c < 16 ^ 8) → (∀ y ∈ ys, okS y) → ∀ c ∈ (ys.foldl (fun acc p => acc ++ sep.cps ++ p.cps) acc).toList, c < 16 ^ 8
  | [], acc, h, _ => h
  | y :: ys, acc, h, hy => by
    rw [List.foldl_cons]
    refine fold_ok sep hs ys _ (fun c hc => ?_) fun z hz => hy z (List.mem_cons_of_mem _ hz)
    rw [Array.toList_append, Array.toList_append] at hc
    rcases List.mem_append.mp hc with hc | hc
    · exact (List.mem_append.mp hc).elim (h c) (hs c)
    · exact hy y List.mem_cons_self c hc
theorem okS_glued (sep : Str) (hs : okS sep) (ys : List Str) (h : ∀ y ∈ ys, okS y) : okS (Builtin.Str.glued sep ys) := by
  refine fold_ok sep hs _ _ (fun c hc => ?_) fun y hy => h y (List.mem_of_mem_drop hy)
  cases ys with
  | nil => cases hc
  | cons y ys => exact h y List.mem_cons_self c hc
theorem fold_len (sep : Str) : ∀ (ys : List Str) (acc : Array Nat), (ys.foldl (fun acc p => acc ++ sep.cps ++ p.cps) acc).size = acc.size + ((ys.map (·.length)).sum + ys.length * sep.length)
  | [], acc => by simp
  | y :: ys, acc => by
    rw [List.foldl_cons, fold_len sep ys, Array.size_append, Array.size_append, List.map_cons, List.sum_cons, List.length_cons, Nat.succ_mul]
    show _ + sep.length + y.length + _ = _
    omega
theorem glued_le (sep : Str) (ys : List Str) : (Builtin.Str.glued sep ys).length ≤ (ys.map (·.length)).sum + ys.length * sep.length := by
  have e : (Builtin.Str.glued sep ys).length = (ys.headD Str.empty).cps.size + (((ys.drop 1).map (·.length)).sum + (ys.drop 1).length * sep.length) := fold_len sep _ _
  rw [e]
  cases ys with
  | nil => simp [Str.empty]
  | cons y ys =>
    show y.length + (((List.drop 1 (y :: ys)).map (·.length)).sum + (List.drop 1 (y :: ys)).length * sep.length) ≤ _
    rw [List.drop_succ_cons, List.drop_zero, List.map_cons, List.sum_cons, List.length_cons, Nat.succ_mul]
    omega
def lineS (p : Int × Int) : Str := (((("at most " : String) : Str) ++ ((toString p.2 : String) : Str)) ++ ((" in " : String) : Str)) ++ ((toString p.1 : String) : Str) ++ (("\n" : String) : Str)
def limText (ps : List (Int × Int)) : Str := Txt.join (("" : String) : Str) (ps.map lineS)
def nameS (n : Nat) : Str := ((("Limits(" : String) : Str) ++ ((toString (n : Int) : String) : Str)) ++ ((" limits)" : String) : Str)
theorem log_small {i : Int} (h : -1000000000000 < i ∧ i < 1000000000000) : i.natAbs.log2 < 1920 := by
  have : i.natAbs.log2 < 100 := log2_lt (by
    have : (2 : Nat) ^ 99 = 633825300114114700748351602688 := by decide
    omega)
  omega
theorem numS_len {i : Int} (h : -1000000000000 < i ∧ i < 1000000000000) : ((toString i : String) : Str).length ≤ 13 := by
  rw [PySem.ofString_length]
  exact int_text_length_le10 (k := 12) (by decide) (by omega)
theorem lineS_len {p : Int × Int} (h1 : -1000000000000 < p.1 ∧ p.1 < 1000000000000) (h2 : -1000000000000 < p.2 ∧ p.2 < 1000000000000) : (lineS p).length ≤ 40 := by
  have a := numS_len h1
  have b := numS_len h2
  unfold lineS
  simp only [strLen_add]
  have e1 : (("at most " : String) : Str).length = 8 := by decide
  have e2 : ((" in " : String) : Str).length = 4 := by decide
  have e3 : (("\n" : String) : Str).length = 1 := by decide
  omega
theorem lineS_ok (p : Int × Int) : okS (lineS p) := okS_app (okS_app (okS_app (okS_app (okS_of _) (okS_of _)) (okS_of _)) (okS_of _)) (okS_of _)
theorem limText_ok (ps : List (Int × Int)) : okS (limText ps) := okS_glued _ (okS_of _) _ fun y hy => by
  obtain ⟨p, _, rfl⟩ := List.mem_map.mp hy
  exact lineS_ok p
theorem lines_sum {ps : List (Int × Int)} (h : ∀ p ∈ ps, In20 p) : ((ps.map lineS).map (·.length)).sum ≤ 40 * ps.length := by
  induction ps with
  | nil => simp
  | cons p ps ih =>
    obtain ⟨a, b, c, d⟩ := h p List.mem_cons_self
    have := ih fun q hq => h q (List.mem_cons_of_mem _ hq)
    have := lineS_len (p := p) (by omega) (by omega)
    simp only [List.map_cons, List.sum_cons, List.length_cons]
    omega
theorem q_joinL {sep : Str} {ys : List Str} (h : (ys.map (·.length)).sum + ys.length * sep.length ≤ 16777216) : dJoin sep (.lst (ys.map D.str)) = some (.str (Txt.join sep ys)) := by
  simp only [dJoin, dItems, Option.bind_some, dStrs_map]
  rw [if_pos h]
theorem limText_len {ps : List (Int × Int)} (h : ∀ p ∈ ps, In20 p) : (limText ps).length ≤ 40 * ps.length := by
  have a := glued_le (("" : String) : Str) (ps.map lineS)
  have b := lines_sum h
  have e : (("" : String) : Str).length = 0 := by decide
  rw [e] at a
  unfold limText Txt.join
  omega
theorem nameS_len {n : Nat} (h : n < 1000000000) : (nameS n).length ≤ 40 := by
  have a := numS_len (i := n) (by omega)
  unfold nameS
  simp only [strLen_add]
  have e1 : (("Limits(" : String) : Str).length = 7 := by decide
  have e2 : ((" limits)" : String) : Str).length = 8 := by decide
  omega
theorem nameS_ok (n : Nat) : okS (nameS n) := okS_app (okS_app (okS_of _) (okS_of _)) (okS_of _)
theorem limY_fine {ps : List (Int × Int)} (h : ∀ p ∈ ps, In20 p) : tfineL (ps.map limY) ∧ PyData.depthAll (ps.map limY) ≤ 1 ∧ tcostL (ps.map limY) ≤ 300 * ps.length := by
  induction ps with
  | nil => exact ⟨trivial, Nat.zero_le _, Nat.le_refl _⟩
  | cons p ps ih =>
    obtain ⟨a, b, c⟩ := ih fun q hq => h q (List.mem_cons_of_mem _ hq)
    obtain ⟨q1, q2, q3, q4⟩ := h p List.mem_cons_self
    refine ⟨⟨⟨tfine_int (by omega), tfine_int (by omega), trivial⟩, a⟩, ?_, ?_⟩
    · simp only [List.map_cons, PyData.depthAll, limY, PyData.depth]
      omega
    · simp only [List.map_cons, tcostL, limY, tcost, List.length_cons]
      omega
/-- what limits tell of themselves -/
def seenD (ps : List (Int × Int)) : D := .lst [.tup (limsD ps), .int ps.length, .lst (limsD ps), .str (nameS ps.length), .str (limText ps)]
def seenY (ps : List (Int × Int)) : PyData := .list [.tuple (ps.map limY), .int ps.length, .list (ps.map limY), .str (nameS ps.length), .str (limText ps)]
theorem seen_data (ps : List (Int × Int)) : (seenD ps).data = some (seenY ps) := by simp only [seenD, seenY, D.data, D.dataL, limsD_data, Option.map_some]
theorem seen_fine {ps : List (Int × Int)} (h : ∀ p ∈ ps, In20 p) (hl : ps.length ≤ 100) : tfine (seenY ps) ∧ (seenY ps).depth ≤ 3 ∧ tcost (seenY ps) ≤ 200000 := by
  obtain ⟨a, b, c⟩ := limY_fine h
  have l1 := limText_len h
  have l2 := nameS_len (n := ps.length) (by omega)
  refine ⟨⟨a, tfine_int (by omega), a, nameS_ok _, limText_ok _, trivial⟩, ?_, ?_⟩
  · simp only [seenY, PyData.depth, PyData.depthAll]
    omega
  · simp only [seenY, tcost, tcostL]
    omega
end FC
namespace FC
open PySem PySem.Spec PyProof.Rows L2
open AutoSeq1 (wpAny_loadPart')
/-! ### tuple * n for any small n -/
theorem tuple_mulS (l : Addr) (items : Array Value) (n : Nat) (dd : Option Addr) (sl : Array (Option Value)) (x : Int) (u : Tok) (c0 : (decide (x < -(2 ^ 63)) || decide (x ≥ 2 ^ 63)) = false) (c1 : (items.isEmpty || x == 1) = true) :
    Meets (Builtin.«tuple.__mul__» ⟨[.ref l, .int x u], []⟩) (fun _ R s => s.heap.get? l = some { cls := .type "tuple", dict := dd, data := .seq items n, slots := sl } ∧ R (.ok (.ret (Value.ref l))) s) :=
  .of_wp fun prog w A R s h => by
    obtain ⟨hp, g, d, tk, os⟩ := s
    obtain ⟨hl, h⟩ := h
    have f1 := AutoSeq1.idx_int
    wp_walk using wpAny_loadPart' hl
    repeat (first
      | (refine wpAny_ite_false (decide_eq_false (by rw [c0]; exact Bool.false_ne_true)) ?_; wp_walk using wpAny_loadPart' hl)
      | (refine wpAny_ite_true (decide_eq_true (by rw [c1])) ?_; wp_walk using wpAny_loadPart' hl))
    exact ⟨_, rfl, h⟩
theorem tuple_mulE (l : Addr) (items : Array Value) (n : Nat) (dd : Option Addr) (sl : Array (Option Value)) (x : Int) (u : Tok) (c0 : (decide (x < -(2 ^ 63)) || decide (x ≥ 2 ^ 63)) = false) (c1 : (items.isEmpty || x == 1) = false) (c2 : (decide (x ≤ 0) || items.isEmpty) = true) :
    Meets (Builtin.«tuple.__mul__» ⟨[.ref l, .int x u], []⟩) (fun _ R s => s.heap.get? l = some { cls := .type "tuple", dict := dd, data := .seq items n, slots := sl } ∧
      R (.ok (.ret (Value.ref s.heap.objs.size))) { s with heap := s.heap.push { cls := Value.type "tuple", data := Data.seq #[] }, toks := s.toks }) :=
  .of_wp fun prog w A R s h => by
    obtain ⟨hp, g, d, tk, os⟩ := s
    obtain ⟨hl, h⟩ := h
    have f1 := AutoSeq1.idx_int
    wp_walk using wpAny_loadPart' hl
    repeat (first
      | (refine wpAny_ite_false (decide_eq_false (by rw [c0]; exact Bool.false_ne_true)) ?_; wp_walk using wpAny_loadPart' hl)
      | (refine wpAny_ite_false (decide_eq_false (by rw [c1]; exact Bool.false_ne_true)) ?_; wp_walk using wpAny_loadPart' hl)
      | (refine wpAny_ite_true (decide_eq_true (by rw [c2])) ?_; wp_walk using wpAny_loadPart' hl))
    exact ⟨_, rfl, h⟩
/-- the same tuple; the empty one -/
def rRepS (K : PySem.W.Frag) : R2 := fun x y H Q => ∃ l k xs, x = .ref l ∧ y = .int k ∧ SqT K H l xs ∧ (xs = [] ∨ k = 1) ∧ -1000000 ≤ k ∧ k ≤ 1000000 ∧ Q (.ref l) H
def rRepE (K : PySem.W.Frag) : R2 := fun x y H Q => ∃ l k xs, x = .ref l ∧ y = .int k ∧ SqT K H l xs ∧ xs ≠ [] ∧ -1000000 ≤ k ∧ k ≤ 0 ∧ ∀ p, H p = none → Q (.ref p) (upd H p (.tup []))
section
variable {X : Cx}
theorem op_repS : OpR X (binaryOp .Mult) (rRepS X.K) := by
  intro pins s σ H x y v u Q I rx ry h
  obtain ⟨l, k, xs, rfl, rfl, hT, hne, h1, h2, q⟩ := h
  cases rx
  obtain ⟨t, rfl⟩ := ry
  obtain ⟨its, r, ⟨⟨cls, dd, data, sl⟩, ho, hc, n, hd⟩, hs⟩ := I.tuple hT
  simp only at hc hd
  subst hc hd
  have hle : its.length = xs.length := r.length.symm
  have c0 : (decide (k < -(2 ^ 63)) || decide (k ≥ 2 ^ 63)) = false := by
    rw [decide_eq_false (by omega), decide_eq_false (by omega)] <;> rfl
  have c1 : (its.toArray.isEmpty || k == 1) = true := by
    rcases hne with rfl | rfl
    · have : its = [] := List.eq_nil_of_length_eq_zero hle
      subst this
      rfl
    · simp
  refine wpAny_binaryOp_repeat_ref (T := "tuple") (U := "int") (by decide) ⟨_, ho, rfl⟩ (fun s' => typeIs_int s' k t) noFill_tuple_mul F.fills_int_mul F.slot_int_rmul repeat_tuple F.slot_int_index.lookup
    (call_meets F.slot_int_rmul (typeIs_int s k t) F.entry_int_rmul (F.args_int_rmul_2 _ _) (int_rmul_tuple k t l its.toArray n dd sl)
      ⟨ho, rfl, ⟨_, ho, rfl⟩, call_meets F.slot_tuple_mul ⟨_, ho, rfl⟩ F.entry_tuple_mul (F.args_tuple_mul_2 _ _) (tuple_mulS l its.toArray n dd sl k t c0 c1) ⟨ho, ?_⟩⟩)
  exact ⟨.ref l, H, I, rfl, q⟩
theorem op_repE : OpR X (binaryOp .Mult) (rRepE X.K) := by
  intro pins s σ H x y v u Q I rx ry h
  obtain ⟨l, k, xs, rfl, rfl, hT, hne, h1, h2, q⟩ := h
  cases rx
  obtain ⟨t, rfl⟩ := ry
  obtain ⟨its, r, ⟨⟨cls, dd, data, sl⟩, ho, hc, n, hd⟩, hs⟩ := I.tuple hT
  simp only at hc hd
  subst hc hd
  have hle : its.length = xs.length := r.length.symm
  have hn : its ≠ [] := fun e => hne (by
    rw [e] at hle
    exact List.eq_nil_of_length_eq_zero hle.symm)
  have hi : its.toArray.isEmpty = false := by
    cases its with
    | nil => exact absurd rfl hn
    | cons a b => rfl
  have c0 : (decide (k < -(2 ^ 63)) || decide (k ≥ 2 ^ 63)) = false := by
    rw [decide_eq_false (by omega), decide_eq_false (by omega)] <;> rfl
  have c1 : (its.toArray.isEmpty || k == 1) = false := by
    rw [hi, Bool.false_or]
    exact beq_eq_false_iff_ne.mpr (by omega)
  have c2 : (decide (k ≤ 0) || its.toArray.isEmpty) = true := by
    rw [decide_eq_true h2] <;> rfl
  refine wpAny_binaryOp_repeat_ref (T := "tuple") (U := "int") (by decide) ⟨_, ho, rfl⟩ (fun s' => typeIs_int s' k t) noFill_tuple_mul F.fills_int_mul F.slot_int_rmul repeat_tuple F.slot_int_index.lookup
    (call_meets F.slot_int_rmul (typeIs_int s k t) F.entry_int_rmul (F.args_int_rmul_2 _ _) (int_rmul_tuple k t l its.toArray n dd sl)
      ⟨ho, rfl, ⟨_, ho, rfl⟩, call_meets F.slot_tuple_mul ⟨_, ho, rfl⟩ F.entry_tuple_mul (F.args_tuple_mul_2 _ _) (tuple_mulE l its.toArray n dd sl k t c0 c1 c2) ⟨ho, ?_⟩⟩)
  refine ⟨.ref s.heap.objs.size, _, I.laid (t' := s.toks) (o := .tup []) (fun b ob q => Heap.get?_push_of_some _ q) (Nat.le_refl _) ?_, rfl, q _ (I.hok.fresh (Nat.le_refl _))⟩
  exact ⟨Nat.zero_le _, [], .nil, IsTup.new _ _⟩
end
/-- tuple * n as data -/
def dMulT : D → D → Option D
  | .tup xs, .int k => if -1000000 ≤ k ∧ k ≤ 1000 ∧ xs.length ≤ 1000 then some (.tup (List.replicate k.toNat xs).flatten) else none
  | x, y => dMul x y
section
variable {C : Ct} {W : WX} {X : Cx} {m1 p1 m2 p2 : Bool} {a b : Expr} {fa fb : F D} {pos : Pos}
theorem flat_rep_nil {α : Type} : ∀ n : Nat, (List.replicate n ([] : List α)).flatten = []
  | 0 => rfl
  | n + 1 => by rw [List.replicate_succ, List.flatten_cons, flat_rep_nil n]; rfl
theorem op2_mulT : Op2 C (fun x y H Q => rMulA X.K x y H Q ∨ (rRepS X.K x y H Q ∨ rRepE X.K x y H Q)) dMulT := fun M H x y dx dy d Q hd sx sy e k => by
  cases dx with
  | tup xs =>
    cases dy with
    | int j =>
      simp only [dMulT] at e
      split at e
      case isFalse => cases e
      rename_i h
      obtain ⟨h1, h2, h3⟩ := h
      cases e
      by_cases hx : xs = []
      · subst hx
        obtain ⟨l, vs, rfl, ha, na, ra⟩ := sx.tupH
        rw [sy.intH]
        have ev : vs = [] := ra.nilD.mpr rfl
        refine .inr (.inl ⟨l, j, vs, rfl, rfl, .inl (.inl ha), .inl ev, h1, by omega, k _ H (Keep.refl _ _) ?_⟩)
        rw [flat_rep_nil]
        exact .tup ha na ra
      · by_cases h2' : 2 ≤ j
        · exact .inl (op2_mul M H x y _ _ _ Q hd sx sy (by simp only [dMul]; rw [if_pos ⟨hx, h2', h2, h3⟩]) k)
        · obtain ⟨l, vs, rfl, ha, na, ra⟩ := sx.tupH
          rw [sy.intH]
          by_cases hj : j = 1
          · subst hj
            refine .inr (.inl ⟨l, 1, vs, rfl, rfl, .inl (.inl ha), .inr rfl, h1, by omega, k _ H (Keep.refl _ _) ?_⟩)
            have e1 : (List.replicate (1 : Int).toNat xs).flatten = xs := by simp
            rw [e1]
            exact .tup ha na ra
          · refine .inr (.inr ⟨l, j, vs, rfl, rfl, .inl (.inl ha), fun z => hx (ra.nilD.mp z), h1, by omega, fun p hp => ?_⟩)
            have e0 : j.toNat = 0 := by omega
            rw [e0] at k
            exact k _ _ (Keep.new hp) (rep_newT hd hp .nil)
    | _ => exact .inl (op2_mul M H x y _ _ _ Q hd sx sy e k)
  | int i => exact .inl (op2_mul M H x y _ _ _ Q hd sx sy (by cases dy <;> exact e) k)
  | lst xs => exact .inl (op2_mul M H x y _ _ _ Q hd sx sy (by cases dy <;> exact e) k)
  | _ => exact .inl (op2_mul M H x y _ _ _ Q hd sx sy (by cases dy <;> exact e) k)
theorem fx_mulT (ha : FX C W m1 p1 X a fa) (hb : FX C W m2 p2 X b fb) (hm : (m1 || p2) = true := by rfl) : FX C W true (p1 && p2) X (.BinOp a .Mult b pos) (f2 dMulT fa fb) := Op2.bin ((op_mul.or (op_rep.or op_repT)).or (op_repS.or op_repE)) op2_mulT ha hb hm
end
theorem q_mulTL {i j : Int} (h : -18446744073709551616 < i ∧ i < 18446744073709551616) : dMulT (.int i) (.int j) = some (.int (i * j)) := q_mulL h
end FC
namespace FC
open PySem PySem.Spec PyProof.Rows L2
/-! ### requests that wait: the sums -/
/-- what has come in the first ticks -/
def rowA (r : List Int) (n : Nat) : Int := (r.take n).sum
/-- what is through in the first ticks -/
def passF (ps : List (Int × Int)) (r : List Int) (n : Nat) : Int := minI ((List.range (n + 1)).map fun s => rowA r s + most ps (n - s))
end FC
namespace FC
open PySem PySem.Spec PyProof.Rows L2
/-! ### a def called with nothing -/
section
variable {C : Ct} {W : WX} {X : Cx} {x : Str} {pn pos : Pos}
theorem pe_callRS0 {k : Nat} {f : Addr} {N : List Str} {b : F Fl} (Fn : FnP X C k f N 0 b) (hr : RoomG k X.A) (hg : Gl X x) (hm : X.mg x = some (.ref f)) (hk : PySem.W.keepIn X.K (.ref f) = true) (tk : Takes X W) (hdb : (x == ("__debug__" : Str)) = false := by decide) :
    PE X (.Call (.Name x pn) [] [] pos) (fun σ H Q => spF C N 0 b [] H Q (WE W σ)) := by
  refine ⟨fun pins s σ H Q I h => wpAny_Call_Name_kw (ld_glob I hg hm ?_ hdb)⟩
  exact PySem.W.callWith_K0 (first := []) I.kIn hk (wpAny_call (run_fnRS (us := []) (vs := []) (E := WE W) Fn hr (passAt tk σ) I .nil h))
theorem tFA_nil0 {p : Bool} {σ : L2.St} {H : Hp} {Q : List V → Hp → Prop} (h : tFA C W p aNil σ H Q) : Q [] H := tFA.nil h
theorem fx_def0 {k : Nat} {f : Addr} {N : List Str} {b : F Fl} (Fn : FnP X C k f N 0 b) (hr : RoomG k X.A) (hg : Gl X x) (hm : X.mg x = some (.ref f)) (hk : PySem.W.keepIn X.K (.ref f) = true) (tk : Takes X W) (hdb : (x == ("__debug__" : Str)) = false := by decide) :
    FX C W true false X (.Call (.Name x pn) [] [] pos) (fCall N.length b aNil) := by
  refine PE.imp (pe_callRS0 Fn hr hg hm hk tk hdb) fun σ H Q ⟨pens, M, γ, E, h⟩ => ?_
  unfold fCall at h
  rw [bind_ok (show aNil γ = .ok [] γ from rfl)] at h
  have key : tFA C W true aNil σ H (fun vs H1 => spF C N 0 b vs H1 Q (WE W σ)) := by
    refine ⟨pens, M, γ, E, ?_⟩
    intro vs H1 M1 E1 k1 pt P1 up1 dn1 A
    refine call_sp rfl (Nat.zero_le _) E E1 k1 pt up1 dn1 A ?_
    cases ec : callR N.length b [] γ with
    | st => rw [bind_st ec] at h; exact h
    | ex x γ' => rw [bind_ex ec] at h; exact h
    | ok r γ2 =>
      rw [bind_ok ec] at h
      intro v H' M' af rr
      obtain ⟨S, r2⟩ := af.rep E rr
      exact h v H' S (fun z => by cases z) r2
  exact tFA_nil0 key
end
end FC
namespace FC
open PySem PySem.Spec PyProof.Rows L2
/-! ### defs that answer nothing -/
structure Rn (N : Nat) (b : F Fl) (ds : List D) : Prop where
  run : ∃ g, b (padG N (ds.map .val)) = .ok .nx g
theorem Rn.of {N : Nat} {b : F Fl} {ds : List D} (h : Wp (b (padG N (ds.map .val))) (fun f _ => f = .nx) E0) : Rn N b ds := by
  obtain ⟨f, g, e, rfl⟩ := h.out
  exact ⟨⟨g, e⟩⟩
/-! ### slices by one end -/
theorem q_slLl {xs : List D} {i : Int} {k : Nat} (h : i = k) : ((dInt (.int i)).bind fun i => dSl (.lst xs) (some i) none) = some (.lst (xs.drop k)) := by
  subst h
  simp only [dInt, Option.bind_some, dSl, cutD, HT.sIx_nat, HT.sIx_none]
  congr 2
  by_cases c : k ≤ xs.length
  · rw [Nat.min_eq_left c, List.take_of_length_le (by rw [List.length_drop]; omega)]
  · rw [Nat.min_eq_right (by omega), List.drop_of_length_le (Nat.le_refl _), List.drop_of_length_le (by omega), List.take_nil]
/-! ### when all is through -/
section
variable {ps : List (Int × Int)} {r : List Int}
def stopS (ps : List (Int × Int)) (r : List Int) (n : Nat) : Prop := r.length ≤ n ∧ passF ps r n = r.sum
instance (n : Nat) : Decidable (stopS ps r n) := by unfold stopS; exact inferInstance
def endF (ps : List (Int × Int)) (r : List Int) : Nat → Nat → Nat
  | 0, n => n
  | f + 1, n => if stopS ps r n then n else endF ps r f (n + 1)
end
end FC
namespace FC
open PySem PySem.Spec PyProof.Rows L2
/-- a comprehension whose elements change the frame: by what stands before each turn -/
theorem wp_lcI {γ : Gm} {E : Ex → Gm → Prop} {fi : F (List D)} {gt : GD} {e : F D} {vs : List Nat} {Q : MO → Gm → Prop} (I : Nat → List D → Gm → Prop)
    (h : Wp (fi γ) (fun xs g => xs.length ≤ sizeLine ∧ okW g vs = true ∧ I 0 [] (wipeG g vs) ∧ (∀ k acc d g1, xs[k]? = some d → I k acc g1 → ∃ g2, gt d g1 = some g2 ∧ Wp (e g2) (fun y g3 => I (k + 1) (acc ++ [y]) (wipeG g3 vs)) E0) ∧ (∀ acc g2, I xs.length acc g2 → Q (.lst acc) (unw g g2 vs))) E) : Wp (nLc fi gt tTrue e vs γ) Q E := by
  unfold nLc
  refine wp_bind (h.imp fun xs g h => ?_)
  obtain ⟨h1, h2, h0, hs, hq⟩ := h
  rw [if_pos ⟨h1, h2⟩]
  have lc : ∀ (n k : Nat) (acc : List D) (g1 : Gm), k + n = xs.length → I k acc g1 → ∃ acc2 g2, lcL gt tTrue e vs (xs.drop k) acc g1 = .ok acc2 g2 ∧ I xs.length acc2 g2 := by
    intro n
    induction n with
    | zero =>
      intro k acc g1 hk i
      have : k = xs.length := by omega
      subst this
      exact ⟨acc, g1, by rw [List.drop_of_length_le (Nat.le_refl _)]; rfl, i⟩
    | succ n ih =>
      intro k acc g1 hk i
      have hlt : k < xs.length := by omega
      obtain ⟨g2, e1, w⟩ := hs k acc xs[k] g1 (List.getElem?_eq_getElem hlt) i
      obtain ⟨y, g3, e2, i2⟩ := w.out
      obtain ⟨acc2, g4, e3, i3⟩ := ih (k + 1) (acc ++ [y]) (wipeG g3 vs) (by omega) i2
      refine ⟨acc2, g4, ?_, i3⟩
      rw [List.drop_eq_getElem_cons hlt]
      unfold lcL
      simp only [e1, show tTrue g2 = .ok true g2 from rfl, e2]
      exact e3
  obtain ⟨acc2, g2, e1, i1⟩ := lc xs.length 0 [] (wipeG g vs) (by omega) h0
  rw [List.drop_zero] at e1
  rw [e1]
  exact ⟨hq acc2 g2 i1⟩
end FC
namespace FC
open PySem PySem.Spec PyProof.Rows L2
/-! ### comprehensions of two clauses -/
theorem Pat.wipe {γ γ' : Gm} (h : Pat γ γ') (vs : List Nat) : Pat (wipeG γ vs) (wipeG γ' vs) := by
  unfold Pat
  apply List.ext_getElem?
  intro j
  rw [List.getElem?_map, List.getElem?_map]
  by_cases hj : j ∈ vs
  · have l1 := h.length
    by_cases hl : j < γ.length
    · rw [wipeG_in hl hj, wipeG_in (by rw [← l1]; exact hl) hj]
    · rw [List.getElem?_eq_none (by rw [wipeG_length]; omega), List.getElem?_eq_none (by rw [wipeG_length]; omega)]
  · rw [wipeG_out hj, wipeG_out hj, h.at j]
end FC
namespace FC
open PySem PySem.Spec PyProof.Rows L2
/-! ### enumerate of a list or of a tuple -/
end FC
namespace FC
open PySem PySem.Spec PyProof.Rows L2
/-! ### match: a list of texts against [name, text, name], then anything -/
def tMt (K : PySem.W.Frag) (i j : Nat) (lit : Str) (te : TE) (t1 t2 : TS) : TS := fun D σ H => te σ H fun v H1 => ∃ (a : Addr) (ys : List Str), v = .ref a ∧ SqL K H1 a (ys.map V.str) ∧
  ((∃ u w, ys = [u, lit, w] ∧ t1 D ((σ.set i (some (.str u))).set j (some (.str w))) H1) ∨ ((∀ u w, ys ≠ [u, lit, w]) ∧ t2 D σ H1))
theorem one_of_three {α : Type} {l : List α} (h : l.length = 3) : ∃ a b c, l = [a, b, c] := by
  match l, h with
  | [a, b, c], _ => exact ⟨a, b, c, rfl⟩
theorem vals_three {a b c : V} {u v w : Value} (h : Vals [a, b, c] [u, v, w]) : RelV a u ∧ RelV b v ∧ RelV c w := by
  cases h with
  | cons r0 h =>
    cases h with
    | cons r1 h =>
      cases h with
      | cons r2 h => exact ⟨r0, r1, r2⟩
section
variable {X : Cx} {i j : Nat} {x y lit : Str} {subj : Expr} {b1 b2 : List Stmt} {te : TE} {t1 t2 : TS} {p1 p2 p2' p3 p4 p5 pos : Pos} {kk : Nat}
theorem ps_mt (hc : X.calm = true) (he : PE X subj te) (h1 : PSs X b1 t1) (h2 : PSs X b2 t2) (hN : X.N.Nodup) (hi : X.N[i]? = some x) (hx : Loc X.env.scope x) (hj : X.N[j]? = some y) (hy : Loc X.env.scope y)
    (hf : X.fn x = true ∨ X.env.scope.names.lookup x = some .local := by first | exact .inl rfl | exact .inr rfl | assumption) (hg : X.fn y = true ∨ X.env.scope.names.lookup y = some .local := by first | exact .inl rfl | exact .inr rfl | assumption) :
    PS X (.Match subj [⟨.MatchSequence [.MatchAs none (some x) p1, .MatchValue (.Constant (.str lit) kk p2) p2', .MatchAs none (some y) p3] p4, none, b1⟩, ⟨.MatchAs none none p5, none, b2⟩] pos) (tMt X.K i j lit te t1 t2) := by
  refine ⟨fun pins s σ H D I h => ?_⟩
  refine wpAny_Match (thn (he.run pins s σ H _ I h) fun u s1 ⟨v, H1, I1, r1, a, ys, ev, hq, k⟩ => ?_)
  subst ev
  cases r1
  obtain ⟨its, rv, pl, hz⟩ := I1.list hq
  have hl : its.length = ys.length := by rw [← rv.length, List.length_map]
  have hz' : (its.toArray.size : Int) < 2 ^ 63 := by
    have h1 := rv.length
    rw [sizeLine_eq] at hz
    have h2 : its.toArray.size = its.length := List.size_toArray
    have h3 : ((its.toArray.size : Nat) : Int) < 9223372036854775808 := by omega
    exact h3
  -- the second case
  have other : ∀ s2, Inv X pins σ H1 s2 → (∀ u w, ys ≠ [u, lit, w]) → wpAny (model X.prog X.w) X.A (matchCases [⟨.MatchAs none none p5, none, b2⟩] X.env (.ref a) false) (SP X pins D) X.xe s2 := fun s2 I2 hn => by
    rcases k with ⟨u, w, e, _⟩ | ⟨_, k⟩
    · exact absurd e (hn u w)
    · refine wpAny_matchCases_cons (wpAny_matchPattern_Capture ?_)
      exact wpAny_assignInOrder_none (h2.run pins s2 σ H1 D I2 k)
  refine wpAny_matchCases_cons ?_
  by_cases h3 : ys.length = 3
  · obtain ⟨y0, y1, y2, rfl⟩ := one_of_three h3
    refine matchSeq_list_hit pl.isList hz' (by simp; omega) ?_
    rw [show [Pattern.MatchAs none (some x) p1, Pattern.MatchValue (Expr.Constant (Const.str lit) kk p2) p2', Pattern.MatchAs none (some y) p3].length = its.toArray.size by simp; omega]
    refine PySem.W.kun_itemsOf (I1.ok.hd hc) pl.isList fun h' ex => ?_
    have I2 : Inv X pins σ H1 { s1 with heap := h', toks := s1.toks + 1 + 1 } := I1.kept fun b o e => ex b o (Nat.ne_of_lt (Heap.lt_size e)) e
    obtain ⟨v0, v1, v2, rfl⟩ := one_of_three (l := its) (by omega)
    obtain ⟨r0, r1, r2⟩ := vals_three rv
    obtain ⟨tt1, rfl⟩ := _root_.id r1
    refine wpAny_matchEach_cons (wpAny_matchPattern_Capture ?_)
    refine wpAny_matchEach_cons (wpAny_matchPattern_Value ?_)
    refine thn (pe_str.run pins _ σ H1 (fun v H' => v = .str lit ∧ H' = H1) I2 ⟨rfl, rfl⟩) fun cv s3 ⟨w, H3, I3, r3, ew, eH⟩ => ?_
    subst ew eH
    refine thn (op_eq pins s3 σ H3 (.str y1) (.str lit) _ _ (fun v H' => v = .bl (decide (V.str y1 = V.str lit)) ∧ H' = H3) I3 ⟨tt1, rfl⟩ r3 ⟨rfl, rfl, rfl⟩) fun bv s4 ⟨w, H4, I4, r4, ew, eH⟩ => ?_
    subst ew eH
    cases r4
    refine wpAny_truthy_bool ?_
    by_cases hy1 : y1 = lit
    · subst hy1
      rw [decide_eq_true rfl, if_pos rfl]
      refine wpAny_matchEach_cons (wpAny_matchPattern_Capture ?_)
      refine wpAny_matchEach_nil ?_
      rcases k with ⟨u, w, e, k⟩ | ⟨hn, _⟩
      · cases e
        show wpAny _ _ (assignInOrder [bindName X.env x, bindName X.env y] [v0, v2]) _ _ _
        refine wpAny_assignInOrder_more (wpAny_bindName (store_ok I4 hN hi hx r0 (fun s5 I5 => ?_) hf))
        refine wpAny_assignInOrder_more (wpAny_bindName (store_ok I5 hN hj hy r2 (fun s6 I6 => ?_) hg))
        exact wpAny_assignInOrder_none (h1.run pins s6 _ _ D I6 k)
      · exact absurd rfl (hn y0 y2)
    · rw [decide_eq_false (fun z => hy1 (V.str.inj z)), if_neg Bool.false_ne_true]
      exact other s4 I4 fun u w z => by cases z; exact hy1 rfl
  · refine matchSeq_list_miss pl.isList hz' (by simp; omega) ?_
    exact other _ (I1.tok _) fun u w z => h3 (by rw [z]; rfl)
end
/-- as a mirror -/
def mtF (i j : Nat) (lit : Str) (f1 f2 : F Fl) : List Str → F Fl
  | [u, v, w] => if v = lit then (fun γ => f1 ((γ.set i (.val (.str u))).set j (.val (.str w)))) else f2
  | _ => f2
theorem mtF_hit {i j : Nat} {lit : Str} {f1 f2 : F Fl} {u w : Str} : mtF i j lit f1 f2 [u, lit, w] = fun γ => f1 ((γ.set i (.val (.str u))).set j (.val (.str w))) := by simp only [mtF, if_true]
theorem mtF_miss {i j : Nat} {lit : Str} {f1 f2 : F Fl} : ∀ {ys : List Str}, (∀ u w, ys ≠ [u, lit, w]) → mtF i j lit f1 f2 ys = f2
  | [], _ => rfl
  | [_], _ => rfl
  | [_, _], _ => rfl
  | [u, v, w], h => by
    show (if v = lit then (fun γ => f1 ((γ.set i (.val (.str u))).set j (.val (.str w)))) else f2) = f2
    rw [if_neg fun z => h u w (by rw [z])]
  | _ :: _ :: _ :: _ :: _, _ => rfl
def sMt (i j : Nat) (lit : Str) (fs : F D) (f1 f2 : F Fl) : F Fl := F.bind fs fun d => match d with
  | .lst xs => (match dStrs xs with
    | some ys => mtF i j lit f1 f2 ys
    | none => fun _ => .st)
  | _ => fun _ => .st
section
variable {C : Ct} {W : WX} {X : Cx} {m p : Bool} {i j : Nat} {x y lit : Str} {subj : Expr} {b1 b2 : List Stmt} {fs : F D} {f1 f2 : F Fl} {p1 p2 p2' p3 p4 p5 pos : Pos} {kk : Nat}
theorem fs_mt (hc : X.calm = true) (he : FX C W m p X subj fs) (h1 : FSs C W X b1 f1) (h2 : FSs C W X b2 f2) (hN : X.N.Nodup) (hi : X.N[i]? = some x) (hx : Loc X.env.scope x) (hj : X.N[j]? = some y) (hy : Loc X.env.scope y)
    (hf : X.fn x = true ∨ X.env.scope.names.lookup x = some .local := by first | exact .inl rfl | exact .inr rfl | assumption) (hg : X.fn y = true ∨ X.env.scope.names.lookup y = some .local := by first | exact .inl rfl | exact .inr rfl | assumption) :
    FS C W X (.Match subj [⟨.MatchSequence [.MatchAs none (some x) p1, .MatchValue (.Constant (.str lit) kk p2) p2', .MatchAs none (some y) p3] p4, none, b1⟩, ⟨.MatchAs none none p5, none, b2⟩] pos) (sMt i j lit fs f1 f2) :=
  PS.imp (ps_mt hc he h1 h2 hN hi hx hj hy hf hg) fun D σ H ⟨pens, M, γ, E, h⟩ => by
    refine ⟨pens, M, γ, E, ?_⟩
    unfold sMt at h
    cases ea : fs γ with
    | st => rw [bind_st ea] at h; exact h
    | ex e g => rw [bind_ex ea] at h; exact fun cls d H' S re => h cls d M σ H' S.env S.s re
    | ok d g =>
      rw [bind_ok ea] at h
      intro v H1 S P r
      cases d with
      | lst xs =>
        simp only at h
        cases e2 : dStrs xs with
        | none => rw [e2] at h; exact h.elim
        | some ys =>
          rw [e2] at h
          have ex := dStrs_eq e2
          subst ex
          obtain ⟨a, us, rfl, ha, ra⟩ := (MRep.s r).lstH
          have eu := ra.strs
          subst eu
          refine ⟨a, ys, rfl, .inl (.inl ha), ?_⟩
          simp only at h
          by_cases hit : ∃ u w, ys = [u, lit, w]
          · obtain ⟨u, w, rfl⟩ := hit
            rw [mtF_hit] at h
            refine .inl ⟨u, w, rfl, pens, M, _, (S.env.set (i := i) (x := some (.str u)) (sv := .val (.str u)) ⟨_, rfl, .str _⟩ (fun _ _ z => by cases z)).set (i := j) (x := some (.str w)) (sv := .val (.str w)) ⟨_, rfl, .str _⟩ (fun _ _ z => by cases z), ?_⟩
            have SS : StpS M σ g H1 M ((σ.set i (some (.str u))).set j (some (.str w))) ((g.set i (.val (.str u))).set j (.val (.str w))) H1 :=
              ⟨Keep.refl _ _, fun a z => .inl (Own.set i _ _ (fun _ _ z => by cases z) (Own.set j _ _ (fun _ _ z => by cases z) z)), fun _ z _ => z, fun _ z => .inl z⟩
            exact aftS_go E (S.s.trans E SS) h
          · have no : ∀ u w, ys ≠ [u, lit, w] := fun u w e => hit ⟨u, w, e⟩
            rw [mtF_miss no] at h
            exact .inr ⟨no, pens, M, g, S.env, aftS_go E S.s h⟩
      | _ => exact h.elim
end
end FC
namespace FC
open PySem PySem.Spec PyProof.Rows L2
/-! ### int(text) -/
def dIntS : D → Option D
  | .str x => if x.length ≤ 640 then (PySem.intText? x).map D.int else none
  | _ => none
section
variable {C : Ct} {W : WX} {X : Cx} {m p : Bool} {a : Expr} {fa : F D} {pn pos : Pos}
theorem fx_intS (ha : FX C W m p X a fa) (hm : X.mg "int" = none) (hg : Gl X "int") (he : starEach [a] X.env = (false, eval a X.env) :: starEach [] X.env := by rfl) (hpl : (backTo pos (starEach [] X.env)).any (·.1) = false := by rfl) : FX C W true p X (.Call (.Name "int" pn) [a] [] pos) (f1 dIntS fa) :=
  fx_t1 call_int_str (fun M H x dx d Q hd sx e k => by
    cases dx with
    | str z =>
      simp only [dIntS] at e
      split at e
      · rename_i hz
        cases q : PySem.intText? z with
        | none => rw [q] at e; cases e
        | some n =>
          rw [q] at e
          cases e
          rw [sx.strH]
          exact ⟨z, n, rfl, q, hz, k _ H (Keep.refl _ _) (.int _)⟩
      · cases e
    | _ => cases e) ha PyProof.Rows.boot_int hm hg (he := he) (hpl := hpl)
end
/-! ### match, as wished -/
end FC
namespace FC
open PySem PySem.Spec PyProof.Rows L2 TL
/-! ### texts of limits, read back -/
end FC
namespace FC
open PySem PySem.Spec PyProof.Rows L2
/-! ### xs[::-1] of a list or of a tuple -/
end FC
namespace FC
open PySem PySem.Spec PyProof.Rows L2
/-! ### limits compared; what follows -/
end FC
namespace FC
open PySem PySem.Spec PyProof.Rows L2
/-! ### stretches of rows -/
end FC
namespace FC
open PySem PySem.Spec PyProof.Rows L2
/-! ### rows that keep limits, and what limits let by -/
/-! ### the greatest number in a stretch -/
/-! ### answers compared -/
theorem q_slHt2 {xs : List D} {i : Int} {k : Nat} (h : i = k) : ((dInt (.int i)).bind fun i => dSl (.tup xs) none (some i)) = some (.tup (xs.take k)) := by
  subst h
  simp only [dInt, Option.bind_some, dSl, FC.cutD, HT.sIx_nat, HT.sIx_none, List.drop_zero, Nat.sub_zero]
  congr 2
  by_cases c : k ≤ xs.length
  · rw [Nat.min_eq_left c]
  · rw [Nat.min_eq_right (by omega), List.take_of_length_le (by omega), List.take_of_length_le (by omega)]
end FC
namespace FC
open PySem PySem.Spec PyProof.Rows L2
/-! ### len(set(x)), x a tuple of different ints too -/
/-! ### rows compared, merged -/
theorem ints_dataL : ∀ ns : List Int, D.dataL (ns.map D.int) = some (ns.map PyData.int)
  | [] => rfl
  | n :: ns => by simp only [List.map_cons, D.dataL, D.data, ints_dataL ns]
theorem dEq_nilL (a : List Int) : dEq (.lst (a.map D.int)) (.lst []) = some (.bl a.isEmpty) := by
  simp only [dEq, D.data, ints_dataL, D.dataL, Option.map_some]
  rw [if_pos (by simp [PyData.depth, PyData.depthAll])]
  cases a <;> rfl
theorem dNe_nilL (a : List Int) : dNe (.lst (a.map D.int)) (.lst []) = some (.bl (!a.isEmpty)) := by
  simp only [dNe, D.data, ints_dataL, D.dataL, Option.map_some]
  rw [if_pos (by simp [PyData.depth, PyData.depthAll])]
  cases a <;> rfl
end FC
namespace FC
open PySem PySem.Spec PyProof.Rows L2
/-! ### sorted of a list or tuple of ints -/
/-! ### a < b of nested tuples -/
end FC
namespace FC
open PySem PySem.Spec PyProof.Rows L2
/-! ### min(a, b) of tuples -/
end FC
namespace FC
open PySem PySem.Spec PyProof.Rows L2
/-! ### < of tuples of ints, of pairs -/
/-! ### lists in order -/
/-! ### covers by numbers -/
end FC
namespace FC
open PySem PySem.Spec PyProof.Rows L2
/-! ### the best cover, step by step -/
end FC
namespace FC
open PySem PySem.Spec PyProof.Rows L2
/-! ### the best cover is there -/
end FC
namespace FC
open PySem PySem.Spec PyProof.Rows L2
/-! ### o == o' by the own __eq__ -/
end FC
namespace FC
open PySem PySem.Spec PyProof.Rows L2
/-! ### more limits, fewer limits -/
end FC
namespace FC
open PySem PySem.Spec PyProof.Rows L2
/-! ### calls by keyword -/
/-! ### keywords as arguments -/
theorem PK.imp {X : Cx} {kws : List Keyword} {t t' : TA} (h : PK X kws t) (k : ∀ σ H Q, t' σ H Q → t σ H Q) : PK X kws t' := ⟨fun pos pins s σ H Q I q => h.run pos pins s σ H Q I (k σ H Q q)⟩
section
variable {C : Ct} {W : WX} {X : Cx} {m p m1 p1 m2 p2 m3 p3 : Bool} {a b c e' : Expr} {fa fb fc : F D} {fr : F (List AV)} {pos kpos pn apos : Pos} {e : Expr} {es : List Expr} {kws : List Keyword} {nm : Option Str} {x mt : Str}
/-! ### static methods -/
/-- a list and a list: a new list of one's own -/
def gAddL : D → D → Option (List D)
  | .lst xs, .lst ys => if xs.length + ys.length ≤ sizeLine then some (xs ++ ys) else none
  | _, _ => none
theorem op2N_addL : Op2N C (rAddA X.K) gAddL := fun M H x y dx dy zs Q sx sy e k => by
  cases dx with
  | lst xs => cases dy with
    | lst ys =>
      simp only [gAddL] at e
      split at e
      · rename_i hz
        cases e
        obtain ⟨a, vs, rfl, ha, ra⟩ := sx.lstH
        obtain ⟨b, ws, rfl, hb, rb⟩ := sy.lstH
        exact .inr (.inl ⟨a, b, vs, ws, rfl, rfl, ha, hb, by rw [ra.length, rb.length]; exact hz, fun p hp => k p _ hp (ra.append rb)⟩)
      · cases e
    | _ => cases e
  | _ => cases dy <;> cases e
theorem fn_addL (ha : FX C W m1 p1 X a fa) (hb : FX C W m2 p2 X b fb) (hm : (m1 || p2) = true := by rfl) : FN C W (p1 && p2) X (.BinOp a .Add b pos) (n2 gAddL fa fb) := fn2 (r := rAddA X.K) ha hb (fun ta tb h1 h2 => pe_op op_addA h1 h2) op2N_addL hm
end
end FC
namespace FC
open PySem PySem.Spec PyProof.Rows L2
/-! ### the greatest length within a sum -/
end FC
namespace FC
open PySem PySem.Spec PyProof.Rows L2
/-! ### a lambda is made -/
abbrev lamO (X : Cx) (params : Arguments) (body : Expr) (scope : Scope) (pm : Value) (c' : Addr) (ctv : Value) : Obj := PySem.W.kla_obj "<lambda>" (X.env.qual ++ "<lambda>") params body scope (cloFrom X.env.cells scope.names []) pm c' ctv
section
variable {X : Cx} {pins : List (Addr × Obj)} {σ : L2.St} {H : Hp} {s : Shared}
theorem keep_tbl {P c' : Addr} {q : Str} {ps qs : Array Value} (eP : H P = some (.tbl ps)) (e0 : H c' = none) (N : Addr → Prop) : Keep (.of N) H (upd (upd H P (.tbl qs)) c' (LamX.CodeO c' q)) := fun a o e _ => by
  rw [upd_ne (ne_of_none e e0)]
  by_cases z : a = P
  · subst z
    rw [eP] at e
    cases e
    exact ⟨fun t => (by cases t), fun _ => ⟨_, upd_same, rfl, trivial⟩⟩
  · rw [upd_ne z]
    exact ⟨fun _ => e, fun t => ⟨o, e, t, trivial⟩⟩
theorem lam_new {T : List (Addr × Str)} {c P : Addr} {params : Arguments} {body : Expr} {scope : Scope} {pos : Pos} {E : Value → Shared → Prop} {Q : Value → Shared → Prop} (I : Inv X pins σ H s) (tb : LamX.TabB X.base X.mg c P) (ec : X.env.code = .ref c)
    (inT : (P, X.env.qual ++ "<lambda>") ∈ T) (one : ∀ p ∈ T, p.1 = P → p.2 = X.env.qual ++ "<lambda>") (tt : LamX.Tabs T H) (nd : defaultsOf params X.env = ([], [])) (fr : ∀ y ∈ scope.names, y.2 = .free → ∃ c, X.env.cells.lookup y.1 = some c)
    (go : ∀ (f c' : Addr) (pm ctv : Value) (H1 : Hp) (s1 : Shared), Inv X pins σ H1 s1 → (∀ N : Addr → Prop, Keep (.of N) H H1) → (∀ b o, H b = some o → isTbl o = false → H1 b = some o) → LamX.Tabs T H1 → s1.heap.get? f = some (lamO X params body scope pm c' ctv) → H1 f = none → f ∉ frs X.stack → H1 c' = some (LamX.CodeO c' (X.env.qual ++ "<lambda>")) → Q (.ref f) s1) :
    wpAny (model X.prog X.w) X.A (eval (.Lambda params body scope pos) X.env) Q E s := by
  obtain ⟨ps, eP, tr, each⟩ := tt _ inT
  have atP := I.hok P _ eP
  have glob := I.mod.glob.keeps I.bk
  have bm := tb.bm.keeps I.bk
  have code := tb.code.keeps I.bk
  have far : ∀ f, s.heap.objs.size ≤ f → f ∉ frs X.stack := fun f hf z => (List.mem_cons.mp (I.stkSub _ z)).elim (fun e => by
    have lt := I.lt
    rw [← e] at lt
    exact Nat.lt_irrefl _ (Nat.lt_of_lt_of_le lt hf)) fun e => I.nofs hf e
  refine PySem.W.kla_eval nd ?_
  cases hc : codeAmong pos ps.toList with
  | some cv =>
    obtain ⟨c', e, co⟩ := each pos cv hc
    subst e
    refine PySem.W.kla_makeFunctionHit (P := P) (c := c) (ps := ps) (mg := X.mg) (closure_ok fr) I.ok.glob glob ec code atP tr hc bm fun ctv hh tk grow big => ?_
    exact go hh.objs.size c' _ ctv H _ (I.kept fun b o e => Heap.get?_push_of_some _ (grow b o e)) (fun N => Keep.refl _ H) (fun _ _ e _ => e) tt (Heap.get?_push_size _ rfl) (I.hok.fresh big) (far _ big) co
  | none =>
    refine PySem.W.kla_makeFunction (P := P) (c := c) (ps := ps) (mg := X.mg) (closure_ok fr) I.ok.glob glob ec code atP tr hc tb.gP bm fun c' ctv hh tk ext lo hi rec_ newP => ?_
    obtain ⟨c2, oc, vs, t, e2, o1, o2, o3⟩ := rec_
    cases e2
    have sz : s.heap.objs.size ≤ hh.objs.size := Nat.le_trans lo (Nat.le_of_lt hi)
    have e0 : H c' = none := I.hok.fresh lo
    have J := LamX.inv_table (q := X.env.qual ++ "<lambda>") (t' := tk) (more := #[rawInt pos.line, rawInt pos.col, .ref c']) (h' := hh.push (lamO X params body scope ((X.mg "__name__").getD .none) c' ctv)) I eP
      (fun b o ne e => Heap.get?_push_of_some _ (ext b o ne e)) (Heap.get?_push_of_some _ newP) lo ⟨oc, vs, t, Heap.get?_push_of_some _ o1, o2, o3⟩
    have kt := keep_tbl (q := X.env.qual ++ "<lambda>") (qs := ps ++ #[rawInt pos.line, rawInt pos.col, .ref c']) eP e0
    have ks : ∀ b o, H b = some o → isTbl o = false → upd (upd H P (.tbl (ps ++ #[rawInt pos.line, rawInt pos.col, .ref c']))) c' (LamX.CodeO c' (X.env.qual ++ "<lambda>")) b = some o := fun b o e z => (kt Nope b o e id).1 z
    have sum : (ps ++ #[rawInt pos.line, rawInt pos.col, .ref c']).toList = ps.toList ++ [rawInt pos.line, rawInt pos.col, .ref c'] := by simp
    have nP : hh.objs.size ≠ P := Nat.ne_of_gt (Nat.lt_of_lt_of_le (Heap.lt_size atP) sz)
    refine go hh.objs.size c' _ ctv _ _ J kt ks (fun p hp => ?_) (Heap.get?_push_size _ rfl) ?_ (far _ sz) upd_same
    · by_cases z : p.1 = P
      · rw [one p hp z, z]
        refine ⟨ps ++ #[rawInt pos.line, rawInt pos.col, .ref c'], by rw [upd_ne (ne_of_none eP e0), upd_same], by rw [sum]; exact PySem.TriplesOk_snoc _ _ _ _ tr, fun p2 cv hcv => ?_⟩
        rw [sum] at hcv
        rcases LamX.among_app _ tr hcv with y | y
        · obtain ⟨c0, k1, k2⟩ := each p2 cv y
          exact ⟨c0, k1, ks _ _ k2 rfl⟩
        · exact ⟨c', y, upd_same⟩
      · obtain ⟨ps2, a1, a2, a3⟩ := tt p hp
        refine ⟨ps2, by rw [upd_ne (ne_of_none a1 e0), upd_ne z]; exact a1, a2, fun p2 cv hcv => ?_⟩
        obtain ⟨c0, k1, k2⟩ := a3 p2 cv hcv
        exact ⟨c0, k1, ks _ _ k2 rfl⟩
    · rw [upd_ne (Nat.ne_of_gt hi), upd_ne nP]
      exact I.hok.fresh sz
/-- what the slots hold stands while a lambda is made -/
theorem EnvRep.lam {C : Ct} {pens : Nat → Addr} {M : Addr → Prop} {γ : Gm} {H1 : Hp} (E : EnvRep C pens M γ σ H) (k : ∀ b o, H b = some o → isTbl o = false → H1 b = some o) (kn : Keep (.of Nope) H H1) (t : LamX.Tabs C.T H1) : EnvRep C pens M γ σ H1 where
  len := E.len
  ok := fun i sv x h1 h2 => (E.ok i sv x h1 h2).fine ⟨fun a o e _ z => k a o e z, fun _ _ _ z => z⟩ (fun _ z => z) (fun a vs q => by
    rcases q with ⟨o, h⟩ | q
    · exact .inl ⟨o, k _ _ h rfl⟩
    · exact .inr q) fun _ _ a _ _ u q z => k _ _ q z
  inj := E.inj
  dom := fun a m => by obtain ⟨o, e⟩ := E.dom a m; exact kn.there e id
  tab := t
/-! ### it is called in the def that got it -/
/-! ### said(lambda: e), where nothing is raised -/
def noX {α : Type} (f : F α) : F α := fun γ => match f γ with
  | .ok a g => .ok a g
  | _ => .st
theorem take_lam {A : Around} {out : List Env} {t : Shared} {G : Hp} {E : XK} {scope : Scope} {f c' : Addr} : Takes (LamX.lamCx X A out t G E scope f c') (WofE E) := takes_of rfl rfl rfl rfl
variable {C : Ct} {W : WX} {m p : Bool} {fb : F D}
end
end FC
namespace FC
open PySem PySem.Spec PyProof.Rows L2
/-! ### defs that hold lambdas -/
theorem codeA_eq {K : PySem.W.Frag} {f : Addr} {oc : Value} {od : Option Addr} {osl : Array (Option Value)} {name qual : Str} {params : Arguments} {body : List Stmt} {scope : Scope} {dV kV doc pm cdv ct : Value} {an : Option Addr}
    (lk : K.lookup f = some ⟨oc, od, .func (PySem.W.fnOf name qual params body scope dV kV doc pm an cdv ct), osl⟩) (hc : PySem.W.codeIn K cdv qual = true) : cdv = .ref (codeA K f) := by
  obtain ⟨c, rfl⟩ := He.codeIn_ref hc
  unfold codeA
  rw [lk]
theorem fnL_ok {C : Ct} {P : Program} {w : World} {K : PySem.W.Frag} {mg : Str → Option Value} {base : Heap} {y qual : Str} {params : Arguments} {body : List Stmt} {scope : Scope} {f : Addr} {fd : FuncData} {N ps : List Str} {k : Nat} {b : F Fl} (Fd : FunD K y qual params body scope [] [] f fd) (S : FnScope N ps scope) (hb : Binds K fd ps [])
    (hbody : ∀ (cdv : Value) (A : Around) (outer : List Env) (s : Shared) (H : Hp) (E : XK), cdv = .ref (codeA K f) → RoomG k (A.deeper (envOfC qual scope s.heap.objs.size f cdv)) → FSs C (WofE E) (bcx P w K mg base N qual scope f cdv A outer s H E) body b) :
    FnG P w K mg base (L2.CX P w) (k + 1) f (spF C N ps.length b) := by
  obtain ⟨oc, od, dV, kV, doc, pm, an, cdv, ct, osl, rfl, lk, hcd, _⟩ := Fd.ex
  intro A out s H us vs Q E hr e0 r hsp
  refine StX.run_bnd lk hcd S hr.r e0 (bnd_pos hb e0 r hsp.1) fun s2 H2 xs ⟨ex, eh⟩ hr2 => ?_
  subst ex eh
  exact ⟨_, hbody cdv A out s2 _ E (codeA_eq lk hcd) ⟨hr2, hr.g.mono (by omega)⟩, hsp.2⟩
theorem lam_in {lf : List DefP} {K : PySem.W.Frag} {d : DefP} {j : Nat} (h : lf[j]? = some d) : (tabA K (d.ad K), lamQ d) ∈ lf.map fun d => (tabA K (d.ad K), lamQ d) := List.mem_map.mpr ⟨d, List.mem_of_getElem? h, rfl⟩
theorem lam_one {lf : List DefP} {K : PySem.W.Frag} {d : DefP} (hd : d ∈ lf) (nd : (lf.map fun d => tabA K (d.ad K)).Nodup) : ∀ p ∈ lf.map (fun d => (tabA K (d.ad K), lamQ d)), p.1 = tabA K (d.ad K) → p.2 = lamQ d := fun p hp e => by
  obtain ⟨d2, h2, rfl⟩ := List.mem_map.mp hp
  have e2 : tabA K (d2.ad K) = tabA K (d.ad K) := e
  clear hp e
  induction lf with
  | nil => cases hd
  | cons x xs ih =>
    obtain ⟨n1, n2⟩ := List.nodup_cons.mp nd
    rcases List.mem_cons.mp hd with q1 | q1 <;> rcases List.mem_cons.mp h2 with q2 | q2
    · rw [q1, q2]
    · exact (n1 (List.mem_map.mpr ⟨d2, q2, by rw [e2, q1]⟩)).elim
    · exact (n1 (List.mem_map.mpr ⟨d, q1, by rw [← e2, q2]⟩)).elim
    · exact ih q1 n2 q2
/-! ### a test o == o' by the own __eq__ -/
/-! ### mirrors: said -/
end FC
namespace FC
open PySem PySem.Spec PyProof.Rows L2
/-! ### count and index of truth values -/
def dbs : List D → Option (List Bool)
  | [] => some []
  | .bl b :: xs => (dbs xs).map (b :: ·)
  | _ :: _ => none
theorem dbs_eq : ∀ {xs : List D} {bs : List Bool}, dbs xs = some bs → xs = bs.map D.bl
  | [], bs, e => by cases e; rfl
  | .bl b :: xs, bs, e => by
    simp only [dbs] at e
    obtain ⟨cs, h, rfl⟩ := Option.map_eq_some_iff.mp e
    rw [dbs_eq h]
    rfl
  | .non :: _, _, e => by cases e
  | .int _ :: _, _, e => by cases e
  | .str _ :: _, _, e => by cases e
  | .lst _ :: _, _, e => by cases e
  | .tup _ :: _, _, e => by cases e
  | .dct _ :: _, _, e => by cases e
  | .ins _ _ :: _, _, e => by cases e
  | .raw _ :: _, _, e => by cases e
  | .cls _ :: _, _, e => by cases e
  | .ft _ :: _, _, e => by cases e
theorem repBl {C : Ct} {M : Addr → Prop} {H : Hp} : ∀ {bs : List Bool} {vs : List V}, RepL C M H vs (bs.map D.bl) → vs = bs.map V.bl
  | [], _, .nil => rfl
  | b :: bs, _, .cons r t => by
    cases r
    rw [repBl t]
    rfl
def rCntB (K : PySem.W.Frag) : V → List V → Hp → VK → Prop := fun x vs H Q => ∃ (l : Addr) (b : Bool) (bs : List Bool), x = .ref l ∧ vs = [.bl b] ∧ SqL K H l (bs.map V.bl) ∧ Q (.int ((bs.countP fun y => decide (y = b) : Nat) : Int)) H
theorem valBl : ∀ {bs : List Bool} {us : List Value}, Vals (bs.map V.bl) us → us = bs.map Value.bool
  | [], us, r => by cases r; rfl
  | b :: bs, us, r => by
    cases r with
    | cons h t =>
      rw [valBl t, show _ = Value.bool b from h]
      rfl
theorem readBl {h : Heap} : ∀ bs : List Bool, ∃ as, ReadsAll h (bs.map Value.bool) (bs.map PyData.bool) as
  | [] => ⟨_, .nil⟩
  | b :: bs => by
    obtain ⟨as, r⟩ := readBl (h := h) bs
    exact ⟨_, .cons (.bool b) r⟩
theorem mt_cntB {X : Cx} (hu : X.A.units + 65 < cLine) : MtR X "list.count" (rCntB X.K) := fun pins s σ H x vs v us Q I rx rv h => by
  obtain ⟨l, b, bs, rfl, rfl, hs, q⟩ := h
  cases rx
  obtain ⟨u, rfl, ru⟩ := rv.one
  obtain rfl : u = Value.bool b := ru
  obtain ⟨its, rl, pl, hz⟩ := I.list hs
  have ei := valBl rl
  subst ei
  obtain ⟨as, rs⟩ := readBl (h := s.heap) bs
  refine PySem.W.count_list_datum (α := Bool) (xs := bs) (x := b) pl.isList ⟨as, by
    show ReadsAll s.heap (bs.map Value.bool).toArray.toList (bs.map PyData.bool) as
    simpa using rs⟩ ⟨[], .bool b⟩ (by show X.A.units + 1 + 0 < cLine; omega) ⟨V.int _, H, I.tok _, ⟨_, rfl⟩, q⟩
def gCnt (xs : List D) (d : D) : Option (D × List D) := match d, dbs xs with
  | .bl b, some bs => some (.int ((bs.countP fun y => decide (y = b) : Nat) : Int), xs)
  | _, _ => none
def gIxB (xs : List D) (d : D) : Option (D × List D) := match d, dbs xs with
  | .bl b, some bs => if b ∈ bs then some (.int (bs.idxOf b : Nat), xs) else none
  | _, _ => none
theorem upd_id {H : Hp} {a : Addr} {o : HO} (h : H a = some o) : upd H a o = H := by
  funext b
  by_cases z : b = a
  · rw [z, upd_same, h]
  · rw [upd_ne z]
section
variable {X : Cx} {C : Ct} {W : WX} {m p : Bool} {e a : Expr} {fa : F D} {i : Nat} {pos : Pos}
theorem fx_cntB {apos : Pos} (hu : X.A.units + 65 < cLine) (ho : PE X e (tVar i)) (ha : FX C W true p X a fa) (hbase : attributeBase e "count" X.env (eval e X.env) = eval e X.env := by rfl)
    (hfew : ((backTo pos (starEach [a] X.env)).all (fun x => !x.1) && (backToKw pos (keywordEach [] X.env)).all (fun x => x.1.isSome)
      && decide ([a].length + ([] : List Keyword).length + (if ([] : List Keyword).isEmpty then 0 else 1) < 30)) = true := by rfl)
    (hline : (apos.endLine == pos.line) = true := by rfl) (hs : starEach [a] X.env = (false, eval a X.env) :: starEach [] X.env := by rfl) (hplain : (backTo pos (starEach [] X.env)).any (·.1) = false := by rfl) :
    FX C W true false X (.Call (.Attribute e "count" apos) [a] [] pos) (fM1 i gCnt fa) := fx_m1 PySem.F.slot_list_count PySem.F.type_list_count (mt_cntB hu) ho ha (fun M H l vs xs v d rd ys Q hl rl rv ml eg k => by
  unfold gCnt at eg
  split at eg
  · rename_i b bs h1
    cases eg
    cases rv
    have e1 := dbs_eq h1
    subst e1
    have e2 := repBl rl
    subst e2
    have q := k (.int _) _ (.int _) rl
    rw [upd_id hl] at q
    exact ⟨l, b, bs, rfl, rfl, .inl (.inl hl), q⟩
  · cases eg) hbase hfew hline hs hplain
theorem fx_ixB {apos : Pos} (ho : PE X e (tVar i)) (ha : FX C W true p X a fa) (hbase : attributeBase e "index" X.env (eval e X.env) = eval e X.env := by rfl)
    (hfew : ((backTo pos (starEach [a] X.env)).all (fun x => !x.1) && (backToKw pos (keywordEach [] X.env)).all (fun x => x.1.isSome)
      && decide ([a].length + ([] : List Keyword).length + (if ([] : List Keyword).isEmpty then 0 else 1) < 30)) = true := by rfl)
    (hline : (apos.endLine == pos.line) = true := by rfl) (hs : starEach [a] X.env = (false, eval a X.env) :: starEach [] X.env := by rfl) (hplain : (backTo pos (starEach [] X.env)).any (·.1) = false := by rfl) :
    FX C W true false X (.Call (.Attribute e "index" apos) [a] [] pos) (fM1 i gIxB fa) := fx_m1 PySem.F.slot_list_index PySem.F.type_list_index mt_index ho ha (fun M H l vs xs v d rd ys Q hl rl rv ml eg k => by
  unfold gIxB at eg
  split at eg
  · rename_i b bs h1
    split at eg
    · rename_i hb
      cases eg
      cases rv
      have e1 := dbs_eq h1
      subst e1
      have e2 := repBl rl
      subst e2
      have q := k (.int _) _ (.int _) rl
      rw [upd_id hl] at q
      have hlt : bs.idxOf b < bs.length := List.idxOf_lt_length_iff.mpr hb
      refine ⟨l, bs.map V.bl, .bl b, bs.idxOf b, .bl bs[bs.idxOf b], rfl, rfl, .inl (.inl hl), rfl, List.all_eq_true.mpr fun z hz => ?_, ?_, ?_, fun n z' hn hz => ?_, q⟩
      · obtain ⟨b', _, rfl⟩ := List.mem_map.mp hz
        rfl
      · rw [List.getElem?_map, List.getElem?_eq_getElem hlt]
        rfl
      · rw [List.getElem_idxOf hlt]
        cases b <;> rfl
      · rw [List.getElem?_map] at hz
        obtain ⟨b', h2, rfl⟩ := Option.map_eq_some_iff.mp hz
        have ne : b' ≠ b := fun e => by
          subst e
          obtain ⟨h3, h4⟩ := List.getElem?_eq_some_iff.mp h2
          have h5 := List.not_of_lt_findIdx (p := (· == b')) hn
          rw [h4] at h5
          cases b' <;> cases h5
        cases b <;> cases b' <;> first | rfl | exact absurd rfl ne
    · cases eg
  · cases eg) hbase hfew hline hs hplain
end
/-! ### raise C("..") -/
def sRaise (c : Nat) : F Fl := fun γ => .ex ⟨c, []⟩ γ
theorem fs_raise {X : Cx} {C : Ct} {W : WX} {c : Nat} {x m : Str} {j : Nat} {p p2 pos pos2 : Pos} (f : rsB X.K (C.ec c) = true) (hm : X.mg x = some (.ref (C.ec c))) (hg : Gl X x) (hc : X.calm = true) (tk : Takes X W)
    (hdb : (x == ("__debug__" : Str)) = false := by decide) : FS C W X (.Raise (some (.Call (.Name x p) [.Constant (.str m) j p2] [] pos)) none pos2) (sRaise c) := by
  obtain ⟨f1, f⟩ := Bool.and_eq_true_iff.mp f
  obtain ⟨f2, f⟩ := Bool.and_eq_true_iff.mp f
  obtain ⟨f3, f4⟩ := Bool.and_eq_true_iff.mp f
  refine PS.imp (ps_raise hc tk (pmk_own PySem.F.excBase_ValueError f1 hm f2 (raises_own (of_decide_eq_true f3) (of_decide_eq_true f4)) hg hdb)) fun D σ H ⟨pens, M, γ, E, h⟩ => ?_
  exact h _ _ M σ H E (StpS.refl) ⟨rfl, .inl ⟨rfl, rfl⟩⟩
end FC
namespace FC
open PySem PySem.Spec PyProof.Rows L2
/-! ### isinstance of the exception that is caught -/
structure ExcD (K : PySem.W.Frag) (D : Addr) : Prop where
  cl : (PySem.W.clsIn K D).isSome = true
  ga : PySem.W.findIn K (.ref D) "__getattribute__" = some (some (.builtin "BaseException.__getattribute__"))
  gt : PySem.W.findIn K (.ref D) "__getattr__" = some none
  sb : PySem.W.subIn K (.ref D) (.type "BaseException") = some true
  ca : PySem.W.findIn K (.ref D) "__class__" = some (some (.builtin "object.__class__"))
  gs : PySem.W.specialIn K (.builtin "object.__class__") "__get__" = some (some (.builtin "getset_descriptor.__get__"))
  tk : PySem.W.takesIn K (.builtin "object.__class__") = some true
  ob : PySem.W.mroIn K D (.type "object") = some true
theorem exdB_ok {K : PySem.W.Frag} {D : Addr} (h : exdB K D = true) : ExcD K D := by
  obtain ⟨c1, h⟩ := Bool.and_eq_true_iff.mp h
  obtain ⟨c2, h⟩ := Bool.and_eq_true_iff.mp h
  obtain ⟨c3, h⟩ := Bool.and_eq_true_iff.mp h
  obtain ⟨c4, h⟩ := Bool.and_eq_true_iff.mp h
  obtain ⟨c5, h⟩ := Bool.and_eq_true_iff.mp h
  obtain ⟨c6, h⟩ := Bool.and_eq_true_iff.mp h
  obtain ⟨c7, c8⟩ := Bool.and_eq_true_iff.mp h
  exact ⟨c1, He.eqO_ok c2, He.eqO_ok c3, of_decide_eq_true c4, He.eqO_ok c5, He.eqO_ok c6, of_decide_eq_true c7, of_decide_eq_true c8⟩
/-- the exception at a, of the class at D, is known in this context -/
def ExcIn (X : Cx) (a D : Addr) : Prop := ∃ (oe : Obj) (d : Option Addr), (a, oe) ∈ X.pn ∧ Zc (.ref D) d oe ∧ (∃ vs, oe.data = .fields vs) ∧ X.ex = [] ∧ ∀ dd, d = some dd → ∃ o, X.s_0.heap.get? dd = some o
theorem call_isX {X : Cx} {a D : Addr} (T : ExcD X.K D) (h : ExcIn X a D) : CallR X (.builtin "isinstance") (rIsE X.K D a) := fun pins s σ H xs us Q I r q0 => by
  obtain ⟨c, cv, b, rfl, hcv, e, q⟩ := q0
  obtain ⟨oe, d, hp, hz, ⟨ws, hw⟩, hex, there⟩ := h
  cases r with
  | cons rx rr =>
    cases rr with
    | cons rt rn =>
      cases rn
      cases rx
      obtain rfl := hcv _ rt
      have at_a := (I.pin (a, oe) (List.mem_append_left _ hp)).1
      have nc : PySem.W.notCls oe = true := by unfold PySem.W.notCls; rw [hw] <;> rfl
      have J : ∃ od, PySem.W.InstAt s.heap a oe D od := by
        cases d with
        | none => exact ⟨none, at_a, hz.1, nc, by rw [hz.2]; trivial⟩
        | some dd =>
          obtain ⟨o, ho⟩ := there dd rfl
          obtain ⟨o2, ho2⟩ := I.base.there dd o ho (by rw [hex]; exact List.not_mem_nil)
          exact ⟨some o2, at_a, hz.1, nc, by rw [hz.2]; exact ho2⟩
      obtain ⟨od, J⟩ := J
      exact PySem.W.kia_one (PySem.W.kitx_exc T.cl T.ga T.gt T.sb T.ca T.gs T.tk T.ob) I.kIn J e (fun z => nomatch z) fun tk => ⟨.bl b, H, I.kept (t' := tk) fun _ _ z => z, rfl, q⟩
/-! ### a def is called while an exception is handled -/
section
variable {X : Cx} {pins : List (Addr × Obj)} {σ : L2.St} {H : Hp} {s : Shared}
theorem run_hot {Q : VK} {a f : Addr} {oe : Obj} {k : Nat} {x y qual : Str} {params : Arguments} {body : List Stmt} {scope : Scope} {fd : FuncData} {N : List Str} (Fd : FunD X.K x qual params body scope [] [] f fd) (S : FnScope N [y] scope) (hb : Binds X.K fd [y] [])
    (hr : L2H.RoomH (k + 1) X.A) (I : Inv X pins σ H s) (hp : (a, oe) ∈ X.pn)
    (hbody : ∀ cdv : Value, L2H.RoomH k (X.A.deeper (envOfC qual scope s.heap.objs.size f cdv)) →
      ∃ t, PSs (L2H.cxH (L2.CX X.prog X.w) X.prog X.w X.K X.mg X.base N qual scope f cdv X.A X.stack s H (fun _ _ _ => False) (a, oe)) body t ∧ t { nx := fun _ H' => Q .non H', rt := Q } (L2.start N [.ref a]) H) :
    wpAny (model X.prog X.w) X.A (call (.ref f) [.ref a]) (EP X pins σ Q) X.xe s := by
  obtain ⟨oc, od, dV, kV, doc, pm, an, cdv, ct, osl, rfl, lk, hcg, _⟩ := Fd.ex
  have P1 := I.pin (a, oe) (List.mem_append_left _ hp)
  have po : L2H.PinOk X.stack H s (a, oe) := ⟨P1.1, P1.2.1, fun z => (List.mem_cons.mp (I.stkSub a z)).elim P1.2.2.1 P1.2.2.2.1, P1.2.2.2.2⟩
  have bt := hb s [.ref a] I.kIn rfl
  have slots : ∀ z ∈ [y].zip [Value.ref a], scope.names.lookup z.1 = some .local ∨ (scope.names.lookup z.1 = some .cell ∧ ((cellsFrom (s.heap.objs.size + 1) scope.names []).lookup z.1).isSome = true) := fun z hz => by
    have hy : z.1 = y := by
      cases List.mem_singleton.mp (show z ∈ [(y, Value.ref a)] from hz)
      rfl
    rw [hy]
    exact (S.par y List.mem_cons_self).imp id fun q => ⟨q, PySem.W.cellsFrom_some _ _ _ (.inl q)⟩
  have rc : codeAny (model X.prog X.w) X.A (.call (.ref f) ⟨[.ref a], []⟩) (CR (L2.CX X.prog X.w) X.stack X.prog X.w H s Q fun _ _ _ => False) s := by
    refine codeAny_call_function hr.depth (I.kIn _ _ lk) rfl S.co S.gen rfl (PySem.W.codeRec_of I.kIn hcg) (bt _ _ _ _ ?_)
    refine wpAny_newFunctionEnv_cells S.kind slots fun env en s1 st => ?_
    subst en
    refine ⟨I.nolimit.keeps st.toInCall.keep, codeAny_func ?_⟩
    obtain ⟨t, ht, hq⟩ := hbody cdv (hr.deeper _)
    have I2 := L2H.inv_startH (CX := L2.CX X.prog X.w) (E := fun _ _ _ => False) (qual := qual) (f := f) (cd := cdv) S po I.env0 (vs := [.ref a]) (us := [.ref a]) rfl (.cons rfl .nil) st
    refine wpAny_mono (ht.run [] s1 _ H _ I2 hq) (fun fl s2 hs => ?_) fun e s2 hs => hs
    cases fl with
    | ret u =>
      obtain ⟨v, σ2, H2, J, rv, q⟩ := hs
      exact ⟨v, H2, J.os, J.bare, J.base, J.hok, rv, q⟩
    | next =>
      obtain ⟨σ2, H2, J, q⟩ := hs
      exact ⟨.non, H2, J.os, J.bare, J.base, J.hok, rfl, q⟩
    | brk => exact hs.elim fun _ z => z.elim fun _ y => y.2.elim
    | cont => exact hs.elim fun _ z => z.elim fun _ y => y.2.elim
  refine wpAny_call (codeAny_mono rc fun r s2 hq => ?_)
  match r, hq with
  | .ok (.ret u), hq => exact I.after hq
  | .ok .next, hq => exact hq.elim
  | .ok .brk, hq => exact hq.elim
  | .ok .cont, hq => exact hq.elim
  | .error e, hq =>
    obtain ⟨_, _, _, _, _, _, _, _, _, _, _, _, z⟩ := (show L2.CX X.prog X.w X.stack H s (fun _ _ _ => False) e s2 from hq)
    exact z.elim
end
/-! ### repr, whatever is handled -/
theorem call_reprU {X : Cx} (un : X.A.units + 200 < cLine) (hg : X.A.guards = some []) : CallR X (.builtin "repr") (fun xs H Q => ∃ v p y, xs = [v] ∧ Dp X.K H v p ∧ p.hasDict = false ∧ shownD p = some y ∧ Q (.str y) H) := by
  intro pins s σ H xs us Q I r h
  obtain ⟨v, p, y, rfl, hd, nd, hs, q⟩ := h
  obtain ⟨u, rfl, ru⟩ := vals1 r
  obtain ⟨as, rr⟩ := Dp.reads I p v u hd ru
  unfold shownD at hs
  split at hs
  case isFalse => cases hs
  rename_i hz
  cases hs
  obtain ⟨z1, z2, z3⟩ := hz
  have hu : X.A.units + (p.depth + 1) < cLine := by omega
  have fin : ∀ {t : Nat}, EP X pins σ Q (.str p.shown t) { s with toks := s.toks + 1 } := fun {t} => ⟨.str _, H, I.tok _, ⟨_, rfl⟩, q⟩
  cases rr with
  | none => exact PySem.P.repr_of_none (by simpa only [PyData.shown] using fin (t := s.toks))
  | bool b => exact PySem.P.repr_of_bool (by simpa only [PyData.shown] using fin (t := s.toks))
  | int i t => exact PySem.P.repr_of_int (by simpa [PyData.showable] using z1) (by simpa only [PyData.shown] using fin (t := s.toks))
  | str x t => exact PySem.P.repr_of_str (hsz := by simpa only [PyData.shown] using z3) (by simpa only [PyData.shown] using fin (t := s.toks))
  | list h1 h2 h3 h4 => exact repr_of_reads' (.list h1 h2 h3 h4) z1 (PyData.noDict_hsm nd) hg hu (fun _ _ e => e) (fun h' t tk hk => ⟨.str _, H, I.kept (t' := tk) hk, ⟨_, rfl⟩, q⟩) z3
  | tuple h1 h2 h3 h4 => exact repr_of_reads' (.tuple h1 h2 h3 h4) z1 (PyData.noDict_hsm nd) hg hu (fun _ _ e => e) (fun h' t tk hk => ⟨.str _, H, I.kept (t' := tk) hk, ⟨_, rfl⟩, q⟩) z3
  | dict _ _ _ _ _ => simp [PyData.hasDict] at nd
end FC
namespace FC
open PySem PySem.Spec PyProof.Rows L2
/-! ### the word of an exception: a def that looks at it -/
/-- there the class number 0 is the exception itself -/
abbrev CtA (C : Ct) (a : Addr) : Ct := { C with cl := fun _ => a }
def KindP (P : Program) (w : World) (K : PySem.W.Frag) (mg : Str → Option Value) (base : Heap) (C : Ct) (k : Nat) (f : Addr) (c : Nat) (wd : Str) : Prop :=
  ∀ (X : Cx) (pins : List (Addr × Obj)) (σ : L2.St) (H : Hp) (s : Shared) (Q : VK) (a : Addr) (oe : Obj) (d : Option Addr), X.prog = P → X.w = w → X.K = K → X.mg = mg → X.base = base → Inv X pins σ H s → L2H.RoomH k X.A → (a, oe) ∈ X.pn →
    Zc (.ref (C.ec c)) d oe → (∃ vs, oe.data = .fields vs) → (∀ dd, d = some dd → ∃ o, H dd = some o) → LamX.Tabs C.T H → (∀ H2, Keep (.of Nope) H H2 → LamX.Tabs C.T H2 → Q (.str wd) H2) →
    wpAny (model X.prog X.w) X.A (call (.ref f) [.ref a]) (EP X pins σ Q) X.xe s
/-- isinstance of the exception, in the def that looks at it -/
def dIsX (b : Bool) : D → Option D
  | .cls _ => some (.bl b)
  | _ => none
theorem fx_isX {C : Ct} {W : WX} {X : Cx} {m p : Bool} {e : Expr} {fa : F D} {pn pos : Pos} {a D : Addr} {b : Bool} {ce : Expr} {cv : V} {cu : Value} (T : ExcD X.K D) (h : ExcIn X a D) (hce : PE X ce (tC cv)) (hk : ∀ u, RelV cv u → u = cu) (kit : PySem.W.kitOne X.K (.ref D) cu = some b)
    (ha : FX (CtA C a) W m p X e fa) (hm : X.mg "isinstance" = none) (hg : Gl X "isinstance") (hs : starEach [e, ce] X.env = (false, eval e X.env) :: starEach [ce] X.env := by rfl) (hs2 : starEach [ce] X.env = (false, eval ce X.env) :: starEach [] X.env := by rfl) (hpl : (backTo pos (starEach [ce] X.env)).any (·.1) = false := by rfl) :
    FX (CtA C a) W true p X (.Call (.Name "isinstance" pn) [e, ce] [] pos) (f1 (dIsX b) fa) :=
  fx1 (r := fun x H Q => rIsE X.K D a [x, cv] H Q) ha (fun ta h2 => pe_callB (call_isX T h) hg hm (by rfl) (pa_cons h2 (pa_cons hce pa_nil hs2) hs) (by decide) (by decide) hs hpl) fun M H x dx d Q hd sx eg k => by
    cases dx with
    | cls c =>
      cases eg
      cases sx with
      | rep r =>
        cases r
        exact ⟨cv, cu, b, rfl, hk, kit, k _ H (Keep.refl _ _) (.bl _)⟩
    | _ => cases eg
theorem kind_ok {P : Program} {w : World} {K : PySem.W.Frag} {mg : Str → Option Value} {base : Heap} {C : Ct} {k c : Nat} {f : Addr} {x y qual wd : Str} {params : Arguments} {body : List Stmt} {scope : Scope} {fd : FuncData} {N : List Str} {b : F Fl}
    (Fd : FunD K x qual params body scope [] [] f fd) (S : FnScope N [y] scope) (hb : Binds K fd [y] []) (hN : 1 ≤ N.length)
    (hbody : ∀ (A : Around) (outer : List Env) (s : Shared) (H : Hp) (cdv : Value) (a : Addr) (oe : Obj), ExcIn (L2H.cxH (L2.CX P w) P w K mg base N qual scope f cdv A outer s H (fun _ _ _ => False) (a, oe)) a (C.ec c) → L2H.RoomH k (A.deeper (envOfC qual scope s.heap.objs.size f cdv)) →
      FSs (CtA C a) W0 (L2H.cxH (L2.CX P w) P w K mg base N qual scope f cdv A outer s H (fun _ _ _ => False) (a, oe)) body b)
    (hw : ∃ g, b (padG N.length [.val (.cls 0)]) = .ok (.ret (.val (.str wd))) g) : KindP P w K mg base C (k + 1) f c wd := by
  intro X pins σ H s Q a oe d eP ew eK em eb I hr hp hz hf hd ht hQ
  subst eP ew eK em eb
  obtain ⟨g, hg⟩ := hw
  refine run_hot Fd S hb hr I hp fun cdv hr2 => ⟨_, hbody X.A X.stack s H cdv a oe ⟨oe, d, List.mem_singleton.mpr rfl, hz, hf, rfl, fun dd e => ?_⟩ hr2, ?_⟩
  · obtain ⟨o, ho⟩ := hd dd e
    exact objOk_get (I.hok dd o ho)
  · have nt : ∀ {j : Nat} {t : Option Nat} {o : MO}, (padG N.length [.val (.cls 0)])[j]? = some (.own t o) → False := fun {j t o} z => by
      rcases padG_at z with q | ⟨_, q⟩
      · cases j with
        | zero => cases q
        | succ j => simp at q
      · cases q
    refine ⟨fun _ => 0, Nope, padG N.length [.val (.cls 0)], ⟨?_, fun j sv x e1 e2 => ?_, fun j k t o t' o' z q => (nt q).elim, fun _ z => z.elim, ht⟩, ?_⟩
    · unfold L2.start padG
      simp only [List.length_append, List.length_map, List.length_replicate, List.length_cons, List.length_nil]
    · rcases padG_at e1 with q | ⟨_, q⟩
      · cases j with
        | zero =>
          cases q
          rw [start_at (v := .ref a) rfl] at e2
          cases e2
          exact ⟨.ref a, rfl, .cls (C := CtA C a) 0⟩
        | succ j => simp at q
      · rw [q]; trivial
    · rw [hg]
      intro v M' σ' H' E' S' r
      cases (show Rep (CtA C a) M' H' v (.str wd) from r)
      exact hQ H' (S'.keep.mono fun z o => by
        obtain ⟨_, _, _, h1, _⟩ := o
        exact (nt h1).elim) E'.tab
section
variable {X : Cx} {C : Ct} {kk i : Nat} {fk : Addr} {e kn : Str} {a : Addr} {oe : Obj} {cls : Value} {d : Option Addr} {pn : List (Addr × Obj)}
theorem pe_kind {p2 p3 p4 : Pos} (hz : Zc cls d oe) (hf : ∃ vs, oe.data = .fields vs) (hN : X.N[i]? = some e) (hv : Vis X.env.scope e) (hg : Gl X kn) (hm : X.mg kn = some (.ref fk)) (hk : PySem.W.keepIn X.K (.ref fk) = true) (hr : L2H.RoomH kk X.A)
    (hd1 : (e == ("__debug__" : Str)) = false := by decide) (hd2 : (e == ("__classdict__" : Str)) = false := by decide) (hd3 : (kn == ("__debug__" : Str)) = false := by decide) :
    PE (X.suite a ((a, oe) :: pn)) (.Call (.Name kn p2) [.Name e p3] [] p4) (fun σ H Q => ∃ c wd, cls = .ref (C.ec c) ∧ KindP X.prog X.w X.K X.mg X.base C kk fk c wd ∧ σ[i]? = some (some (.ref a)) ∧ (∀ dd, d = some dd → ∃ o, H dd = some o) ∧ LamX.Tabs C.T H ∧
      ∀ H2, Keep (.of Nope) H H2 → LamX.Tabs C.T H2 → Q (.str wd) H2) := by
  refine ⟨fun pins s σ H Q I ⟨c, wd, ec, hK, hs, hd, ht, hq⟩ => ?_⟩
  subst ec
  refine wpAny_Call_Name_kw (ld_glob I hg hm ?_ hd3)
  have ha : PA (X.suite a ((a, oe) :: pn)) [.Name e p3] (tCons (tVar i) tNil) := pa_cons (pe_var hN hv hd1 hd2) pa_nil
  refine PySem.W.callWith_K (h₀ := X.base) I.ok.mod.kin hk (thn (ha.run p4 pins s σ H (fun vs H1 => vs = [V.ref a] ∧ H = H1) I ⟨.ref a, hs, rfl, rfl⟩) fun us s1 ⟨vs, H1, I1, r1, ev, eH⟩ => ⟨I1.kIn, ?_⟩) rfl rfl
  subst ev
  rw [← eH] at I1
  obtain ⟨u, rfl, ru⟩ := vals1 r1
  obtain rfl : u = Value.ref a := ru
  exact hK (X.suite a ((a, oe) :: pn)) pins σ H s1 Q a oe d rfl rfl rfl rfl rfl I1 ⟨hr.dp, hr.un⟩ List.mem_cons_self hz hf hd ht hq
end
/-! ### what is said of an exception -/
def sayX (many pm pb w : Str) (fs : List (Str × D)) : Option Str :=
  if w = many then match fs.lookup ("amount" : Str), fs.lookup ("limit" : Str) with
    | some (.int x), some (.int y) => (shownD (.tuple [.int x, .int y])).bind fun z => if pm.length + z.length ≤ sizeLine then some (pm ++ z) else none
    | _, _ => none
  else if pb.length + w.length ≤ sizeLine then some (pb ++ w) else none
section
variable {X : Cx} {C : Ct} {kk i j cm : Nat} {fk : Addr} {e kn wv many pm pb : Str} {a : Addr} {oe : Obj} {cls : Value} {d : Option Addr} {pn : List (Addr × Obj)}
theorem pss_say {x1 : Nat} {j1 j2 j3 : Nat} {p1 p2 p3 p4 p5 p6 p7 p8 p9 p10 p11 p12 p13 p14 p15 p16 p17 p18 p19 p20 p21 p22 : Pos} (hz : Zc cls d oe) (hf : ∃ vs, oe.data = .fields vs) (hN : X.N[i]? = some e) (hv : Vis X.env.scope e) (hj : X.N[j]? = some wv) (hvj : Vis X.env.scope wv) (hlj : Loc X.env.scope wv) (hfj : X.fn wv = true ∨ X.env.scope.names.lookup wv = some .local) (nd : X.N.Nodup)
    (hg : Gl X kn) (hm : X.mg kn = some (.ref fk)) (hk : PySem.W.keepIn X.K (.ref fk) = true) (hr : L2H.RoomH kk X.A) (gr : Gl X "repr") (mr : X.mg "repr" = none) (gd : X.A.guards = some []) (un : X.A.units + 200 < cLine)
    (T : XfC X.K (C.ec cm)) (n1 : PySem.W.findIn X.K (.ref (C.ec cm)) "amount" = some none) (n2 : PySem.W.findIn X.K (.ref (C.ec cm)) "limit" = some none)
    (hd1 : (e == ("__debug__" : Str)) = false := by decide) (hd2 : (e == ("__classdict__" : Str)) = false := by decide) (hd3 : (kn == ("__debug__" : Str)) = false := by decide) (hd4 : (wv == ("__debug__" : Str)) = false := by decide) (hd5 : (wv == ("__classdict__" : Str)) = false := by decide) :
    PSs (X.suite a ((a, oe) :: pn)) [.Assign [.Name wv p1] (.Call (.Name kn p2) [.Name e p3] [] p4) p5, .Return (some (.IfExp (.Compare (.Name wv p6) [.Eq] [.Constant (.str many) j1 p7] p8)
        (.BinOp (.Constant (.str pm) j2 p9) .Add (.Call (.Name "repr" p10) [.Tuple [.Attribute (.Name e p11) "amount" p12, .Attribute (.Name e p13) "limit" p14] x1 p15] [] p16) p17)
        (.BinOp (.Constant (.str pb) j3 p18) .Add (.Name wv p19) p20) p21)) p22]
      (fun D σ H => ∃ c wd z fs, cls = .ref (C.ec c) ∧ KindP X.prog X.w X.K X.mg X.base C kk fk c wd ∧ σ[i]? = some (some (.ref a)) ∧ i ≠ j ∧ j < σ.length ∧ LamX.Tabs C.T H ∧ ((d = none ∧ fs = []) ∨ ∃ (dd : Addr) (vs : List (Str × V)) (M : Addr → Prop), d = some dd ∧ H dd = some (.xd vs) ∧ RepF C M H vs fs) ∧
        (wd = many → c = cm) ∧ sayX many pm pb wd fs = some z ∧ ∀ H2, Keep (.of Nope) H H2 → LamX.Tabs C.T H2 → D.rt (.str z) H2) := by
  have vw : PE (X.suite a ((a, oe) :: pn)) (.Name wv p6) (tVar j) := pe_var hj hvj hd4 hd5
  have vw2 : PE (X.suite a ((a, oe) :: pn)) (.Name wv p19) (tVar j) := pe_var hj hvj hd4 hd5
  have ve1 : PE (X.suite a ((a, oe) :: pn)) (.Name e p11) (tVar i) := pe_var hN hv hd1 hd2
  have ve2 : PE (X.suite a ((a, oe) :: pn)) (.Name e p13) (tVar i) := pe_var hN hv hd1 hd2
  refine PSs.imp (pss_cons (ps_set nd hj hlj (pe_kind (C := C) (p2 := p2) (p3 := p3) (p4 := p4) hz hf hN hv hg hm hk hr hd1 hd2 hd3) (by rfl) hfj) (pss_one (ps_ret (pe_ifExp (pt_cmpR op_eq vw pe_str (by rfl))
    (pe_op op_add_str pe_str (pe_callB (call_reprU un gd) gr mr (by rfl) (pa_cons (pe_tup (pa_cons (pe_xf T n1 hz hf ve1) (pa_cons (pe_xf T n2 hz hf ve2) pa_nil))) pa_nil))) (pe_op op_add_str pe_str vw2))))) ?_
  rintro D σ H ⟨c, wd, z, fs, ec, hK, hs, nij, hjl, ht, hd, hcm, hsay, hq⟩
  refine ⟨c, wd, ec, hK, hs, fun dd e => ?_, ht, fun H2 k2 t2 => ?_⟩
  · rcases hd with ⟨e1, _⟩ | ⟨dd2, vs, M, e1, e2, _⟩
    · rw [e1] at e; cases e
    · rw [e1] at e; cases e; exact ⟨_, e2⟩
  · have sj : (σ.set j (some (.str wd)))[j]? = some (some (.str wd)) := List.getElem?_set_self hjl
    have si : (σ.set j (some (.str wd)))[i]? = some (some (.ref a)) := by rw [List.getElem?_set_ne (Ne.symm nij)]; exact hs
    refine ⟨.str wd, sj, by rfl, _, rfl, ?_⟩
    unfold sayX at hsay
    by_cases hw : wd = many
    · rw [if_pos hw] at hsay
      have ew : decide (V.str wd = V.str many) = true := decide_eq_true (by rw [hw])
      rw [ew, if_pos rfl]
      obtain rfl := hcm hw
      split at hsay
      · rename_i x y e1 e2
        obtain ⟨t, h1, h2⟩ := Option.bind_eq_some_iff.mp hsay
        split at h2
        · rename_i hz2
          cases h2
          rcases hd with ⟨_, e0⟩ | ⟨dd, vs, M, ed, eH, rf⟩
          · rw [e0] at e1; cases e1
          · have eH2 : H2 dd = some (.xd vs) := (k2 dd _ eH id).1 rfl
            obtain ⟨v1, l1, r1⟩ := rf.lookup e1
            obtain ⟨v2, l2, r2⟩ := rf.lookup e2
            cases r1
            cases r2
            refine ⟨.ref a, si, rfl, ec, dd, vs, .int x, ed, eH2, l1, .ref a, si, rfl, ec, dd, vs, .int y, ed, eH2, l2, ?_⟩
            refine ⟨(show 2 ≤ sizeLine by rw [sizeLine_eq]; omega), fun p hp => ⟨.ref p, .tuple [.int x, .int y], t, rfl, .tup (.inl (.inl upd_same)) (.cons (.int x) (.cons (.int y) .nil)), by simp [PyData.hasDict, PyData.hasDictAll], h1, pm, t, rfl, rfl, hz2, ?_⟩⟩
            exact hq _ (k2.trans (Keep.new hp)) (t2.ext fun b o e => by rw [upd_ne (ne_of_none e hp)]; exact e)
        · cases h2
      · cases hsay
    · rw [if_neg hw] at hsay
      have ew : decide (V.str wd = V.str many) = false := decide_eq_false fun q => hw (V.str.inj q)
      rw [ew, if_neg Bool.false_ne_true]
      split at hsay
      · rename_i hz2
        cases hsay
        exact ⟨.str wd, sj, pb, wd, rfl, rfl, hz2, hq H2 k2 t2⟩
      · cases hsay
end
end FC
namespace FC
open PySem PySem.Spec PyProof.Rows L2
/-! ### a lambda is called where its exceptions are caught -/
section
variable {X : Cx} {pins : List (Addr × Obj)} {σ : L2.St} {H : Hp} {s : Shared}
theorem pe_lamRunX {CXg : CXT} {Eg : XK} {Ng : List Str} {qg : Str} {sg : Scope} {g f c' : Addr} {cdg pm ctv : Value} {params : Arguments} {body : Expr} {scope : Scope} {k i : Nat} {a : Str} {pn : List (Addr × Obj)} {xe : Value → Shared → Prop} {W : WX} {E : XK} {tb : TE} {p1 p2 : Pos}
    (I : Inv X pins σ H s) (L : LamX.LamS X.env.scope scope) (fo : s.heap.get? f = some (lamO X params body scope pm c' ctv)) (f0 : H f = none) (ff : f ∉ frs X.stack)
    (bd : bindArgs (PySem.W.kla_fn "<lambda>" (X.env.qual ++ "<lambda>") params body scope (cloFrom X.env.cells scope.names []) pm (.ref c') ctv) ⟨[], []⟩ = pure [])
    (tk : Takes ((cxOf CXg X.prog X.w X.K X.mg X.base Ng qg sg g cdg X.A X.stack s H Eg).tr pn xe) W) (hr : RoomG (k + 1) (X.A.deeper (envOfC qg sg s.heap.objs.size g cdg)))
    (hb : ∀ (A : Around) (out : List Env) (t : Shared) (G : Hp), RoomG k (A.deeper (LamX.lamEnv X scope t.heap.objs.size f c')) → PE (LamX.lamCx X A out t G E scope f c') body tb)
    (hN : Ng[i]? = some a) (hv : Vis sg a) (hd : (a == ("__debug__" : Str)) = false := by decide) (hcd : (a == ("__classdict__" : Str)) = false := by decide) :
    PE ((cxOf CXg X.prog X.w X.K X.mg X.base Ng qg sg g cdg X.A X.stack s H Eg).tr pn xe) (.Call (.Name a p1) [] [] p2) (fun σ1 G Q => σ1[i]? = some (some (.ref f)) ∧ G c' = some (LamX.CodeO c' (X.env.qual ++ "<lambda>")) ∧ (∀ cls d G1, E cls d G1 → W cls d σ1 G1) ∧ tb σ G Q) := by
  refine ⟨fun pz sz σz G Q J ⟨hs, hc, up, ht⟩ => ?_⟩
  refine wpAny_Call_Name_kw (thn ((pe_var (pos := p1) (i := i) hN hv hd hcd).run pz sz σz G (fun v K1 => v = .ref f ∧ K1 = G) J ⟨.ref f, hs, rfl, rfl⟩) fun u t ⟨v, K1, J1, r1, ev, eK⟩ => ?_)
  subst ev
  rw [eK] at J1
  obtain rfl : u = Value.ref f := r1
  have fat : t.heap.get? f = some (lamO X params body scope pm c' ctv) := J1.base.keep f _ fo f0 ff (fun z => nomatch (show f ∈ ([] : List Addr) from z))
  refine PySem.W.callWith_F0 ⟨_, _, _, _, fat⟩ ?_
  have un : Un (frs X.stack) [] H G s.heap t.heap := J1.base
  obtain ⟨⟨oc, vs, tt, o1, o2, o3⟩, _, _⟩ := J1.hok c' _ hc
  have rc : codeAny (model X.prog X.w) (X.A.deeper (envOfC qg sg s.heap.objs.size g cdg)) (.call (.ref f) ⟨[], []⟩) (CR (L2.CX X.prog X.w) (envOfC qg sg s.heap.objs.size g cdg :: X.stack) X.prog X.w G t Q E) t := by
    refine PySem.W.kla_callFunE hr.r.depth fat rfl L.co L.gen rfl ⟨c', oc, vs, tt, rfl, o1, o2, o3⟩ ?_
    rw [bd]
    refine wpAny_pure (wpAny_newFunctionEnv (fun y hy => (L.own y hy).2) (fun y hy => absurd hy List.not_mem_nil) (fun hh hns hsb => ⟨J1.nolimit.fresh _ hsb, ?_⟩) L.kind)
    show codeAny _ _ (.expr body (LamX.lamEnv X scope t.heap.objs.size f c')) _ _
    have kp : ∀ b o, t.heap.get? b = some o → hh.get? b = some o := fun b o e => hsb.extBut b o (Nat.ne_of_lt (Heap.lt_size e)) (Heap.get?_push_of_some _ e)
    have J2 := LamX.lam_start2 (E := E) (f := f) (c' := c') (tk := t.toks + ([] : List (Str × Value)).length) I L J1.env0 hr.r.hd un hns kp
    refine PySem.W.kla_codeExpr (wpAny_mono ((hb _ _ t G (hr.deeper _)).run [] _ _ G Q J2 ht) (fun v s2 ⟨w2, H2, J3, rv, q⟩ => ?_) fun _ _ z => z)
    exact ⟨w2, H2, J3.os, J3.bare, J3.base, J3.hok, rv, q⟩
  refine wpAny_call (codeAny_mono rc fun r s2 hq => ?_)
  match r, hq with
  | .error e, hq => exact tk e s2 (XE.of_call J1 (fun cls d H1 h => up cls d H1 h) hq)
  | .ok (.ret u), hq => exact J1.after hq
  | .ok .next, hq => exact hq.elim
  | .ok .brk, hq => exact hq.elim
  | .ok .cont, hq => exact hq.elim
end
/-! ### said(lambda: e), whatever e does -/
def fSaidX (kw : Nat → Option Str) (say : Str → List (Str × D) → Option Str) (fb : F D) : F D := fun γ => match fb γ with
  | .ok d g => liftO (dRepr d) g
  | .ex e g => match (kw e.c).bind fun w => say w e.fs with
    | some z => .ok (.str z) g
    | none => .st
  | .st => .st
variable {C : Ct} {W : WX} {m p : Bool} {fb : F D}
section
variable {X : Cx}
theorem fx_saidX {k kk : Nat} {x a e nE kn wv many pm pb : Str} {g c P fk : Addr} {fd : FuncData} {pg params : Arguments} {bg : List Stmt} {sg scope : Scope} {Ng : List Str} {i j cm : Nat} {CS : Addr} {body : Expr} {kw : Nat → Option Str} {x1 j1 j2 j3 : Nat}
    {q1 q2 q3 q4 q5 q6 q7 q8 p1 p2 p3 p4 p5 p6 p7 p8 p9 p10 p11 p12 p13 p14 p15 p16 p17 p18 p19 p20 p21 p22 : Pos} {lpos pn pos : Pos}
    (Fd : FunD X.K x x pg bg sg [] [] g fd) (eb : bg = [.Try [.Return (some (.Call (.Name "repr" q1) [.Call (.Name a q2) [] [] q3] [] q4)) q5] [.ExceptHandler (some (.Name nE q6)) (some e) [.Assign [.Name wv p1] (.Call (.Name kn p2) [.Name e p3] [] p4) p5, .Return (some (.IfExp (.Compare (.Name wv p6) [.Eq] [.Constant (.str many) j1 p7] p8)
        (.BinOp (.Constant (.str pm) j2 p9) .Add (.Call (.Name "repr" p10) [.Tuple [.Attribute (.Name e p11) "amount" p12, .Attribute (.Name e p13) "limit" p14] x1 p15] [] p16) p17)
        (.BinOp (.Constant (.str pb) j3 p18) .Add (.Name wv p19) p20) p21)) p22] q7] [] [] q8])
    (Sg : FnScope Ng [a] sg) (hNg : Ng[0]? = some a) (hva : Vis sg a) (hie : Ng[i]? = some e) (hle : sg.names.lookup e = some .local) (hjw : Ng[j]? = some wv) (hlw : sg.names.lookup wv = some .local) (nij : i ≠ j)
    (hge : sg.names.lookup nE = some .globalImplicit) (hme : X.mg nE = some (.ref CS)) (hgr : sg.names.lookup ("repr" : Str) = some .globalImplicit) (hmr : X.mg "repr" = none) (hgk : sg.names.lookup kn = some .globalImplicit) (hmk : X.mg kn = some (.ref fk)) (hkk : PySem.W.keepIn X.K (.ref fk) = true)
    (hK : ∀ c wd, kw c = some wd → KindP X.prog X.w X.K X.mg X.base C kk fk c wd) (hex : ∀ c wd, kw c = some wd → PySem.W.exmOne X.K (.ref (C.ec c)) (.ref CS) = some true) (hcm : ∀ c, kw c = some many → c = cm)
    (T : XfC X.K (C.ec cm)) (n1 : PySem.W.findIn X.K (.ref (C.ec cm)) "amount" = some none) (n2 : PySem.W.findIn X.K (.ref (C.ec cm)) "limit" = some none)
    (hg : Gl X x) (hm : X.mg x = some (.ref g)) (hk : PySem.W.keepIn X.K (.ref g) = true) (hb : Binds X.K fd [a] [])
    (eK : C.K = X.K) (tb : LamX.TabB X.base X.mg c P) (ec : X.env.code = .ref c) (inT : (P, X.env.qual ++ "<lambda>") ∈ C.T) (one : ∀ p ∈ C.T, p.1 = P → p.2 = X.env.qual ++ "<lambda>") (hr : RoomG (k + 2) X.A) (hkl : kk ≤ k) (L : LamX.LamS X.env.scope scope) (nd : defaultsOf params X.env = ([], []))
    (bd : ∀ (q : Str) (cl : List (Str × Addr)) (pm cv ctv : Value), bindArgs (PySem.W.kla_fn "<lambda>" q params body scope cl pm cv ctv) ⟨[], []⟩ = pure [])
    (hbody : ∀ (E : XK) (A : Around) (out : List Env) (t : Shared) (G : Hp) (f c' : Addr), RoomG k (A.deeper (LamX.lamEnv X scope t.heap.objs.size f c')) → FX C (WofE E) m p (LamX.lamCx X A out t G E scope f c') body fb)
    (hdb : (x == ("__debug__" : Str)) = false := by decide) (hd : (a == ("__debug__" : Str)) = false := by decide) (hcd : (a == ("__classdict__" : Str)) = false := by decide) (hde : (nE == ("__debug__" : Str)) = false := by decide)
    (hd1 : (e == ("__debug__" : Str)) = false := by decide) (hd2 : (e == ("__classdict__" : Str)) = false := by decide) (hd3 : (kn == ("__debug__" : Str)) = false := by decide) (hd4 : (wv == ("__debug__" : Str)) = false := by decide) (hd5 : (wv == ("__classdict__" : Str)) = false := by decide) (h40 : 40 ≤ k := by decide) :
    FX C W true false X (.Call (.Name x pn) [.Lambda params body scope lpos] [] pos) (fSaidX kw (sayX many pm pb) fb) := by
  obtain ⟨oc, od, dV, kV, doc, pm', an, cdv, ct, osl, rfl, lk, hcg, hD, _⟩ := Fd.ex
  subst eb
  refine ⟨fun pins s σ H Q I ⟨pens, M, γ, E, h⟩ => ?_⟩
  refine wpAny_Call_Name_kw (ld_glob I hg hm ?_ hdb)
  refine PySem.W.callWith_K (h₀ := X.base) I.ok.mod.kin hk ?_ (by rfl) (by rfl)
  show wpAny _ _ (spliced ((false, eval (.Lambda params body scope lpos) X.env) :: backTo pos (starEach [] X.env))) _ _ s
  refine Calls.spliced_cons (lam_new I tb ec inT one E.tab nd (L.has I.ok) fun f c' pm1 ctv H1 s1 I1 kN kS T1 fo f0 ff co => ?_)
  refine Calls.spliced_nil ⟨I1.kIn, ?_⟩
  have E1 : EnvRep C pens M γ σ H1 := E.lam kS (kN _) T1
  have rc : codeAny (model X.prog X.w) X.A (.call (.ref g) ⟨[.ref f], []⟩) (CR C8.CX0 X.stack X.prog X.w H1 s1 Q C8.E0) s1 := by
    refine LamX.run_ofS (N := Ng) (ps := [a]) (us := [.ref f]) (vs := [.ref f]) lk hcg Sg hr.r I1.env0 (hb s1 [.ref f] I1.kIn rfl) (.cons rfl .nil) rfl fun hr' => ?_
    have hrG : RoomG (k + 1) (X.A.deeper (envOfC x sg s1.heap.objs.size g cdv)) := ⟨hr', hr.g.mono (by omega)⟩
    let EE : XK := fun cls d G => ∃ y γ1, fb γ = .ex y γ1 ∧ Stp C pens M σ γ H1 γ1 G ∧ ExRep C M y cls d G
    refine ⟨_, (pss_one (ps_try_as (X := (cxOf C8.CX0 X.prog X.w X.K X.mg X.base Ng x sg g cdv X.A X.stack s1 H1 C8.E0).nox) (c := .ref CS) (i := i)
      (ts := fun a2 cls d => fun D σ G => ∃ c wd z fs, cls = .ref (C.ec c) ∧ KindP X.prog X.w X.K X.mg X.base C kk fk c wd ∧ σ[i]? = some (some (.ref a2)) ∧ i ≠ j ∧ j < σ.length ∧ LamX.Tabs C.T G ∧ ((d = none ∧ fs = []) ∨ ∃ (dd : Addr) (vs : List (Str × V)) (M : Addr → Prop), d = some dd ∧ G dd = some (.xd vs) ∧ RepF C M G vs fs) ∧
        (wd = many → c = cm) ∧ sayX many pm pb wd fs = some z ∧ ∀ H2, Keep (.of Nope) G H2 → LamX.Tabs C.T H2 → D.rt (.str z) H2)
      (tb := fun W1 => fun D σ1 G => σ1[0]? = some (some (.ref f)) ∧ G c' = some (LamX.CodeO c' (X.env.qual ++ "<lambda>")) ∧ (∀ cls d G1, EE cls d G1 → W1 cls d σ1 G1) ∧ tF C (WofE EE) m p fb σ G fun v G2 => (fun xs H3 Q3 => ∃ v p y, xs = [v] ∧ Dp X.K H3 v p ∧ p.hasDict = false ∧ shownD p = some y ∧ Q3 (.str y) H3) [v] G2 D.rt)
      rfl rfl Sg.nd hie hle ⟨hge, hde, .inl hme⟩ LamX.takes0 (fun W1 pn1 xe1 tk1 _ => ?_) (fun a2 oe cls d pn2 hz hf => ?_))).nox, ?_⟩
    · have hp := pe_lamRunX (CXg := C8.CX0) (Eg := C8.E0) (Ng := Ng) (i := 0) (E := EE) (p1 := q2) (p2 := q3) I1 L fo f0 ff (bd _ _ _ _ _) tk1 hrG (fun A out t G hr2 => hbody EE A out t G f c' hr2) hNg hva hd hcd
      have gl : Gl ((cxOf C8.CX0 X.prog X.w X.K X.mg X.base Ng x sg g cdv X.A X.stack s1 H1 C8.E0).tr pn1 xe1) ("repr" : Str) := hgr
      have hc := pe_callB (p := q1) (pos := q4) (call_reprD (X := (cxOf C8.CX0 X.prog X.w X.K X.mg X.base Ng x sg g cdv X.A X.stack s1 H1 C8.E0).tr pn1 xe1) (k := k + 1) hrG (by omega)) gl hmr (by rfl) (pa_cons hp pa_nil (by rfl))
      exact pss_one (ps_ret hc)
    · exact pss_say (X := (cxOf C8.CX0 X.prog X.w X.K X.mg X.base Ng x sg g cdv X.A X.stack s1 H1 C8.E0).nox) (C := C) (kk := kk) hz hf hie (.inl hle) hjw (.inl hlw) (.inl hlw) (.inr hlw) Sg.nd hgk hmk hkk ((L2H.roomH_of hr').mono (by omega)) hgr hmr (hr.g.nil_ (by omega))
        (by have := hr'.un; show (X.A.deeper (envOfC x sg s1.heap.objs.size g cdv)).units + 200 < cLine; omega) T n1 n2 hd1 hd2 hd3 hd4 hd5
    · refine ⟨start_at (v := V.ref f) rfl, co, ?_, pens, M, γ, E1, ?_⟩
      · rintro cls d G1 ⟨y, γ1, ef, S1, er, edd⟩
        unfold fSaidX at h
        rw [ef] at h
        cases ez : (kw y.c).bind fun w => sayX many pm pb w y.fs with
        | none => simp only [ez] at h; exact h.elim
        | some z =>
          simp only [ez] at h
          obtain ⟨wd, k1, k2⟩ := Option.bind_eq_some_iff.mp ez
          subst er
          have li : i < Ng.length := (List.getElem?_eq_some_iff.mp hie).1
          have lj : j < Ng.length := (List.getElem?_eq_some_iff.mp hjw).1
          have ls : (L2.start Ng [V.ref f]).length = Ng.length := by
            have l1 : 0 < Ng.length := (List.getElem?_eq_some_iff.mp hNg).1
            unfold L2.start
            simp only [List.length_append, List.length_map, List.length_replicate, List.length_cons, List.length_nil]
            omega
          refine ⟨true, hex _ _ k1, fun _ a2 na => ⟨y.c, wd, z, y.fs, rfl, hK _ _ k1, ?_, nij, ?_, S1.env.tab, ?_, fun e0 => hcm _ (by rw [k1, e0]), k2, fun H2 kp t2 => ?_⟩, fun z => by cases z⟩
          · exact List.getElem?_set_self (by rw [ls]; exact li)
          · rw [List.length_set, ls]; exact lj
          · rcases edd with ⟨e1, e2⟩ | ⟨dx, vs, e1, e2, rf⟩
            · exact .inl ⟨e2, e1⟩
            · exact .inr ⟨dx, vs, M, e1, e2, rf⟩
          · have ks : ∀ b o, G1 b = some o → isTbl o = false → H2 b = some o := fun b o e t => (kp b o e id).1 t
            exact h (.str z) H2 ⟨S1.env.lam ks kp t2, ((kN _).trans S1.keep).trans (kp.mono fun _ z => z.elim), S1.pat⟩ (fun z => by cases z) (.str _)
      · unfold fSaidX at h
        cases ef : fb γ with
        | st => rw [ef] at h; exact h
        | ex y g1 => exact fun cls d G1 S1 r1 => ⟨y, g1, ef, S1, r1⟩
        | ok d γ1 =>
          rw [ef] at h
          intro v G2 S1 P1 r1
          cases ed : dRepr d with
          | none => simp only [ed, liftO] at h; exact h.elim
          | some d2 =>
            simp only [ed, liftO] at h
            obtain ⟨pd, k1, k2⟩ := Option.bind_eq_some_iff.mp ed
            obtain ⟨y, k3, rfl⟩ := Option.map_eq_some_iff.mp k2
            exact ⟨v, pd, y, rfl, r1.s.dp k1, data_noDict k1, k3, h (.str y) G2 ⟨S1.env, (kN _).trans S1.keep, S1.pat⟩ (fun z => by cases z) (.str _)⟩
  refine wpAny_call (codeAny_mono rc fun r s2 hq => ?_)
  match r, hq with
  | .error e, hq => exact (show False from hq).elim
  | .ok (.ret u), hq => exact I1.after hq
  | .ok .next, hq => exact hq.elim
  | .ok .brk, hq => exact hq.elim
  | .ok .cont, hq => exact hq.elim
end
end FC
namespace FC
open PySem PySem.Spec PyProof.Rows L2
/-! ### tuples of ints that are kept as they are made: D.ft -/
/-! ### t.index(n) -/
end FC
namespace FC
open PySem PySem.Spec PyProof.Rows L2
/-! ### facts of the exceptions -/
theorem kdB_at {xs : List Str} {b : Str} {K : PySem.W.Frag} (h : kdB xs b K = true) {c : Nat} (hc : c < xs.length) : ExcD K (He.ga K (xs.getD c "")) ∧ PySem.W.kitOne K (.ref (He.ga K (xs.getD c ""))) (.type "ValueError") = some true ∧
    PySem.W.exmOne K (.ref (He.ga K (xs.getD c ""))) (.ref (He.ga K b)) = some true ∧ ∀ j, j < xs.length → PySem.W.kitOne K (.ref (He.ga K (xs.getD c ""))) (.ref (He.ga K (xs.getD j ""))) = some (decide (c = j)) := by
  have h1 := List.all_eq_true.mp h c (List.mem_range.mpr hc)
  obtain ⟨a1, h1⟩ := Bool.and_eq_true_iff.mp h1
  obtain ⟨a2, h1⟩ := Bool.and_eq_true_iff.mp h1
  obtain ⟨a3, a4⟩ := Bool.and_eq_true_iff.mp h1
  exact ⟨exdB_ok a1, of_decide_eq_true a2, of_decide_eq_true a3, fun j hj => of_decide_eq_true (List.all_eq_true.mp a4 j (List.mem_range.mpr hj))⟩
/-- the word of the exception number c -/
def kwOf (n : Nat) (b : Nat → F Fl) (l c : Nat) : Option Str := if c < n then (match b c (padG l [.val (.cls 0)]) with
  | .ok (.ret (.val (.str w))) _ => some w
  | _ => none) else none
theorem kwOf_lt {n l c : Nat} {b : Nat → F Fl} {w : Str} (h : kwOf n b l c = some w) : c < n := by
  unfold kwOf at h
  split at h
  · assumption
  · cases h
theorem kwOf_at {n l c : Nat} {b : Nat → F Fl} {w : Str} (h : kwOf n b l c = some w) : ∃ g, b c (padG l [.val (.cls 0)]) = .ok (.ret (.val (.str w))) g := by
  unfold kwOf at h
  rw [if_pos (kwOf_lt h)] at h
  split at h
  · rename_i w2 g e
    cases h
    exact ⟨g, e⟩
  · cases h
def kwChk (n : Nat) (b : Nat → F Fl) (l : Nat) (many : Str) (cm : Nat) : Bool := (List.range n).all fun c => kwOf n b l c != some many || c == cm
theorem kwChk_ok {n l cm : Nat} {b : Nat → F Fl} {many : Str} (h : kwChk n b l many cm = true) : ∀ c, kwOf n b l c = some many → c = cm := fun c e => by
  have z := List.all_eq_true.mp h c (List.mem_range.mpr (kwOf_lt e))
  rw [e] at z
  simpa using z
section
variable {X : Cx} {C : Ct} {W : WX} {m p : Bool} {fb : F D}
theorem fx_saidY {fbs : List Fb} {fn lf : List DefP} {k kk jl : Nat} {d : DefP} {x a e nE kn wv many pm pb : Str} {g fk : Addr} {pg params : Arguments} {bg : List Stmt} {sg scope : Scope} {Ng : List Str} {i j cm : Nat} {CS : Addr} {body : Expr} {kw : Nat → Option Str} {x1 j1 j2 j3 : Nat}
    {q1 q2 q3 q4 q5 q6 q7 q8 p1 p2 p3 p4 p5 p6 p7 p8 p9 p10 p11 p12 p13 p14 p15 p16 p17 p18 p19 p20 p21 p22 : Pos} {lpos pn pos : Pos}
    (S : Sy fbs fn lf X.K X.mg X.base) (hd : lf[jl]? = some d) (eT : C.T = lf.map fun d => (tabA X.K (d.ad X.K), lamQ d)) (eK : C.K = X.K) (ec : X.env.code = .ref (codeA X.K (d.ad X.K))) (eq : X.env.qual ++ "<lambda>" = lamQ d)
    (Fd : ∃ fd, FunD X.K x x pg bg sg [] [] g fd) (hb : ∀ (kV doc pm : Value) (an : Option Addr) (cdv ct : Value) (us : List Value), us.length = 1 → bindArgs (PySem.W.fnOf x x pg bg sg .none kV doc pm an cdv ct) ⟨us, []⟩ = pure ([a].zip us))
    (eb : bg = [.Try [.Return (some (.Call (.Name "repr" q1) [.Call (.Name a q2) [] [] q3] [] q4)) q5] [.ExceptHandler (some (.Name nE q6)) (some e) [.Assign [.Name wv p1] (.Call (.Name kn p2) [.Name e p3] [] p4) p5, .Return (some (.IfExp (.Compare (.Name wv p6) [.Eq] [.Constant (.str many) j1 p7] p8)
        (.BinOp (.Constant (.str pm) j2 p9) .Add (.Call (.Name "repr" p10) [.Tuple [.Attribute (.Name e p11) "amount" p12, .Attribute (.Name e p13) "limit" p14] x1 p15] [] p16) p17)
        (.BinOp (.Constant (.str pb) j3 p18) .Add (.Name wv p19) p20) p21)) p22] q7] [] [] q8])
    (Sg : FnScope Ng [a] sg) (hNg : Ng[0]? = some a) (hva : Vis sg a) (hie : Ng[i]? = some e) (hle : sg.names.lookup e = some .local) (hjw : Ng[j]? = some wv) (hlw : sg.names.lookup wv = some .local) (nij : i ≠ j)
    (hge : sg.names.lookup nE = some .globalImplicit) (hme : X.mg nE = some (.ref CS)) (hgr : sg.names.lookup ("repr" : Str) = some .globalImplicit) (hmr : X.mg "repr" = none) (hgk : sg.names.lookup kn = some .globalImplicit) (hmk : X.mg kn = some (.ref fk)) (hkk : PySem.W.keepIn X.K (.ref fk) = true)
    (hK : ∀ c wd, kw c = some wd → KindP X.prog X.w X.K X.mg X.base C kk fk c wd) (hex : ∀ c wd, kw c = some wd → PySem.W.exmOne X.K (.ref (C.ec c)) (.ref CS) = some true) (hcm : ∀ c, kw c = some many → c = cm) (hxf : xfdB X.K (C.ec cm) = true)
    (hg : Gl X x) (hm : X.mg x = some (.ref g)) (hk : PySem.W.keepIn X.K (.ref g) = true)
    (hr : RoomG (k + 2) X.A) (hkl : kk ≤ k) (L : LamX.LamS X.env.scope scope) (nd : defaultsOf params X.env = ([], []))
    (bd : ∀ (q : Str) (cl : List (Str × Addr)) (pm cv ctv : Value), bindArgs (PySem.W.kla_fn "<lambda>" q params body scope cl pm cv ctv) ⟨[], []⟩ = pure [])
    (hbody : ∀ (E : XK) (A : Around) (out : List Env) (t : Shared) (G : Hp) (f c' : Addr), RoomG k (A.deeper (LamX.lamEnv X scope t.heap.objs.size f c')) → FX C (WofE E) m p (LamX.lamCx X A out t G E scope f c') body fb)
    (hdb : (x == ("__debug__" : Str)) = false := by decide) (hd0 : (a == ("__debug__" : Str)) = false := by decide) (hcd : (a == ("__classdict__" : Str)) = false := by decide) (hde : (nE == ("__debug__" : Str)) = false := by decide)
    (hd1 : (e == ("__debug__" : Str)) = false := by decide) (hd2 : (e == ("__classdict__" : Str)) = false := by decide) (hd3 : (kn == ("__debug__" : Str)) = false := by decide) (hd4 : (wv == ("__debug__" : Str)) = false := by decide) (hd5 : (wv == ("__classdict__" : Str)) = false := by decide) (h40 : 40 ≤ k := by decide) :
    FX C W true false X (.Call (.Name x pn) [.Lambda params body scope lpos] [] pos) (fSaidX kw (sayX many pm pb) fb) := by
  obtain ⟨fd, Fd⟩ := Fd
  obtain ⟨x1, x2⟩ := Bool.and_eq_true_iff.mp hxf
  obtain ⟨x2, x3⟩ := Bool.and_eq_true_iff.mp x2
  have hmem : d ∈ lf := List.mem_of_getElem? hd
  refine fx_saidX (c := codeA X.K (d.ad X.K)) (P := tabA X.K (d.ad X.K)) Fd eb Sg hNg hva hie hle hjw hlw nij hge hme hgr hmr hgk hmk hkk hK hex hcm (xfB_ok x1) (He.eqO_ok x2) (He.eqO_ok x3) hg hm hk (Fd.bindsN hb) eK (S.tb d hmem) ec ?_ ?_ hr hkl L nd bd hbody hdb hd0 hcd hde hd1 hd2 hd3 hd4 hd5 h40
  · rw [eT, eq]
    exact lam_in hd
  · rw [eT, eq]
    exact lam_one hmem S.nd
end
/-! ### mirrors: said -/
theorem wp_saidX {γ : Gm} {E : Ex → Gm → Prop} {kw : Nat → Option Str} {say : Str → List (Str × D) → Option Str} {fb : F D} {Q : D → Gm → Prop} (h : Wp (fb γ) (fun d g => ∃ y, dRepr d = some y ∧ Q y g) fun e g => ∃ z, ((kw e.c).bind fun w => say w e.fs) = some z ∧ Q (.str z) g) : Wp (fSaidX kw say fb γ) Q E := by
  have hr := h.run
  refine ⟨?_⟩
  unfold fSaidX
  cases e : fb γ with
  | ok d g =>
    rw [e] at hr
    obtain ⟨y, h1, h2⟩ := hr
    simp only [h1, liftO]
    exact h2
  | ex x g =>
    rw [e] at hr
    obtain ⟨z, h1, h2⟩ := hr
    simp only [h1]
    exact h2
  | st => rw [e] at hr; exact hr.elim
end FC
namespace FC
open PySem PySem.Spec PyProof.Rows L2
/-! ### an own exception over ValueError whose __init__ says super().__init__(text) and keeps two ints -/
section
open PySem.W PySem.HandSPX
variable {prog : Program} {w : World} {A : Around} {E : Value → Shared → Prop} {h : Heap} {g : Array GenState} {d : Drawn} {t : Nat} {os : OsState}
variable {nm q : Str} {C N : Addr} {bs bm : List Value} {hdct : Bool} {sn : List Str} {sub : List Value} {ab : Bool} {col : Option Bool} {dd : Option Addr} {k0 k1 k2 k3 k5 : Option Value}
/-- ValueError.__init__ bound to e is called -/
theorem mw_call {u e t0 : Addr} {rest : List Value} {Q : Value → Shared → Prop} (hbm : refsVE bm = true)
    (hC : h.get? C = some (excClassObj nm q C N bs bm hdct sn sub ab col dd k0 k1 k2 k3 k5 "ValueError.__new__")) (he : h.get? e = some (excO C t0)) (hu : h.get? u = some (kxs_mw "ValueError.__init__" e)) (hl : rest.length ≤ sizeLine)
    (hq : ∀ h1 t1, (∀ b o, b ≠ e → h.get? b = some o → h1.get? b = some o) → h1.get? e = some (excO C t1) → Q .none ⟨h1, g, d, t, os⟩) :
    wpAny (model prog w) A (call (.ref u) rest) Q E ⟨h, g, d, t, os⟩ := by
  refine wpAny_call (codeAny_of_tree ?_)
  show wpAny _ A.in1 (callAny (.ref u) ⟨rest, []⟩) _ _ _
  unfold callAny
  refine wpAny_bind (wpAny_load hu ?_)
  dsimp only [kxs_mw]
  refine W.KFB.if_so (by decide) ?_
  refine wpAny_bind (check_bound_init F.excBase_ValueError.toExcCallFacts hC he rfl ?_)
  refine wpAny_bind (wpAny_pure (wpAny_pure ?_))
  refine ⟨Code.quiet_builtin _ (by decide +kernel), codeAny_builtin F.excBase_ValueError.initEntry ?_⟩
  rw [Around.under_plainId F.excBase_ValueError.init.plain]
  wp_walk
  refine hq _ h.objs.size (fun b o nb eb => ?_) ?_
  · exact (Heap.get?_update_other _ _ (Ne.symm nb)).trans (Heap.get?_push_of_some _ eb)
  · exact Heap.get?_update_self _ (Heap.get?_push_of_some _ he) rfl
abbrev tmTxt (x1 mid x2 : Str) (j : Nat) (r1 r2 r3 r4 r5 r6 : Pos) : Expr := .JoinedStr [.FormattedValue (.Name x1 r1) (-1) none r2, .Constant (.str mid) j r3, .FormattedValue (.Name x2 r4) (-1) none r5] r6
/-- super().__init__(arg), arg keeps the heap -/
theorem sup_call {body : List Stmt} {qF : Str} {scope : Scope} {L fI cda cc e t0 : Addr} {m mg mb : Str → Option Value} {K : Frag} {fd : FuncData} {ar : Arg} {oc ccl cl : Value} {od cdd cld : Option Addr} {osl ccs csl : Array (Option Value)} {vs : Array Value} {file : Str} {tf : Tok} {cdD : ClassData} {pl : Sem Bool} {x1 mid x2 : Str} {j : Nat} {r1 r2 r3 r4 r5 r6 p0 p1 p2 p4 : Pos} {Q : Value → Shared → Prop}
    (X : K.In h) (hns : h.Ns L m) (hself : m ar.arg = some (.ref e)) (he : h.get? e = some (excO C t0)) (lkf : K.lookup fI = some ⟨oc, od, .func fd, osl⟩) (hp : (fd.params.posonlyargs ++ fd.params.args).head? = some ar)
    (hcode : K.lookup cda = some ⟨ccl, cdd, .fields vs, ccs⟩) (hvs : vs[2]? = some (.str file tf)) (hfile : ((prog.main.file : Str) == file) = true) (htop : (prog.main.scope.names.lookup ("super" : Str)).isSome = false)
    (hcell : K.lookup cc = some ⟨cl, cld, .cell (some (.ref C)), csl⟩) (hD : clsIn K C = some cdD) (hsub : mroIn K C (.ref C) = some true) (hg : h.Ns mainGlobals mg) (hmg : mg "super" = none) (hbn : h.Ns builtinsNs mb) (hmb : mb "super" = some (.type "super"))
    (hks : scope.names.lookup ("super" : Str) = some .globalImplicit) (hkc : scope.names.lookup ("__class__" : Str) = some .free) (hka : scope.names.lookup ar.arg = some .local) (hk : scope.kind = .function)
    (cst : nsIn K cStatics "thirdparty.any" = some none) (hsi : ks_superIn K C C "__init__" = some (some (.builtin "ValueError.__init__"))) (hVE : subIn K (.ref C) (.type "ValueError") = some true)
    (hbm : refsVE bm = true) (hC : h.get? C = some (excClassObj nm q C N bs bm hdct sn sub ab col dd k0 k1 k2 k3 k5 "ValueError.__new__"))
    (hev : eval (.Call (.Attribute (.Call (.Name "super" p0) [] [] p1) "__init__" p2) [tmTxt x1 mid x2 j r1 r2 r3 r4 r5 r6] [] p4) (ksEnv qF scope L fI (.ref cda) cc) = (do
      let ov ← attributeBase (.Call (.Name "super" p0) [] [] p1) "__init__" (ksEnv qF scope L fI (.ref cda) cc) (eval (.Call (.Name "super" p0) [] [] p1) (ksEnv qF scope L fI (.ref cda) cc))
      standAt p2.atName
      let (f, first) ← holding [ov] (getMethod ov "__init__" pl)
      callWith p4 f first (backTo p4 (starEach [tmTxt x1 mid x2 j r1 r2 r3 r4 r5 r6] (ksEnv qF scope L fI (.ref cda) cc))) []))
    (harg : ∀ (h1 : Heap) (t1 : Nat), (∀ b o, h.get? b = some o → h1.get? b = some o) → wpAny (model prog w) A (eval (tmTxt x1 mid x2 j r1 r2 r3 r4 r5 r6) (ksEnv qF scope L fI (.ref cda) cc)) (fun _ s1 => ∃ t2, s1 = ⟨h1, g, d, t2, os⟩) E ⟨h1, g, d, t1, os⟩)
    (hq : ∀ h1 t1 tk1, (∀ b o, b ≠ e → h.get? b = some o → h1.get? b = some o) → h1.get? e = some (excO C t1) → Q .none ⟨h1, g, d, tk1, os⟩) :
    PySem.wpAt (model prog w) A (.func body (ksEnv qF scope L fI (.ref cda) cc)) (eval (.Call (.Attribute (.Call (.Name "super" p0) [] [] p1) "__init__" p2) [tmTxt x1 mid x2 j r1 r2 r3 r4 r5 r6] [] p4) (ksEnv qF scope L fI (.ref cda) cc)) Q E ⟨h, g, d, t, os⟩ := by
  obtain ⟨oD, hD1, hD2⟩ : ∃ oD, h.get? C = some oD ∧ oD.data = .cls cdD := by
    unfold clsIn at hD
    split at hD
    · rename_i ho
      cases hD
      exact ⟨_, X _ _ ho, rfl⟩
    · cases hD
  refine ks_wpAt_MethodCall (pl := pl) ?_ hev
  refine ks_wpAt_super_base (env := ksEnv qF scope L fI (.ref cda) cc) hks hkc (by decide) rfl (X _ _ lkf) rfl hp rfl (X _ _ hcode) rfl hvs hfile htop ?_
  refine ks_loadName_global hk hks (Calls.loadGlobal_builtin (env := ksEnv qF scope L fI (.ref cda) cc) hg hmg hbn hmb ⟨rfl, ?_⟩)
  refine wpAny_loadName_free hk hkc rfl ⟨_, X _ _ hcell, rfl⟩ ?_
  refine wpAny_loadName_local hk hka hns hself ?_
  refine ks_wpAny_isType_cls hD1 hD2 ⟨rfl, ?_⟩
  refine ks_wpAny_call_super hD1 hD2 he rfl (fun c z => nomatch z) (looks_mroIn X hsub) (fun h1 so kp => ?_)
  have X1 : K.In h1 := X.keeps kp
  have IA : InstAt h1 e (excO C t0) C none := ⟨kp _ _ he, rfl, rfl, trivial⟩
  have al : alongIn K "__init__" ((cdD.mro.dropWhile (· != .ref C)).drop 1) = some (some (.builtin "ValueError.__init__")) := by
    unfold ks_superIn at hsi
    rw [hD] at hsi
    exact hsi
  refine kxs_getMethod kxs_ValueError so (looks_opaque X1 cst) (l₀ := cdD.mro) (fun A2 Q2 E2 s2 k z => wpAny_bind ((looks_clsIn X1 hD) A2 _ E2 s2 k (wpAny_pure z))) rfl X1 al (IA.type.andThen (looks_subIn X1 hVE)) (ks_ne X1 IA hD) (by decide) ?_
  have kp2 : ∀ b o, h.get? b = some o → (h1.push (kxs_mw "ValueError.__init__" e)).get? b = some o := fun b o z => Heap.get?_push_of_some _ (kp b o z)
  show wpAny _ _ (callWith p4 (.ref h1.objs.size) [] (backTo p4 (starEach [tmTxt x1 mid x2 j r1 r2 r3 r4 r5 r6] (ksEnv qF scope L fI (.ref cda) cc))) []) Q E _
  show wpAny _ _ (callWith p4 (.ref h1.objs.size) [] ((false, eval (tmTxt x1 mid x2 j r1 r2 r3 r4 r5 r6) (ksEnv qF scope L fI (.ref cda) cc)) :: backTo p4 (starEach [] (ksEnv qF scope L fI (.ref cda) cc))) []) Q E _
  refine kxs_callWith (i := "ValueError.__init__") (x := e) rfl (Calls.evalArgs_plain ?_)
  show wpAny _ _ (spliced ((false, eval (tmTxt x1 mid x2 j r1 r2 r3 r4 r5 r6) (ksEnv qF scope L fI (.ref cda) cc)) :: backTo p4 (starEach [] (ksEnv qF scope L fI (.ref cda) cc)))) _ E _
  refine Calls.spliced_cons (wpAny_mono (harg _ _ kp2) (fun v s1 z => ?_) fun _ _ z => z)
  obtain ⟨t2, rfl⟩ := z
  refine Calls.spliced_nil ⟨Heap.get?_push_size _ rfl, ?_⟩
  exact mw_call hbm (kp2 _ _ hC) (kp2 _ _ he) (Heap.get?_push_size _ rfl) (by rw [sizeLine_eq]; show 1 ≤ _; omega) fun h2 t1 k2 e2 => hq h2 t1 _ (fun b o nb z => k2 b o nb (kp2 b o z)) e2
/-- self.x1, self.x2 = x1, x2 -/
theorem tm_keep {env : Env} {L e t0 : Addr} {m : Str → Option Value} {K : Frag} {cd : ClassData} {sf x1 x2 : Str} {v1 v2 : Value} {ks kt : Nat} {p1 p2 p3 p4 p5 p6 p7 p8 p9 : Pos} {Q : Flow → Shared → Prop}
    (hh : A.handled = none) (X : K.In h) (hk : env.scope.kind = .function) (eL : env.locals = L) (hns : h.Ns L m) (ls : env.kindOf sf = some .local) (l1 : env.kindOf x1 = some .local) (l2 : env.kindOf x2 = some .local) (vs : m sf = some (.ref e)) (e1 : m x1 = some v1) (e2 : m x2 = some v2)
    (ds : (sf == ("__debug__" : Str)) = false) (d1 : (x1 == ("__debug__" : Str)) = false) (d2 : (x2 == ("__debug__" : Str)) = false) (ne : x1 ≠ x2)
    (hKe : K.lookup e = none) (he : h.get? e = some (excO C t0)) (eLne : L ≠ e) (hcd : clsIn K C = some cd) (hbm : refsVE cd.mro = true) (hdd : cd.hasDict = true) (sa : findIn K (.ref C) "__setattr__" = some (some (.builtin "object.__setattr__"))) (n1 : findIn K (.ref C) x1 = some none) (n2 : findIn K (.ref C) x2 = some none)
    (hs : swapsWithSole [.Tuple [.Attribute (.Name sf p1) x1 p2, .Attribute (.Name sf p3) x2 p4] kt p5] (.Tuple [.Name x1 p6, .Name x2 p7] ks p8) p9.line env = pure false) (hw : swappedStores [.Tuple [.Attribute (.Name sf p1) x1 p2, .Attribute (.Name sf p3) x2 p4] kt p5] (.Tuple [.Name x1 p6, .Name x2 p7] ks p8) env = pure none)
    (hq : ∀ h1 tk1 dx, (∀ b o, b ≠ e → h.get? b = some o → h1.get? b = some o) → h.objs.size ≤ dx → dx ≠ e → h1.get? e = some { cls := .ref C, dict := some dx, data := .fields #[.ref t0, .none, .none, .none, .bool false, .none] } →
      h1.Ns1 dx (fun y => if y = x2 then some v2 else if y = x1 then some v1 else none) → Q .next ⟨h1, g, d, tk1, os⟩) :
    wpAny (model prog w) A (exec (.Assign [.Tuple [.Attribute (.Name sf p1) x1 p2, .Attribute (.Name sf p3) x2 p4] kt p5] (.Tuple [.Name x1 p6, .Name x2 p7] ks p8) p9) env) Q E ⟨h, g, d, t, os⟩ := by
  subst eL
  have ld : ∀ {h1 : Heap} {t1 : Nat} {x : Str} {v : Value} {pp : Pos} {Q2 : Value → Shared → Prop}, h1.Ns env.locals m → env.kindOf x = some .local → (x == ("__debug__" : Str)) = false → m x = some v → Q2 v ⟨h1, g, d, t1, os⟩ → wpAny (model prog w) A (eval (.Name x pp) env) Q2 E ⟨h1, g, d, t1, os⟩ :=
    fun {h1 t1 x v pp Q2} a b c z y => wpAny_Name (wpAny_loadName_local hk b a z y) c
  refine wpAny_Assign_stores ?_ hs hw
  refine wpAny_Tuple_spliced ?_
  show wpAny _ _ (spliced [(false, eval (.Name x1 p6) env), (false, eval (.Name x2 p7) env)]) _ _ _
  refine Calls.spliced_cons (ld hns l1 d1 e1 ?_)
  refine Calls.spliced_cons (ld hns l2 d2 e2 ?_)
  refine Calls.spliced_nil ⟨by rw [sizeLine_eq]; show 2 ≤ _; omega, ?_⟩
  show wpAny _ _ (assign (.Tuple [.Attribute (.Name sf p1) x1 p2, .Attribute (.Name sf p3) x2 p4] kt p5) env (.ref h.objs.size)) _ _ _
  refine wpAny_assign_Tuple hh ⟨_, Heap.get?_push_size _ rfl, rfl, 0, rfl⟩ rfl rfl fun h1 kx => ?_
  have k1 : ∀ b o, h.get? b = some o → h1.get? b = some o := fun b o z => kx b o (Nat.ne_of_lt (Heap.lt_size (Heap.get?_push_of_some _ z))) (Heap.get?_push_of_some _ z)
  have he1 := k1 _ _ he
  have ns1 : h1.Ns env.locals m := by
    obtain ⟨oL, es, ep, hL, r⟩ := hns
    exact ⟨oL, es, ep, k1 _ _ hL, r⟩
  show wpAny _ _ (assignInOrder [assign (.Attribute (.Name sf p1) x1 p2) env, assign (.Attribute (.Name sf p3) x2 p4) env] [v1, v2]) _ _ _
  refine assignInOrder_cons ?_
  rw [assign_Attribute]
  refine wpAny_bind (wpAny_holding (ld ns1 ls ds vs ?_))
  refine wpAny_bind (wpAny_standAt (wpAny_bind (wpAny_holding ?_)))
  refine set_plain (X.keeps k1) (ox := excO C t0) (od := none) ⟨he1, rfl, rfl, trivial⟩ sa ?_
  refine exc_osa (X.keeps k1) he1 hcd hbm hdd n1 fun h2 tk2 dx k2 dlo dne hx hn => ?_
  refine wpAny_release ?_
  refine assignInOrder_cons ?_
  rw [assign_Attribute]
  have ns2 : h2.Ns env.locals m := by
    obtain ⟨oL, es, ep, hL, r⟩ := ns1
    exact ⟨oL, es, ep, k2 _ _ eLne hL, r⟩
  refine wpAny_bind (wpAny_holding (ld ns2 ls ds vs ?_))
  refine wpAny_bind (wpAny_standAt (wpAny_bind (wpAny_holding ?_)))
  have wi : Within (fun y => if y = x1 then some v1 else none) [x1] := fun y z => by
    by_cases q : y = x1
    · rw [q]; exact List.mem_singleton.mpr rfl
    · exact absurd (show (if y = x1 then some v1 else none) = none from if_neg q) z
  obtain ⟨oD, _, _, hoD, _, _⟩ := hn.count wi
  have X2 : K.In h2 := fun b o z => by
    have z1 := k1 _ _ (X b o z)
    by_cases q : b = e
    · rw [q, hKe] at z
      cases z
    · exact k2 _ _ q z1
  refine set_plain X2 (ox := { cls := .ref C, dict := some dx, data := .fields #[.ref t0, .none, .none, .none, .bool false, .none] }) (od := some oD) ⟨hx, rfl, rfl, hoD⟩ sa ?_
  refine PySem.OEX.osa_old X2 hx hn wi (by show 1 ≤ 1000; decide) hcd hbm hdd n2 fun h3 tk3 k3 hn3 => ?_
  refine wpAny_release ?_
  refine assignInOrder_nil ?_
  exact hq h3 _ dx (fun b o nb z => k3 b o (fun q => by
      have z1 := Heap.lt_size (k1 _ _ z)
      rw [q] at z1
      exact absurd dlo (Nat.not_le_of_lt z1)) (k2 b o nb (k1 b o z))) (Nat.le_trans (Nat.le_of_lt (Heap.lt_size (kx h.objs.size _ (Nat.ne_of_lt (Heap.lt_size (Heap.get?_push_size h rfl))) (Heap.get?_push_size h rfl)))) dlo) dne (k3 _ _ (Ne.symm dne) hx) hn3
/-- the text of the two ints is told: the heap stays -/
theorem tm_text {env : Env} {m : Str → Option Value} {x1 mid x2 : Str} {i j : Int} {t1 t2 : Tok} {k : Nat} {r1 r2 r3 r4 r5 r6 : Pos} (hk : env.scope.kind = .function) (hns : h.Ns env.locals m) (l1 : env.kindOf x1 = some .local) (l2 : env.kindOf x2 = some .local)
    (e1 : m x1 = some (.int i t1)) (e2 : m x2 = some (.int j t2)) (d1 : (x1 == ("__debug__" : Str)) = false) (d2 : (x2 == ("__debug__" : Str)) = false) (b1 : i.natAbs.log2 < 1920) (b2 : j.natAbs.log2 < 1920)
    (z1 : (Str.empty ++ toString i : Str).length ≤ sizeLine) (z2 : (Str.empty ++ toString i ++ mid : Str).length ≤ sizeLine) (z3 : (Str.empty ++ toString i ++ mid ++ toString j : Str).length ≤ sizeLine) :
    wpAny (model prog w) A (eval (tmTxt x1 mid x2 k r1 r2 r3 r4 r5 r6) env) (fun _ s1 => ∃ t2, s1 = ⟨h, g, d, t2, os⟩) E ⟨h, g, d, t, os⟩ := by
  refine wpAny_JoinedStr ?_
  show Joins _ _ _ [eval (.FormattedValue (.Name x1 r1) (-1) none r2) env, eval (.Constant (.str mid) k r3) env, eval (.FormattedValue (.Name x2 r4) (-1) none r5) env] _ _ _
  refine wpAny_FormattedValue_plain (wpAny_Name (wpAny_loadName_local hk l1 hns e1 (wpAny_formatField_int b1 ⟨_, _, rfl, z1, ?_⟩)) d1)
  refine Calls.Constant_str ⟨_, _, rfl, z2, ?_⟩
  refine wpAny_FormattedValue_plain (wpAny_Name (wpAny_loadName_local hk l2 hns e2 (wpAny_formatField_int b2 ⟨_, _, rfl, z3, ?_⟩)) d2)
  exact ⟨z3, _, rfl⟩
abbrev tmBody (sf x1 mid x2 : Str) (k ks kt : Nat) (r1 r2 r3 r4 r5 r6 p0 p1 p2 p4 p5 c1 c2 c3 c4 c5 c6 c7 c8 c9 : Pos) : List Stmt := [.Expr (.Call (.Attribute (.Call (.Name "super" p0) [] [] p1) "__init__" p2) [tmTxt x1 mid x2 k r1 r2 r3 r4 r5 r6] [] p4) p5,
  .Assign [.Tuple [.Attribute (.Name sf c1) x1 c2, .Attribute (.Name sf c3) x2 c4] kt c5] (.Tuple [.Name x1 c6, .Name x2 c7] ks c8) c9]
theorem too_init {R : Result → Shared → Prop} {fI cda cc e t0 : Addr} {K : Frag} {mg mb : Str → Option Value} {nm0 qF sf x1 mid x2 : Str} {params : Arguments} {scope : Scope} {dV kV doc pmv ct oc ccl cl : Value} {an od cdd cld : Option Addr} {osl ccs csl : Array (Option Value)} {vs : Array Value} {file : Str} {tf : Tok} {cd : ClassData} {pl : Sem Bool} {ar : Arg}
    {i j : Int} {ti tj : Tok} {k ks kt : Nat} {r1 r2 r3 r4 r5 r6 p0 p1 p2 p4 p5 c1 c2 c3 c4 c5 c6 c7 c8 c9 : Pos}
    (hroom : A.depth < recursionLimit) (hh : A.handled = none) (X : K.In h) (lim : h.NoLimit) (hKe : K.lookup e = none) (he : h.get? e = some (excO C t0))
    (lk : K.lookup fI = some ⟨oc, od, .func (ksFn nm0 qF params (tmBody sf x1 mid x2 k ks kt r1 r2 r3 r4 r5 r6 p0 p1 p2 p4 p5 c1 c2 c3 c4 c5 c6 c7 c8 c9) scope dV kV doc pmv an (.ref cda) ct cc), osl⟩) (hcd : codeIn K (.ref cda) qF = true)
    (hbind : BindsTo ⟨h, g, d, t, os⟩ (ksFn nm0 qF params (tmBody sf x1 mid x2 k ks kt r1 r2 r3 r4 r5 r6 p0 p1 p2 p4 p5 c1 c2 c3 c4 c5 c6 c7 c8 c9) scope dV kV doc pmv an (.ref cda) ct cc) ⟨[.ref e, .int i ti, .int j tj], []⟩ [(sf, .ref e), (x1, .int i ti), (x2, .int j tj)])
    (hp : (params.posonlyargs ++ params.args).head? = some ar) (har : ar.arg = sf) (nf1 : sf ≠ x1) (nf2 : sf ≠ x2) (n12 : x1 ≠ x2)
    (hco : scope.isCoroutine = false) (hgen : scope.isGenerator = false) (hk : scope.kind = .function) (nocell : ∀ y ∈ scope.names, y.2 ≠ .cell) (ls : scope.names.lookup sf = some .local) (l1 : scope.names.lookup x1 = some .local) (l2 : scope.names.lookup x2 = some .local)
    (ds : (sf == ("__debug__" : Str)) = false) (d1 : (x1 == ("__debug__" : Str)) = false) (d2 : (x2 == ("__debug__" : Str)) = false)
    (hcode : K.lookup cda = some ⟨ccl, cdd, .fields vs, ccs⟩) (hvs : vs[2]? = some (.str file tf)) (hfile : ((prog.main.file : Str) == file) = true) (htop : (prog.main.scope.names.lookup ("super" : Str)).isSome = false)
    (hcell : K.lookup cc = some ⟨cl, cld, .cell (some (.ref C)), csl⟩) (hD : clsIn K C = some cd) (hdd : cd.hasDict = true) (hmr : refsVE cd.mro = true) (hsub : mroIn K C (.ref C) = some true) (hg : h.Ns mainGlobals mg) (hmg : mg "super" = none) (hbn : h.Ns builtinsNs mb) (hmb : mb "super" = some (.type "super"))
    (hks : scope.names.lookup ("super" : Str) = some .globalImplicit) (hkc : scope.names.lookup ("__class__" : Str) = some .free)
    (cst : nsIn K cStatics "thirdparty.any" = some none) (hsi : ks_superIn K C C "__init__" = some (some (.builtin "ValueError.__init__"))) (hVE : subIn K (.ref C) (.type "ValueError") = some true)
    (hbm : refsVE bm = true) (hC : h.get? C = some (excClassObj nm q C N bs bm hdct sn sub ab col dd k0 k1 k2 k3 k5 "ValueError.__new__"))
    (sa : findIn K (.ref C) "__setattr__" = some (some (.builtin "object.__setattr__"))) (n1 : findIn K (.ref C) x1 = some none) (n2 : findIn K (.ref C) x2 = some none)
    (hev : ∀ L, eval (.Call (.Attribute (.Call (.Name "super" p0) [] [] p1) "__init__" p2) [tmTxt x1 mid x2 k r1 r2 r3 r4 r5 r6] [] p4) (ksEnv qF scope L fI (.ref cda) cc) = (do
      let ov ← attributeBase (.Call (.Name "super" p0) [] [] p1) "__init__" (ksEnv qF scope L fI (.ref cda) cc) (eval (.Call (.Name "super" p0) [] [] p1) (ksEnv qF scope L fI (.ref cda) cc))
      standAt p2.atName
      let (f, first) ← holding [ov] (getMethod ov "__init__" pl)
      callWith p4 f first (backTo p4 (starEach [tmTxt x1 mid x2 k r1 r2 r3 r4 r5 r6] (ksEnv qF scope L fI (.ref cda) cc))) []))
    (hs0 : ∀ L, swapsWith (.Call (.Attribute (.Call (.Name "super" p0) [] [] p1) "__init__" p2) [tmTxt x1 mid x2 k r1 r2 r3 r4 r5 r6] [] p4) none p5.line (ksEnv qF scope L fI (.ref cda) cc) = pure false)
    (hs1 : ∀ L, swapsWithSole [.Tuple [.Attribute (.Name sf c1) x1 c2, .Attribute (.Name sf c3) x2 c4] kt c5] (.Tuple [.Name x1 c6, .Name x2 c7] ks c8) c9.line (ksEnv qF scope L fI (.ref cda) cc) = pure false)
    (hs2 : ∀ L, swappedStores [.Tuple [.Attribute (.Name sf c1) x1 c2, .Attribute (.Name sf c3) x2 c4] kt c5] (.Tuple [.Name x1 c6, .Name x2 c7] ks c8) (ksEnv qF scope L fI (.ref cda) cc) = pure none)
    (b1 : i.natAbs.log2 < 1920) (b2 : j.natAbs.log2 < 1920) (z1 : (Str.empty ++ toString i : Str).length ≤ sizeLine) (z2 : (Str.empty ++ toString i ++ mid : Str).length ≤ sizeLine) (z3 : (Str.empty ++ toString i ++ mid ++ toString j : Str).length ≤ sizeLine)
    (hq : ∀ h1 tk1 dx t1, (∀ b o, b ≠ e → h.get? b = some o → h1.get? b = some o) → h.objs.size ≤ dx → dx ≠ e → h1.get? e = some { cls := .ref C, dict := some dx, data := .fields #[.ref t1, .none, .none, .none, .bool false, .none] } →
      h1.Ns1 dx (fun y => if y = x2 then some (.int j tj) else if y = x1 then some (.int i ti) else none) → R (.ok (.ret .none)) ⟨h1, g, d, tk1, os⟩) :
    codeAny (model prog w) A (.call (.ref fI) ⟨[.ref e, .int i ti, .int j tj], []⟩) R ⟨h, g, d, t, os⟩ := by
  have lte := Heap.lt_size he
  refine ks_codeAny_call_defAt (fd := ksFn nm0 qF params (tmBody sf x1 mid x2 k ks kt r1 r2 r3 r4 r5 r6 p0 p1 p2 p4 p5 c1 c2 c3 c4 c5 c6 c7 c8 c9) scope dV kV doc pmv an (.ref cda) ct cc) (binds := [(sf, .ref e), (x1, .int i ti), (x2, .int j tj)]) hroom (X _ _ lk) rfl lim (codeRec_of X hcd) rfl hbind nocell ?_ (fun h1 hns kp => ?_) hco hgen hk
  · intro y hy
    simp only [List.mem_cons, List.not_mem_nil, or_false] at hy
    rcases hy with rfl | rfl | rfl
    · exact ls
    · exact l1
    · exact l2
  have m0 : (fun x => ([(sf, Value.ref e), (x1, .int i ti), (x2, .int j tj)] : List (Str × Value)).reverse.lookup x) sf = some (.ref e) := by
    show List.lookup sf [(x2, Value.int j tj), (x1, .int i ti), (sf, .ref e)] = _
    rw [List.lookup_cons, beq_eq_false_iff_ne.mpr nf2, List.lookup_cons, beq_eq_false_iff_ne.mpr nf1, List.lookup_cons, beq_self_eq_true]
  have m1 : (fun x => ([(sf, Value.ref e), (x1, .int i ti), (x2, .int j tj)] : List (Str × Value)).reverse.lookup x) x1 = some (.int i ti) := by
    show List.lookup x1 [(x2, Value.int j tj), (x1, .int i ti), (sf, .ref e)] = _
    rw [List.lookup_cons, beq_eq_false_iff_ne.mpr n12, List.lookup_cons, beq_self_eq_true]
  have m2 : (fun x => ([(sf, Value.ref e), (x1, .int i ti), (x2, .int j tj)] : List (Str × Value)).reverse.lookup x) x2 = some (.int j tj) := by
    show List.lookup x2 [(x2, Value.int j tj), (x1, .int i ti), (sf, .ref e)] = _
    rw [List.lookup_cons, beq_self_eq_true]
  have mine : ∀ {h2 : Heap}, (∀ b o, b ≠ e → h1.get? b = some o → h2.get? b = some o) → h2.Ns h.objs.size (fun x => ([(sf, Value.ref e), (x1, .int i ti), (x2, .int j tj)] : List (Str × Value)).reverse.lookup x) := fun {h2} k2 => by
    obtain ⟨oL, es, ep, hL, r⟩ := hns
    exact ⟨oL, es, ep, k2 _ _ (Nat.ne_of_gt lte) hL, r⟩
  have keepN : ∀ {a : Addr} {mm : Str → Option Value} {h2 : Heap}, h.Ns a mm → (∀ b o, h.get? b = some o → h2.get? b = some o) → h2.Ns a mm := fun z kk => z.keeps kk
  refine ks_wpAt_execs_cons (ks_wpAt_Expr_any ?_ (by
    show (scope.kind == .module && _) = false
    rw [hk]
    rfl) (hs0 _))
  refine sup_call (L := h.objs.size) (fd := ksFn nm0 qF params (tmBody sf x1 mid x2 k ks kt r1 r2 r3 r4 r5 r6 p0 p1 p2 p4 p5 c1 c2 c3 c4 c5 c6 c7 c8 c9) scope dV kV doc pmv an (.ref cda) ct cc) (ar := ar) (X.keeps kp) hns (by rw [har]; exact m0) (kp _ _ he) lk hp hcode hvs hfile htop hcell hD hsub (keepN hg kp) hmg (keepN hbn kp) hmb hks hkc (by rw [har]; exact ls) hk cst hsi hVE hbm (kp _ _ hC) (hev _) (fun h2 t2 k2 => ?_) (fun h2 t1 tk1 k2 he2 => ?_)
  · exact tm_text hk (mine fun b o _ z => k2 b o z) l1 l2 m1 m2 d1 d2 b1 b2 z1 z2 z3
  · have ex : ∀ b o, K.lookup b = some o → h2.get? b = some o := fun b o z => k2 b o (fun y => by rw [y, hKe] at z; cases z) (kp b o (X b o z))
    refine ks_wpAt_execs_cons (wpAt_of_wpAny ?_)
    refine tm_keep (L := h.objs.size) hh ex hk rfl (mine k2) ls l1 l2 m0 m1 m2 ds d1 d2 n12 hKe he2 (Nat.ne_of_gt lte) hD hmr hdd sa n1 n2 (hs1 _) (hs2 _) fun h3 tk3 dx k3 dlo dne hx hn => ?_
    refine wpAt_of_wpAny (wpAny_execs_nil ?_)
    refine hq h3 tk3 dx t1 (fun b o nb z => k3 b o nb (k2 b o nb (kp b o z))) (Nat.le_trans ?_ dlo) dne hx hn
    have : h.objs.size < h2.objs.size := by
      obtain ⟨oL, es, ep, hL, r⟩ := mine k2
      exact Heap.lt_size hL
    exact Nat.le_of_lt this
end
end FC
namespace FC
open PySem PySem.Spec PyProof.Rows L2
/-- what the written part says of a class whose __init__ says super().__init__(text of two ints) and keeps them -/
structure TooK (P : Program) (K : PySem.W.Frag) (C fI : Addr) (sf x1 mid x2 : Str) (k ks kt : Nat) (r1 r2 r3 r4 r5 r6 p0 p1 p2 p4 p5 c1 c2 c3 c4 c5 c6 c7 c8 c9 : Pos) : Prop where
  T : OexC K C
  iC : PySem.W.findIn K (.ref C) "__init__" = some (some (.ref fI))
  tI : PySem.W.typeIn K (.ref fI) = some (.type "function")
  fn : ∃ (nm0 qF : Str) (params : Arguments) (scope : Scope) (dV kV doc pmv ct oc ccl cl : Value) (an od cdd cld : Option Addr) (osl ccs csl : Array (Option Value)) (vs : Array Value) (file : Str) (tf : Tok) (cda cc : Addr) (ar : Arg) (pl : Sem Bool),
    K.lookup fI = some ⟨oc, od, .func (PySem.W.ksFn nm0 qF params (tmBody sf x1 mid x2 k ks kt r1 r2 r3 r4 r5 r6 p0 p1 p2 p4 p5 c1 c2 c3 c4 c5 c6 c7 c8 c9) scope dV kV doc pmv an (.ref cda) ct cc), osl⟩ ∧ PySem.W.codeIn K (.ref cda) qF = true ∧
    (∀ u1 u2 u3 : Value, bindArgs (PySem.W.ksFn nm0 qF params (tmBody sf x1 mid x2 k ks kt r1 r2 r3 r4 r5 r6 p0 p1 p2 p4 p5 c1 c2 c3 c4 c5 c6 c7 c8 c9) scope dV kV doc pmv an (.ref cda) ct cc) ⟨[u1, u2, u3], []⟩ = pure [(sf, u1), (x1, u2), (x2, u3)]) ∧
    (params.posonlyargs ++ params.args).head? = some ar ∧ ar.arg = sf ∧ scope.isCoroutine = false ∧ scope.isGenerator = false ∧ scope.kind = .function ∧ (∀ y ∈ scope.names, y.2 ≠ .cell) ∧ scope.names.lookup sf = some .local ∧ scope.names.lookup x1 = some .local ∧ scope.names.lookup x2 = some .local ∧
    scope.names.lookup ("super" : Str) = some .globalImplicit ∧ scope.names.lookup ("__class__" : Str) = some .free ∧
    K.lookup cda = some ⟨ccl, cdd, .fields vs, ccs⟩ ∧ vs[2]? = some (.str file tf) ∧ ((P.main.file : Str) == file) = true ∧ (P.main.scope.names.lookup ("super" : Str)).isSome = false ∧ K.lookup cc = some ⟨cl, cld, .cell (some (.ref C)), csl⟩ ∧
    (∀ L, eval (.Call (.Attribute (.Call (.Name "super" p0) [] [] p1) "__init__" p2) [tmTxt x1 mid x2 k r1 r2 r3 r4 r5 r6] [] p4) (PySem.W.ksEnv qF scope L fI (.ref cda) cc) = (do
      let ov ← attributeBase (.Call (.Name "super" p0) [] [] p1) "__init__" (PySem.W.ksEnv qF scope L fI (.ref cda) cc) (eval (.Call (.Name "super" p0) [] [] p1) (PySem.W.ksEnv qF scope L fI (.ref cda) cc))
      standAt p2.atName
      let (f, first) ← holding [ov] (getMethod ov "__init__" pl)
      callWith p4 f first (backTo p4 (starEach [tmTxt x1 mid x2 k r1 r2 r3 r4 r5 r6] (PySem.W.ksEnv qF scope L fI (.ref cda) cc))) [])) ∧
    (∀ L, swapsWith (.Call (.Attribute (.Call (.Name "super" p0) [] [] p1) "__init__" p2) [tmTxt x1 mid x2 k r1 r2 r3 r4 r5 r6] [] p4) none p5.line (PySem.W.ksEnv qF scope L fI (.ref cda) cc) = pure false) ∧
    (∀ L, swapsWithSole [.Tuple [.Attribute (.Name sf c1) x1 c2, .Attribute (.Name sf c3) x2 c4] kt c5] (.Tuple [.Name x1 c6, .Name x2 c7] ks c8) c9.line (PySem.W.ksEnv qF scope L fI (.ref cda) cc) = pure false) ∧
    (∀ L, swappedStores [.Tuple [.Attribute (.Name sf c1) x1 c2, .Attribute (.Name sf c3) x2 c4] kt c5] (.Tuple [.Name x1 c6, .Name x2 c7] ks c8) (PySem.W.ksEnv qF scope L fI (.ref cda) cc) = pure none)
  sub : PySem.W.mroIn K C (.ref C) = some true
  cst : PySem.W.nsIn K cStatics "thirdparty.any" = some none
  sui : PySem.W.ks_superIn K C C "__init__" = some (some (.builtin "ValueError.__init__"))
  ve : PySem.W.subIn K (.ref C) (.type "ValueError") = some true
  n1 : PySem.W.findIn K (.ref C) x1 = some none
  n2 : PySem.W.findIn K (.ref C) x2 = some none
/-- the two ints and their text fit -/
def tmFit (mid : Str) (i j : Int) : Bool := decide (i.natAbs.log2 < 1920) && (decide (j.natAbs.log2 < 1920) && (decide ((Str.empty ++ toString i : Str).length ≤ sizeLine) && (decide ((Str.empty ++ toString i ++ mid : Str).length ≤ sizeLine) && decide ((Str.empty ++ toString i ++ mid ++ toString j : Str).length ≤ sizeLine))))
section
variable {X : Cx} {C fI : Addr} {sf x1 mid x2 : Str} {k ks kt : Nat} {r1 r2 r3 r4 r5 r6 p0 p1 p2 p4 p5 c1 c2 c3 c4 c5 c6 c7 c8 c9 : Pos} {x : Str} {e1 e2 : Expr} {ta : TA} {pn pos : Pos}
theorem pmk_too (Z : TooK X.prog X.K C fI sf x1 mid x2 k ks kt r1 r2 r3 r4 r5 r6 p0 p1 p2 p4 p5 c1 c2 c3 c4 c5 c6 c7 c8 c9) (nf1 : sf ≠ x1) (nf2 : sf ≠ x2) (n12 : x1 ≠ x2) (ds : (sf == ("__debug__" : Str)) = false) (d1 : (x1 == ("__debug__" : Str)) = false) (d2 : (x2 == ("__debug__" : Str)) = false)
    (hr : Room 1 X.A) (hms : X.mg "super" = none) (hg : Gl X x) (hm : X.mg x = some (.ref C)) (ha : PA X [e1, e2] ta) (hdb : (x == ("__debug__" : Str)) = false := by decide) (hs : starEach [e1, e2] X.env = (false, eval e1 X.env) :: starEach [e2] X.env := by rfl) (hpl : (backTo pos (starEach [e2] X.env)).any (·.1) = false := by rfl) :
    PMk X (.Call (.Name x pn) [e1, e2] [] pos) (fun σ H Q => ta σ H fun vs H1 => ∃ i j : Int, vs = [.int i, .int j] ∧ tmFit mid i j = true ∧ ∀ d, H1 d = none → Q (.ref C) (some d) (upd H1 d (.xd [(x2, .int j), (x1, .int i)]))) := by
  intro pins s σ H Q I h
  obtain ⟨nm, q, N, bs, bm, sn, sub, ab, col, dd, k0, k1, k2, k3, k5, hC, hbm⟩ := Z.T.cls
  obtain ⟨nm0, qF, params, scope, dV, kV, doc, pmv, ct, oc, ccl, cl, an, od, cdd, cld, osl, ccs, csl, vsc, file, tf, cda, cc, ar, pl, f1, f2, f3, f4, f5, f6, f7, f8, f9, f10, f11, f12, f13, f14, f15, f16, f17, f18, f19, f20, f21, f22, f23⟩ := Z.fn
  refine wpAny_Call_Name_kw (ld_glob I hg hm ?_ hdb)
  refine PySem.W.callWith_K (h₀ := X.base) I.ok.mod.kin Z.T.kC (thn (ha.run pos pins s σ H _ I h) fun us s1 ⟨vs, H1, I1, rv, i, j, ev, fit, q1⟩ => ⟨I1.kIn, ?_⟩) hs hpl
  subst ev
  obtain ⟨u1, u2, rfl, ru1, ru2⟩ := rv.two
  obtain ⟨ti, rfl⟩ := (show ∃ t, u1 = Value.int i t from ru1)
  obtain ⟨tj, rfl⟩ := (show ∃ t, u2 = Value.int j t from ru2)
  obtain ⟨b1, fit⟩ := Bool.and_eq_true_iff.mp fit
  obtain ⟨b2, fit⟩ := Bool.and_eq_true_iff.mp fit
  obtain ⟨z1, fit⟩ := Bool.and_eq_true_iff.mp fit
  obtain ⟨z2, z3⟩ := Bool.and_eq_true_iff.mp fit
  have hcl : PySem.W.clsIn X.K C = some { name := nm, bases := bs, mro := .ref C :: bm, ns := N, qualname := q, hasDict := true, slotNames := sn, subclasses := sub, abstract := ab, collection := col, hasDel := false } := by unfold PySem.W.clsIn; rw [hC] <;> rfl
  obtain ⟨mb, hb1, hb2⟩ := I1.mod.blt
  have gl := I1.mod.glob.keeps I1.bk
  have bl := hb1.keeps I1.bk
  have nl := I1.nolimit
  show wpAny _ _ (call (.ref C) [.int i ti, .int j tj]) _ _ _
  obtain ⟨hp, g, dr, tk, os⟩ := s1
  have kk : ∀ b o, hp.get? b = some o → ((hp.push (PySem.W.kdv_tup [.int i ti, .int j tj])).push (PySem.HandSPX.excO C hp.objs.size)).get? b = some o := fun b o z => Heap.get?_push_of_some _ (Heap.get?_push_of_some _ z)
  have he : ((hp.push (PySem.W.kdv_tup [.int i ti, .int j tj])).push (PySem.HandSPX.excO C hp.objs.size)).get? (hp.objs.size + 1) = some (PySem.HandSPX.excO C hp.objs.size) := by heap_get
  have out : hp.get? (hp.objs.size + 1) = none := by
    cases z : hp.get? (hp.objs.size + 1) with
    | none => rfl
    | some o =>
      exact absurd (Nat.lt_trans (Nat.lt_succ_self _) (Heap.lt_size z)) (Nat.lt_irrefl _)
  have hKe : X.K.lookup (hp.objs.size + 1) = none := by
    cases z : X.K.lookup (hp.objs.size + 1) with
    | none => rfl
    | some o =>
      have y := I1.kIn _ _ z
      rw [out] at y
      cases y
  refine wpAny_call (PySem.HandSPX.call_own F.excBase_ValueError (fun Y => PySem.HandSPX.refsVE_contains Y bm hbm) (I1.kIn _ _ hC) (PySem.W.looks_findIn I1.kIn Z.iC) (fun self => PySem.W.bind_fn I1.kIn self Z.tI) (by rw [sizeLine_eq]; show 2 ≤ _; omega) ?_)
  have hr2 := hr.make C [.int i ti, .int j tj] []
  refine too_init (C := C) (nm := nm) (q := q) (N := N) (bs := bs) (bm := bm) hr2.depth hr2.hd (I1.kIn.keeps kk) (nl.keeps kk) hKe he f1 f2 (.of_eq (f3 _ _ _)) f4 f5 nf1 nf2 n12 f6 f7 f8 f9 f10 f11 f12 ds d1 d2 f15 f16 f17 f18 f19 hcl rfl (show PySem.HandSPX.refsVE (.ref C :: bm) = true from hbm) Z.sub (gl.keeps kk) hms (bl.keeps kk) ((hb2 _ (by decide)).trans (by rfl)) f13 f14 Z.cst Z.sui Z.ve hbm (kk _ _ (I1.kIn _ _ hC)) Z.T.sa Z.n1 Z.n2 f20 f21 f22 f23
    (of_decide_eq_true b1) (of_decide_eq_true b2) (of_decide_eq_true z1) (of_decide_eq_true z2) (of_decide_eq_true z3) fun h1 tk1 dx t1 kp dlo dne hx hn => ⟨rfl, ?_⟩
  obtain ⟨G, g1, g2⟩ := restrict h1 fun b => decide (b ≠ hp.objs.size + 1)
  have gk : ∀ b, b ≠ hp.objs.size + 1 → G.get? b = h1.get? b := fun b hb => g1 b (decide_eq_true hb)
  have ge : G.get? (hp.objs.size + 1) = none := g2 _ (by simp)
  have low : hp.objs.size ≤ dx := Nat.le_trans (Nat.le_of_lt (Nat.lt_trans (Nat.lt_succ_self hp.objs.size) (Heap.lt_size he))) dlo
  have J : Inv X pins σ (upd H1 dx (.xd [(x2, .int j), (x1, .int i)])) ⟨G, g, dr, tk1, os⟩ := I1.laid (t' := tk1) (h' := G) (fun b o z => by
      have ne : b ≠ hp.objs.size + 1 := Nat.ne_of_lt (Nat.lt_trans (Heap.lt_size z) (Nat.lt_succ_self _))
      rw [gk b ne]
      exact kp b o ne (kk b o z)) low ⟨_, hn.at fun o y => (gk dx dne).trans y, fun f => relO_put (f := x2) (y := .int j) (u := .int j tj) ⟨tj, rfl⟩ (fun f => relO_put (f := x1) (y := .int i) (u := .int i ti) (fs := []) (mA := fun _ => none) ⟨ti, rfl⟩ (fun _ => True.intro) f) f⟩
  have na : upd H1 dx (.xd [(x2, .int j), (x1, .int i)]) (hp.objs.size + 1) = none := by
    rw [upd_ne (Ne.symm dne)]
    exact I1.hok.fresh (Nat.le_succ _)
  exact ⟨hp.objs.size + 1, _, _, ⟨G, g, dr, tk1, os⟩, _, .ref C, some dx, rfl, J, fun b o z => by
      by_cases hb : b = hp.objs.size + 1
      · rw [hb, ge] at z
        cases z
      · exact (gk b hb).symm.trans z, ge, hx, ⟨rfl, rfl⟩, rfl, rfl, na, rfl, I1.bare, raises_own Z.T.exC Z.T.tyC, q1 dx (I1.hok.fresh low)⟩
end
end FC
namespace FC
open PySem PySem.Spec PyProof.Rows L2
/-- where the program stands, and that it has no super of its own -/
class PrgOk (P : Program) (fl : Str) : Prop where
  file : ((P.main.file : Str) == fl) = true
  sup : (P.main.scope.names.lookup ("super" : Str)).isSome = false
/-- an own class over ValueError whose objects have a dict -/
theorem oexB_ok {K : PySem.W.Frag} {C : Addr} (h : oexB K C = true) : OexC K C := by
  obtain ⟨a1, h⟩ := Bool.and_eq_true_iff.mp h
  obtain ⟨a2, h⟩ := Bool.and_eq_true_iff.mp h
  obtain ⟨a3, h⟩ := Bool.and_eq_true_iff.mp h
  obtain ⟨a4, a5⟩ := Bool.and_eq_true_iff.mp h
  refine ⟨?_, He.eqO_ok a2, of_decide_eq_true a3, of_decide_eq_true a4, a5⟩
  split at a1
  · rename_i dd cd sl lk
    split at a1
    · rename_i c bm k0 k1 k2 k3 n k5 em es
      obtain ⟨b1, a1⟩ := Bool.and_eq_true_iff.mp a1
      obtain ⟨b2, a1⟩ := Bool.and_eq_true_iff.mp a1
      obtain ⟨b3, a1⟩ := Bool.and_eq_true_iff.mp a1
      obtain ⟨b4, b5⟩ := Bool.and_eq_true_iff.mp a1
      obtain rfl := beq_iff_eq.mp b1
      obtain rfl := beq_iff_eq.mp b2
      obtain ⟨nm, bs, mro, ns, qn, hd, sn, sub, ab, col, del⟩ := cd
      dsimp only at em b3 b4
      subst em b4
      have b3 : del = false := by cases del <;> first | rfl | cases b3
      subst b3
      obtain ⟨l⟩ := sl
      have el : l = [k0, k1, k2, k3, some (.builtin "ValueError.__new__"), k5] := es
      subst el
      exact ⟨nm, qn, ns, bs, bm, sn, sub, ab, col, dd, k0, k1, k2, k3, k5, lk, b5⟩
    · cases a1
  · cases a1
section
variable {P : Program} {K : PySem.W.Frag} {C f : Addr} {sf x1 mid x2 fl : Str} {k ks kt : Nat} {r1 r2 r3 r4 r5 r6 p0 p1 p2 p4 p5 c1 c2 c3 c4 c5 c6 c7 c8 c9 : Pos}
theorem tooK_of {nm0 qF : Str} {params : Arguments} {body : List Stmt} {scope : Scope} {ar : Arg} {pl : Sem Bool} (pk : PrgOk P fl) (tb : tooB fl K C f x1 x2 = true)
    (fx : ∃ (oc : Value) (od : Option Addr) (dV kV doc pm : Value) (an : Option Addr) (cdv ct : Value) (osl : Array (Option Value)) (cc : Addr), K.lookup f = some ⟨oc, od, .func (PySem.W.fnX nm0 qF params body scope [("__class__", cc)] dV kV doc pm an cdv ct), osl⟩ ∧ PySem.W.codeIn K cdv qF = true)
    (eb : body = tmBody sf x1 mid x2 k ks kt r1 r2 r3 r4 r5 r6 p0 p1 p2 p4 p5 c1 c2 c3 c4 c5 c6 c7 c8 c9)
    (hbd : ∀ (kV doc pmv ct cdv : Value) (an : Option Addr) (cc : Addr) (u1 u2 u3 : Value), bindArgs (PySem.W.ksFn nm0 qF params body scope .none kV doc pmv an cdv ct cc) ⟨[u1, u2, u3], []⟩ = pure [(sf, u1), (x1, u2), (x2, u3)])
    (hp : (params.posonlyargs ++ params.args).head? = some ar) (har : ar.arg = sf) (hco : scope.isCoroutine = false) (hgen : scope.isGenerator = false) (hk : scope.kind = .function) (nc : ∀ y ∈ scope.names, y.2 ≠ .cell) (ls : scope.names.lookup sf = some .local) (l1 : scope.names.lookup x1 = some .local) (l2 : scope.names.lookup x2 = some .local)
    (hks : scope.names.lookup ("super" : Str) = some .globalImplicit) (hkc : scope.names.lookup ("__class__" : Str) = some .free)
    (hev : ∀ (L cda cc : Addr), eval (.Call (.Attribute (.Call (.Name "super" p0) [] [] p1) "__init__" p2) [tmTxt x1 mid x2 k r1 r2 r3 r4 r5 r6] [] p4) (PySem.W.ksEnv qF scope L f (.ref cda) cc) = (do
      let ov ← attributeBase (.Call (.Name "super" p0) [] [] p1) "__init__" (PySem.W.ksEnv qF scope L f (.ref cda) cc) (eval (.Call (.Name "super" p0) [] [] p1) (PySem.W.ksEnv qF scope L f (.ref cda) cc))
      standAt p2.atName
      let (fv, first) ← holding [ov] (getMethod ov "__init__" pl)
      callWith p4 fv first (backTo p4 (starEach [tmTxt x1 mid x2 k r1 r2 r3 r4 r5 r6] (PySem.W.ksEnv qF scope L f (.ref cda) cc))) []))
    (hs0 : ∀ (L cda cc : Addr), swapsWith (.Call (.Attribute (.Call (.Name "super" p0) [] [] p1) "__init__" p2) [tmTxt x1 mid x2 k r1 r2 r3 r4 r5 r6] [] p4) none p5.line (PySem.W.ksEnv qF scope L f (.ref cda) cc) = pure false)
    (hs1 : ∀ (L cda cc : Addr), swapsWithSole [.Tuple [.Attribute (.Name sf c1) x1 c2, .Attribute (.Name sf c3) x2 c4] kt c5] (.Tuple [.Name x1 c6, .Name x2 c7] ks c8) c9.line (PySem.W.ksEnv qF scope L f (.ref cda) cc) = pure false)
    (hs2 : ∀ (L cda cc : Addr), swappedStores [.Tuple [.Attribute (.Name sf c1) x1 c2, .Attribute (.Name sf c3) x2 c4] kt c5] (.Tuple [.Name x1 c6, .Name x2 c7] ks c8) (PySem.W.ksEnv qF scope L f (.ref cda) cc) = pure none) :
    TooK P K C f sf x1 mid x2 k ks kt r1 r2 r3 r4 r5 r6 p0 p1 p2 p4 p5 c1 c2 c3 c4 c5 c6 c7 c8 c9 := by
  subst eb
  obtain ⟨oc, od, dV, kV, doc, pm, an, cdv, ct, osl, cc, lk, hcd⟩ := fx
  obtain ⟨cda, rfl⟩ := He.codeIn_ref hcd
  obtain ⟨td, tb⟩ := Bool.and_eq_true_iff.mp tb
  obtain ⟨t0, tb⟩ := Bool.and_eq_true_iff.mp tb
  have ed : dV = Value.none := by
    unfold dflN at td
    rw [lk] at td
    exact of_decide_eq_true td
  subst ed
  obtain ⟨t1, tb⟩ := Bool.and_eq_true_iff.mp tb
  obtain ⟨t2, tb⟩ := Bool.and_eq_true_iff.mp tb
  obtain ⟨t3, tb⟩ := Bool.and_eq_true_iff.mp tb
  obtain ⟨t4, tb⟩ := Bool.and_eq_true_iff.mp tb
  obtain ⟨t5, tb⟩ := Bool.and_eq_true_iff.mp tb
  obtain ⟨t6, tb⟩ := Bool.and_eq_true_iff.mp tb
  obtain ⟨t7, tb⟩ := Bool.and_eq_true_iff.mp tb
  obtain ⟨t8, tb⟩ := Bool.and_eq_true_iff.mp tb
  obtain ⟨t9, t10⟩ := Bool.and_eq_true_iff.mp tb
  have ea : codeA K f = cda := by unfold codeA; rw [lk]
  have ec : ccOf K f = cc := by unfold ccOf; rw [lk]
  rw [ea] at t1
  rw [ec] at t2
  split at t1
  · rename_i ccl cdd vs ccs lk1
    split at t1
    · rename_i y tf ev
      split at t2
      · rename_i cl cld c csl lk2
        obtain rfl := beq_iff_eq.mp t1
        obtain rfl := beq_iff_eq.mp t2
        exact ⟨oexB_ok t0, He.eqO_ok t3, of_decide_eq_true t4, ⟨nm0, qF, params, scope, .none, kV, doc, pm, ct, oc, ccl, cl, an, od, cdd, cld, osl, ccs, csl, vs, y, tf, cda, cc, ar, pl, lk, hcd, hbd _ _ _ _ _ _ _, hp, har, hco, hgen, hk, nc, ls, l1, l2, hks, hkc, lk1, ev, pk.file, pk.sup, lk2, fun L => hev L cda cc, fun L => hs0 L cda cc, fun L => hs1 L cda cc, fun L => hs2 L cda cc⟩,
          of_decide_eq_true t5, He.eqO_ok t6, He.eqO_ok t7, of_decide_eq_true t8, He.eqO_ok t9, He.eqO_ok t10⟩
      · cases t2
    · cases t1
  · cases t1
end
/-! ### raise C(a, b) -/
def sRaiseT (c : Nat) (mid x1 x2 : Str) (fa fb : F D) : F Fl := F.bind fa fun x => F.bind fb fun y γ => match x, y with
  | .int i, .int j => if tmFit mid i j = true then .ex ⟨c, [(x2, .int j), (x1, .int i)]⟩ γ else .st
  | _, _ => .st
section
variable {X : Cx} {C : Ct} {W : WX} {m1 q1 m2 q2 : Bool} {fI : Addr} {sf x1 mid x2 : Str} {k ks kt c : Nat} {r1 r2 r3 r4 r5 r6 p0 p1 p2 p4 p5 c1 c2 c3 c4 c5 c6 c7 c8 c9 : Pos} {x : Str} {e1 e2 : Expr} {fa fb : F D} {pn pos pos2 : Pos}
theorem fs_raiseT {kk : Nat} (Z : TooK X.prog X.K (C.ec c) fI sf x1 mid x2 k ks kt r1 r2 r3 r4 r5 r6 p0 p1 p2 p4 p5 c1 c2 c3 c4 c5 c6 c7 c8 c9) (nf1 : sf ≠ x1) (nf2 : sf ≠ x2) (n12 : x1 ≠ x2) (ds : (sf == ("__debug__" : Str)) = false) (d1 : (x1 == ("__debug__" : Str)) = false) (d2 : (x2 == ("__debug__" : Str)) = false)
    (hr : RoomG (kk + 1) X.A) (hms : X.mg "super" = none) (hg : Gl X x) (hm : X.mg x = some (.ref (C.ec c))) (ha : FX C W m1 q1 X e1 fa) (hb : FX C W m2 q2 X e2 fb) (hc : X.calm = true) (tk : Takes X W)
    (hdb : (x == ("__debug__" : Str)) = false := by decide) (hs : starEach [e1, e2] X.env = (false, eval e1 X.env) :: starEach [e2] X.env := by rfl) (hs2 : starEach [e2] X.env = (false, eval e2 X.env) :: starEach [] X.env := by rfl) (hpl : (backTo pos (starEach [e2] X.env)).any (·.1) = false := by rfl) :
    FS C W X (.Raise (some (.Call (.Name x pn) [e1, e2] [] pos)) none pos2) (sRaiseT c mid x1 x2 fa fb) := by
  refine PS.imp (ps_raise hc tk (pmk_too Z nf1 nf2 n12 ds d1 d2 (hr.r.mono (Nat.succ_le_succ (Nat.zero_le _))) hms hg hm (pa_cons ha (pa_cons hb pa_nil hs2) hs) hdb hs hpl)) fun D σ H ⟨pens, M, γ, E, h⟩ => ?_
  refine ⟨pens, M, γ, E, ?_⟩
  unfold sRaiseT at h
  cases ea : fa γ with
  | st => rw [bind_st ea] at h; exact h
  | ex y g => rw [bind_ex ea] at h; exact fun cls d H' S re => h cls d M σ H' S.env S.s re
  | ok d γ1 =>
    rw [bind_ok ea] at h
    intro v H1 S1 P1 r1
    refine ⟨pens, M, γ1, S1.env, ?_⟩
    cases eb : fb γ1 with
    | st => rw [bind_st eb] at h; exact h
    | ex y g => rw [bind_ex eb] at h; exact fun cls d H' S re => h cls d M σ H' S.env (S1.trans S).s re
    | ok y γ2 =>
      rw [bind_ok eb] at h
      intro w H2 S2 P2 r2
      cases d with
      | int i =>
        cases y with
        | int j =>
          simp only at h
          split at h
          · rename_i fit
            refine ⟨i, j, by rw [r1.s.intH, r2.s.intH], fit, fun dd hd => ?_⟩
            have S3 : Stp C pens M σ γ H γ2 (upd H2 dd (.xd [(x2, .int j), (x1, .int i)])) := ⟨S2.env.keep (Keep.new hd), (S1.trans S2).keep.trans (Keep.new hd), (S1.trans S2).pat⟩
            exact h _ _ M σ _ S3.env S3.s ⟨rfl, .inr ⟨dd, _, rfl, upd_same, .cons (.int j) (.cons (.int i) .nil)⟩⟩
          · exact h.elim
        | _ => exact h.elim
      | _ => exact h.elim
end
theorem wp_raiseT {γ : Gm} {E : Ex → Gm → Prop} {c : Nat} {mid x1 x2 : Str} {fa fb : F D} {Q : Fl → Gm → Prop} (h : Wp (fa γ) (fun x g => ∃ i, x = .int i ∧ Wp (fb g) (fun y g2 => ∃ j, y = .int j ∧ tmFit mid i j = true ∧ E ⟨c, [(x2, .int j), (x1, .int i)]⟩ g2) E) E) : Wp (sRaiseT c mid x1 x2 fa fb γ) Q E := by
  unfold sRaiseT
  refine wp_bind (h.imp fun x g z => ?_)
  obtain ⟨i, rfl, h2⟩ := z
  refine wp_bind (h2.imp fun y g2 z => ?_)
  obtain ⟨j, rfl, hf, q⟩ := z
  refine ⟨?_⟩
  show WpD (if tmFit mid i j = true then R.ex ⟨c, [(x2, .int j), (x1, .int i)]⟩ g2 else R.st) Q E
  rw [if_pos hf]
  exact q
theorem wp_raise {γ : Gm} {E : Ex → Gm → Prop} {c : Nat} {Q : Fl → Gm → Prop} (h : E ⟨c, []⟩ γ) : Wp (sRaise c γ) Q E := ⟨h⟩
/-! ### a pure function that raises -/
structure Rx (N : Nat) (b : F Fl) (ds : List D) (e : Ex) : Prop where
  run : ∃ g, b (padG N (ds.map .val)) = .ex e g
theorem Rx.of {N : Nat} {b : F Fl} {ds : List D} {e : Ex} (h : Wp (b (padG N (ds.map .val))) (fun _ _ => False) (fun e' _ => e' = e)) : Rx N b ds e := by
  have hr := h.run
  cases q : b (padG N (ds.map .val)) with
  | ok a g => rw [q] at hr; exact hr.elim
  | ex y g =>
    rw [q] at hr
    obtain rfl : y = e := hr
    exact ⟨⟨g, q⟩⟩
  | st => rw [q] at hr; exact hr.elim
theorem wpc_rx {N : Nat} {b : F Fl} {as : List AV} {γ : Gm} {E : Ex → Gm → Prop} {Q : RV → Gm → Prop} {ds : List D} {e : Ex} (h : Rx N b ds e) (ha : allD as = some ds) (q : E e γ) : WpC N b as γ Q E := by
  obtain ⟨g, eg⟩ := h.run
  refine ⟨?_⟩
  unfold callR
  rw [bind_d ha]
  simp only [eg, back_d ha]
  exact q
end FC
namespace PySem.W
open PySem PySem.Calls PyProof.Rows Builtin
end PySem.W
namespace FC
open PySem PySem.Spec PyProof.Rows L2
/-! ### == and != where one side is of a class with an own ==, the other one of any kind -/
end FC
namespace FC
open PySem PySem.Spec PyProof.Rows L2
section
variable {C : Ct} {W : WX} {X : Cx} {m p q m1 p1 m2 p2 : Bool} {a b e' e : Expr} {fa fb : F D} {pos : Pos} {i : Nat}
/-! ### dict displays -/
theorem rep_newD {M : Addr → Prop} {H : Hp} {p : Addr} {vs : List (Key × V)} {ds : List (Key × D)} (hd : ∀ a, M a → ∃ o, H a = some o) (hp : H p = none) (r : RepK C M H vs ds) : Rep C M (upd H p (.dK vs)) (.ref p) (.dct ds) :=
  .dct upd_same (notM hd hp) (r.fine (Fine.keep0 (Keep.new hp)))
theorem fx_dct0 : FX C W true true X (.Dict [] [] pos) (f0 (.dct [])) := PE.imp pe_dnewK fun σ H Q ⟨pens, M, γ, E, k⟩ => fun p hp =>
  k _ _ (Stp.pure E (Keep.new hp)) (fun _ => ⟨rfl, Keep.new hp⟩) (rep_newD E.dom hp .nil)
def NoEx (fa : F D) : Prop := ∀ γ e g, fa γ ≠ .ex e g
theorem noEx_f0 {d : D} : NoEx (f0 d) := fun γ e g z => by cases z
theorem noEx_var {i : Nat} : NoEx (fVar i) := fun γ e g z => by
  unfold fVar at z
  split at z <;> cases z
/-- {k: e}: k a constant, e one or a name -/
def fDct1 (k : Key) (fa : F D) : F D := f1 (fun d => some (.dct [(k, d)])) fa
theorem fx_dct1 {k : Key} {ke : Expr} (hk : PE X ke (tC (kV k))) (ha : FX C W true true X a fa) (hx : NoEx fa) : FX C W true true X (.Dict [some ke] [a] pos) (fDct1 k fa) :=
  PE.imp (pe_disp (pps_cons hk ha pps_nil) rfl rfl (by simp) (by show 1 ≤ 15; omega)) fun σ H Q ⟨pens, M, γ, E, h⟩ => fun p hp => by
    have E' : EnvRep C pens (adj M p) γ σ (upd H p (.dK [])) := E.plus hp ⟨_, upd_same⟩ (Keep.new hp)
    refine ⟨pens, adj M p, γ, E', ?_⟩
    unfold fDct1 f1 at h
    cases ea : fa γ with
    | st => rw [bind_st ea] at h; exact h
    | ex x g => exact absurd ea (hx _ _ _)
    | ok d γ1 =>
      rw [bind_ok ea] at h
      intro v H1 S P r
      obtain ⟨e1, k1⟩ := P rfl
      subst e1
      have hp1 : H1 p = some (.dK []) := k1.all upd_same
      refine ⟨hp1, [(k, v)], rfl, by show 1 ≤ 15; omega, ?_⟩
      have kf : Keep0 H (upd H1 p (.dK (mergeK [] [(k, v)]))) := fun c o ec _ => by
        have ne : c ≠ p := ne_of_none ec hp
        have z : upd H1 p (.dK (mergeK [] [(k, v)])) c = some o := by
          rw [upd_ne ne]
          exact k1.all (by rw [upd_ne ne]; exact ec)
        exact ⟨fun _ => z, fun t => ⟨o, z, t, KN.ok_refl _ _⟩⟩
      refine h _ _ (Stp.pure E kf) (fun _ => ⟨rfl, kf⟩) ?_
      have r : Rep C (adj M p) H1 v d := r
      exact .dct (vs := [(k, v)]) upd_same (notM E.dom hp) (.cons (r.fine ⟨fun c o ec nc _ => by rw [upd_ne fun z => nc (.inr z)]; exact ec, fun c o _ z => .inl z⟩) .nil)
/-! ### isinstance of values of all kinds -/
def dIsiA (fb : String → Option Bool) (fc : Nat → Option Bool) : D → Option D
  | .dct _ => (fb "dict").map D.bl
  | .ft _ => (fb "tuple").map D.bl
  | d => (dIsi fb fc d).map D.bl
theorem fx_isiA {ce : Expr} {pn : Pos} {cv : V} {cu : Value} {gb : String → Option Bool} {gc : Nat → Option Bool} (hce : PE X ce (tC cv)) (hk : ClsV cv cu) (hb : ∀ t r, gb t = some r → PySem.W.kitOne X.K (.type t) cu = some r) (hc : ∀ c r, gc c = some r → InsTy X.K (C.cl c) ∧ PySem.W.kitOne X.K (.ref (C.cl c)) cu = some r)
    (ha : FX C W m p X a fa) (hm : X.mg "isinstance" = none) (hg : Gl X "isinstance") (hs : starEach [a, ce] X.env = (false, eval a X.env) :: starEach [ce] X.env := by rfl) (hs2 : starEach [ce] X.env = (false, eval ce X.env) :: starEach [] X.env := by rfl) (hpl : (backTo pos (starEach [ce] X.env)).any (·.1) = false := by rfl) :
    FX C W true p X (.Call (.Name "isinstance" pn) [a, ce] [] pos) (f1 (dIsiA gb gc) fa) :=
  fx1 (r := fun x H Q => rIsi X.K [x, cv] H Q) ha (fun ta h => pe_callB call_isi hg hm (by rfl) (pa_cons h (pa_cons hce pa_nil hs2) hs) (by decide) (by decide) hs hpl) fun M H x dx d Q hd sx eg k => by
    have fin : ∀ t r, d = .bl r → TyX X.K H x t → PySem.W.kitOne X.K t cu = some r → rIsi X.K [x, cv] H Q := fun t r hd h1 h2 => ⟨x, cv, t, cu, r, rfl, hk, h1, h2, k _ H (Keep.refl _ _) (by rw [hd]; exact .bl _)⟩
    cases dx with
    | non => obtain ⟨r, e1, rfl⟩ := Option.map_eq_some_iff.mp eg; rw [sx.nonH] at fin ⊢; exact fin _ _ rfl (.base .non) (hb _ _ e1)
    | bl b => obtain ⟨r, e1, rfl⟩ := Option.map_eq_some_iff.mp eg; rw [sx.blH] at fin ⊢; exact fin _ _ rfl (.base (.bl b)) (hb _ _ e1)
    | int i => obtain ⟨r, e1, rfl⟩ := Option.map_eq_some_iff.mp eg; rw [sx.intH] at fin ⊢; exact fin _ _ rfl (.base (.int i)) (hb _ _ e1)
    | str i => obtain ⟨r, e1, rfl⟩ := Option.map_eq_some_iff.mp eg; rw [sx.strH] at fin ⊢; exact fin _ _ rfl (.base (.str i)) (hb _ _ e1)
    | lst xs => obtain ⟨r, e1, rfl⟩ := Option.map_eq_some_iff.mp eg; obtain ⟨a, vs, rfl, h1, _⟩ := sx.lstH; exact fin _ _ rfl (.base (.lst h1)) (hb _ _ e1)
    | tup xs => obtain ⟨r, e1, rfl⟩ := Option.map_eq_some_iff.mp eg; obtain ⟨a, vs, rfl, h1, _⟩ := sx.tupH; exact fin _ _ rfl (.base (.tup h1)) (hb _ _ e1)
    | ins c fs =>
      obtain ⟨r, e1, rfl⟩ := Option.map_eq_some_iff.mp eg
      obtain ⟨a, dx, vfs, rfl, h1, _⟩ := sx.insH
      obtain ⟨z, e2⟩ := hc c r e1
      exact fin _ _ rfl (.base (.ins h1 z.cl z.ha z.hn z.htk z.hm)) e2
    | dct _ =>
      obtain ⟨r, e1, rfl⟩ := Option.map_eq_some_iff.mp eg
      cases sx with
      | rep s => cases s with
        | dct h1 n1 r1 => exact fin _ _ rfl (.base (.dK h1)) (hb _ _ e1)
    | raw _ => cases eg
    | cls _ => cases eg
    | ft _ =>
      obtain ⟨r, e1, rfl⟩ := Option.map_eq_some_iff.mp eg
      cases sx with
      | rep s => cases s with
        | ft h1 d1 n1 => exact fin _ _ rfl (.fTuple h1) (hb _ _ e1)
def isiBd (T t : String) : Option Bool := if t ∈ tyEs ∧ T ∈ ["int", "bool", "str", "tuple", "list"] then some (decide (t = T) || (decide (t = "bool") && decide (T = "int"))) else none
theorem isiBd_ok {K : PySem.W.Frag} {T t : String} {r : Bool} (h : isiBd T t = some r) : PySem.W.kitOne K (.type t) (.type T) = some r := by
  refine kit_ty ?_
  have all : ∀ t ∈ tyEs, ∀ T ∈ ["int", "bool", "str", "tuple", "list"], kitB t T = some (decide (t = T) || (decide (t = "bool") && decide (T = "int"))) := by decide +kernel
  unfold isiBd at h
  split at h
  · rename_i hz
    cases h
    exact all t hz.1 T hz.2
  · cases h
/-- no instance of the classes is of a built-in type -/
def noC (cs : List Nat) (c : Nat) : Option Bool := if c ∈ cs then some false else none
theorem noC_ok {K : PySem.W.Frag} {cl : Nat → Addr} {T : String} {cs : List Nat} (hT : T ∈ ["int", "bool", "str", "tuple", "list"]) (h : ∀ c ∈ cs, InsTy K (cl c) ∧ kitTB K (cl c) = true) : ∀ c r, noC cs c = some r → InsTy K (cl c) ∧ PySem.W.kitOne K (.ref (cl c)) (.type T) = some r := fun c r e => by
  unfold noC at e
  split at e
  · rename_i hm
    cases e
    exact ⟨(h c hm).1, of_decide_eq_true (List.all_eq_true.mp (h c hm).2 T hT)⟩
  · cases e
/-- what isinstance says, in words for goals -/
def dIsT (cs : List Nat) (T : String) (d : D) : Option D := dIsiA (isiBd T) (noC cs) d
/-- a value of many kinds: nothing raw in it at the top, its class among these -/
def kndA (cs : List Nat) : D → Bool
  | .ins c _ => decide (c ∈ cs)
  | .raw _ => false
  | .cls _ => false
  | _ => true
def isTupD : D → Bool | .tup _ => true | .ft _ => true | _ => false
def isIntD : D → Bool | .int _ => true | .bl _ => true | _ => false
def isBlD : D → Bool | .bl _ => true | _ => false
theorem isTup_rt {cs : List Nat} {d : D} (h : kndA cs d = true) : dIsT cs "tuple" d = some (.bl (isTupD d)) := by
  cases d with
  | ins c fs => simp only [dIsT, dIsiA, dIsi, noC, if_pos (of_decide_eq_true h)]; rfl
  | raw _ => cases h
  | cls _ => cases h
  | _ => rfl
theorem isInt_rt {cs : List Nat} {d : D} (h : kndA cs d = true) : dIsT cs "int" d = some (.bl (isIntD d)) := by
  cases d with
  | ins c fs => simp only [dIsT, dIsiA, dIsi, noC, if_pos (of_decide_eq_true h)]; rfl
  | raw _ => cases h
  | cls _ => cases h
  | _ => rfl
theorem isBl_rt {cs : List Nat} {d : D} (h : kndA cs d = true) : dIsT cs "bool" d = some (.bl (isBlD d)) := by
  cases d with
  | ins c fs => simp only [dIsT, dIsiA, dIsi, noC, if_pos (of_decide_eq_true h)]; rfl
  | raw _ => cases h
  | cls _ => cases h
  | _ => rfl
/-! ### self.f, self.g = x, y -/
def gFld (K : PySem.W.Frag) (to : TE) (f : Str) : TG := fun v σ H Q => to σ H fun x H1 => ∃ a Cc dx fs, x = .ref a ∧ H1 a = some (.ins Cc dx fs) ∧ Cls K Cc ∧ NoAttr K Cc f ∧ fs.length < 1000 ∧ Q σ (upd H1 a (.ins Cc dx (putF f v fs)))
theorem pg_fld {o : Expr} {to : TE} {f : Str} (ho : PE X o to) : PG X (.Attribute o f pos) (gFld X.K to f) := by
  refine ⟨fun pins s σ H v u Q I r h => ?_⟩
  rw [assign_Attribute]
  refine wpAny_bind (wpAny_holding (thn (ho.run pins s σ H _ I h) fun ov s1 ⟨x, H1, I1, r1, a, Cc, dx, fs, ex, ea, c, n, l, q1⟩ => ?_))
  subst ex
  obtain rfl : ov = Value.ref a := r1
  refine wpAny_bind (wpAny_standAt (wpAny_bind (wpAny_holding ?_)))
  exact setattr_ok I1 ea c n l r fun s3 I3 => wpAny_release ⟨σ, _, I3, q1⟩
def sAsgF (cs : List Nat) (i : Nat) (f g : Str) (fe : F D) : F Fl := F.bind fe fun d γ => match d with
  | .tup [d1, d2] => (match oIns cs i γ with
    | some (t, c, fs) => if fs.length < 999 then .ok .nx (γ.set i (.own t (.ins c (putD g d2 (putD f d1 fs))))) else .st
    | none => .st)
  | _ => .st
theorem putF_length {f : Str} {v : V} : ∀ fs : List (Str × V), (putF f v fs).length ≤ fs.length + 1
  | [] => by simp [putF]
  | (g, u) :: r => by
    simp only [putF]
    split
    · simp
    · simp only [List.length_cons]; have := putF_length (f := f) (v := v) r; omega
theorem fs_asgF {cs : List Nat} {f g : Str} {o1 o2 : Expr} {p1 p2 pt : Pos} {kt : Nat} (hcl : X.calm = true) (hc : ∀ c ∈ cs, Cls X.K (C.cl c) ∧ NoAttr X.K (C.cl c) f) (hc2 : ∀ c ∈ cs, Cls X.K (C.cl c) ∧ NoAttr X.K (C.cl c) g) (ho : PE X o1 (tVar i)) (ho2 : PE X o2 (tVar i)) (he : FX C W true p X e fa)
    (hs : swapsWithSole [.Tuple [.Attribute o1 f p1, .Attribute o2 g p2] kt pt] e pos.line X.env = pure false := by rfl) (hw : swappedStores [.Tuple [.Attribute o1 f p1, .Attribute o2 g p2] kt pt] e X.env = pure none := by rfl)
    (h1 : (assignEach [.Tuple [.Attribute o1 f p1, .Attribute o2 g p2] kt pt] X.env).map (·.2) = [assign (.Tuple [.Attribute o1 f p1, .Attribute o2 g p2] kt pt) X.env] := by rfl)
    (h2 : (assignEach [.Attribute o1 f p1, .Attribute o2 g p2] X.env).map (·.2) = assign (.Attribute o1 f p1) X.env :: (assignEach [.Attribute o2 g p2] X.env).map (·.2) := by rfl) (h3 : (assignEach [.Attribute o2 g p2] X.env).map (·.2) = assign (.Attribute o2 g p2) X.env :: (assignEach [] X.env).map (·.2) := by rfl)
    (hn : (assignEach [.Attribute o1 f p1, .Attribute o2 g p2] X.env).length = 2 := by rfl) (hst : (assignEach [.Attribute o1 f p1, .Attribute o2 g p2] X.env).findIdx? (·.1) = none := by rfl) :
    FS C W X (.Assign [.Tuple [.Attribute o1 f p1, .Attribute o2 g p2] kt pt] e pos) (sAsgF cs i f g fa) := PS.imp (ps_asg he (pg_tup hcl (pgs_cons (pg_fld ho) (pgs_cons (pg_fld ho2) pgs_nil h3) h2) hn hst) hs hw h1) fun D σ H ⟨pens, M, γ, E, h⟩ => by
  refine ⟨pens, M, γ, E, ?_⟩
  unfold sAsgF at h
  cases ea : fa γ with
  | st => rw [bind_st ea] at h; exact h
  | ex x g => rw [bind_ex ea] at h; exact fun cls d H' S re => h cls d M σ H' S.env S.s re
  | ok d γ1 =>
    rw [bind_ok ea] at h
    intro v H1 S1 P1 r1
    have r1 : Rep C M H1 v d := r1
    match d, h, r1 with
    | .tup [d1, d2], h, r1 =>
      simp only at h
      cases eo : oIns cs i γ1 with
      | none => rw [eo] at h; exact h.elim
      | some q =>
        obtain ⟨t, c, fs⟩ := q
        rw [eo] at h
        simp only at h
        split at h
        case isFalse => exact h.elim
        rename_i hl
        obtain ⟨hi, hm, _⟩ := oIns_eq eo
        obtain ⟨y, hy, o, h2', mo, ⟨dx, vfs, eh, rf⟩, _⟩ := S1.env.slot hi
        subst h2'
        cases r1 with
        | @tup av vs _ eT nT rT =>
          cases rT with
          | @cons v1 vr _ _ ra rb =>
            cases rb with
            | @cons v2 vr2 _ _ rb rc =>
              cases rc
              have hl2 : vfs.length < 999 := by rw [rf.length]; exact hl
              refine ⟨av, [v1, v2], rfl, .inl (.inl eT), rfl, v1, [v2], rfl, .ref o, hy, o, C.cl c, dx, vfs, rfl, eh, (hc c hm).1, (hc c hm).2, by omega, v2, [], rfl, .ref o, hy, o, C.cl c, dx, putF f v1 vfs, rfl, upd_same, (hc2 c hm).1, (hc2 c hm).2, ?_, rfl, ?_⟩
              · have := putF_length (f := f) (v := v1) vfs
                omega
              have S2 := S1.env.wr (o' := .ins c (putD f d1 fs)) hi hy eh (fun _ _ z => by cases z) (u' := .ins (C.cl c) dx (putF f v1 vfs)) ⟨dx, _, upd_same, (repF_put ra rf).fine (Fine.poke mo)⟩
              have hi2 : (γ1.set i (.own t (.ins c (putD f d1 fs))))[i]? = some (.own t (.ins c (putD f d1 fs))) := by
                have hlt := (List.getElem?_eq_some_iff.mp hi).1
                rw [List.getElem?_set_self hlt]
              have rb2 : Rep C M (upd H1 o (.ins (C.cl c) dx (putF f v1 vfs))) v2 d2 := rb.fine (Fine.poke mo)
              have rf2 : RepF C M (upd H1 o (.ins (C.cl c) dx (putF f v1 vfs))) (putF f v1 vfs) (putD f d1 fs) := (repF_put ra rf).fine (Fine.poke mo)
              have S3 := S2.env.wr (o' := .ins c (putD g d2 (putD f d1 fs))) hi2 hy upd_same (fun _ _ z => by cases z) (u' := .ins (C.cl c) dx (putF g v2 (putF f v1 vfs))) ⟨dx, _, upd_same, (repF_put rb2 rf2).fine (Fine.poke mo)⟩
              rw [List.set_set] at S3
              exact h M σ _ S3.env (((S1.trans S2).s).trans E S3.s)
/-! ### list.count, of a list by value -/
def dCnt : D → D → Option D
  | .lst ys, x => (match D.dataL ys, x.data with
    | some qs, some q => if min (PyData.depthAll qs) q.depth ≤ 64 then some (.int (qs.countP fun z => PyData.eqv z q : Nat)) else none
    | _, _ => none)
  | _, _ => none
theorem pe_cnt {to ta : TE} {apos : Pos} (hu : X.A.units + 65 < cLine) (ho : PE X e to) (ha : PE X a ta) (hbase : attributeBase e "count" X.env (eval e X.env) = eval e X.env := by rfl)
    (hfew : ((backTo pos (starEach [a] X.env)).all (fun x => !x.1) && (backToKw pos (keywordEach [] X.env)).all (fun x => x.1.isSome)
      && decide ([a].length + ([] : List Keyword).length + (if ([] : List Keyword).isEmpty then 0 else 1) < 30)) = true := by rfl)
    (hline : (apos.endLine == pos.line) = true := by rfl) (hs : starEach [a] X.env = (false, eval a X.env) :: starEach [] X.env := by rfl) (hplain : (backTo pos (starEach [] X.env)).any (·.1) = false := by rfl) :
    PE X (.Call (.Attribute e "count" apos) [a] [] pos) (fun σ H Q => to σ H fun x H1 => ∃ (b : Addr) (vs0 : List V), x = .ref b ∧ H1 b = some (.lst vs0) ∧
      ta σ H1 fun y H2 => ∃ (vs : List V) (qs : List PyData) (q : PyData), H2 b = some (.lst vs) ∧ DpAll X.K H2 vs qs ∧ Dp X.K H2 y q ∧ PyData.plainAll qs = true ∧ q.plain = true ∧ min (PyData.depthAll qs) q.depth ≤ 64 ∧ Q (.int (qs.countP fun z => PyData.eqv z q : Nat)) H2) := by
  refine ⟨fun pins s σ H Q I h => ?_⟩
  refine wpAny_Call_method_late hbase hfew hline rfl (thn (ho.run pins s σ H _ I h) fun v s1 ⟨x, H1, I1, r1, b, vs0, ex, eb, q1⟩ => ?_)
  subst ex
  obtain rfl : v = Value.ref b := r1
  obtain ⟨_, its0, n0, _, e0⟩ := (show ObjOk X.prog X.w H1 s1.heap b (.lst vs0) from I1.hok b _ eb)
  refine ⟨"list", "list.count", PySem.F.plainAttrs_list, PySem.F.slot_list_count, PySem.F.type_list_count, ⟨_, e0, rfl⟩, fun c ec => ?_, ?_⟩
  · cases ec
    exact ⟨_, e0, rfl⟩
  have hA := (pa_cons ha pa_nil hs).run pos pins s1 σ H1 (fun vs' H2 => match vs' with | [y] => ∃ (vs : List V) (qs : List PyData) (q : PyData), H2 b = some (.lst vs) ∧ DpAll X.K H2 vs qs ∧ Dp X.K H2 y q ∧ PyData.plainAll qs = true ∧ q.plain = true ∧ min (PyData.depthAll qs) q.depth ≤ 64 ∧ Q (.int (qs.countP fun z => PyData.eqv z q : Nat)) H2 | _ => False) I1 ?_
  · rw [hs] at hA ⊢
    refine Calls.callWith_builtin (by show (false || (backTo pos (starEach [] X.env)).any (·.1)) = false; rw [hplain]; rfl) (Calls.evalArgs_plain ?_)
    refine thn hA fun us s2 ⟨vs, H2, I2, r2, q0⟩ => ?_
    match vs, r2, q0 with
    | [y], r2, ⟨vs, qs, q, e2, d1, d2, p1, p2, hm, q2⟩ =>
    obtain ⟨u, rfl, ru⟩ := vals1 r2
    obtain ⟨its, rv, pl, hz⟩ := I2.list (.inl (.inl e2))
    obtain ⟨as, rs⟩ := Dp.readsAll I2 qs vs its d1 rv
    obtain ⟨bs, rx⟩ := Dp.reads I2 q y u d2 ru
    exact PySem.SeqAt.count_list_data pl.isList (by simpa using rs) rx p1 p2 (by omega) ⟨.int _, H2, I2.tok _, ⟨_, rfl⟩, q2⟩
  · exact q1
def fCnt (fo fa : F D) : F D := F.bind fo fun x => match x with
  | .lst ys => f1 (dCnt (.lst ys)) fa
  | _ => fun _ => .st
theorem fx_cnt {apos : Pos} (hu : X.A.units + 65 < cLine) (ho : FX C W true p X e fb) (ha : FX C W m1 p1 X a fa) (hbase : attributeBase e "count" X.env (eval e X.env) = eval e X.env := by rfl)
    (hfew : ((backTo pos (starEach [a] X.env)).all (fun x => !x.1) && (backToKw pos (keywordEach [] X.env)).all (fun x => x.1.isSome)
      && decide ([a].length + ([] : List Keyword).length + (if ([] : List Keyword).isEmpty then 0 else 1) < 30)) = true := by rfl)
    (hline : (apos.endLine == pos.line) = true := by rfl) (hs : starEach [a] X.env = (false, eval a X.env) :: starEach [] X.env := by rfl) (hplain : (backTo pos (starEach [] X.env)).any (·.1) = false := by rfl) :
    FX C W true (p && p1) X (.Call (.Attribute e "count" apos) [a] [] pos) (fCnt fb fa) := PE.imp (pe_cnt hu ho ha hbase hfew hline hs hplain) fun σ H Q ⟨pens, M, γ, E, h⟩ => by
  refine ⟨pens, M, γ, E, ?_⟩
  unfold fCnt at h
  cases eo : fb γ with
  | st => rw [bind_st eo] at h; exact h
  | ex x g => rw [bind_ex eo] at h; exact h
  | ok d γ1 =>
    rw [bind_ok eo] at h
    intro v H1 S1 P1 r1
    have r1 : Rep C M H1 v d := r1
    cases d with
    | lst ys =>
      simp only at h
      cases r1 with
      | @lst b vs0 _ hb nM rl =>
        refine ⟨b, vs0, rfl, hb, pens, M, γ1, S1.env, ?_⟩
        unfold f1 at h
        cases ea : fa γ1 with
        | st => rw [bind_st ea] at h; exact h
        | ex x g => rw [bind_ex ea] at h; exact fun cls dd H2 S2 re => h cls dd H2 (S1.trans S2) re
        | ok y γ2 =>
          rw [bind_ok ea] at h
          intro v2 H2 S2 P2 r2
          cases eg : dCnt (.lst ys) y with
          | none => rw [liftO_none eg] at h; exact h.elim
          | some dd =>
            rw [liftO_some eg] at h
            simp only [dCnt] at eg
            split at eg
            case h_2 => cases eg
            rename_i qs q e1 e2
            split at eg
            case isFalse => cases eg
            rename_i hm
            cases eg
            have hb2 : H2 b = some (.lst vs0) := (S2.keep b _ hb fun z => nM (S1.env.ownM z).1).1 rfl
            have rl2 : RepL C M H2 vs0 ys := rl.fine (Fine.keep S2.keep fun _ z => (S1.env.ownM z).1)
            refine ⟨vs0, qs, q, hb2, rl2.dp e1, r2.s.dp e2, dataL_plain e1, data_plain e2, hm, h (.int _) H2 (S1.trans S2) (fun z => ?_) (.int _)⟩
            obtain ⟨z1, z2⟩ := Bool.and_eq_true_iff.mp z
            obtain ⟨a1, a2⟩ := P1 z1
            obtain ⟨b1, b2⟩ := P2 z2
            exact ⟨b1.trans a1, a2.trans b2⟩
    | _ => exact h.elim
theorem all2 {P : Nat → Prop} {a b : Nat} (h : P a) (h' : P b) : ∀ c ∈ [a, b], P c := fun c hc => by
  rcases List.mem_cons.mp hc with rfl | hc
  · exact h
  · rcases List.mem_singleton.mp hc with rfl
    exact h'
end
end FC
namespace FC
open PySem PySem.Spec PyProof.Rows L2
section
variable {N c : Nat} {b : F Fl} {r : F (List AV)} {fa fb : F D} {γ : Gm} {E : Ex → Gm → Prop}
/-! ### WP rules of F63, F64 -/
theorem wp_cnt {Q : D → Gm → Prop} (h : Wp (fa γ) (fun x g => ∃ ys, x = .lst ys ∧ Wp (fb g) (fun y g2 => ∃ d, dCnt (.lst ys) y = some d ∧ Q d g2) E) E) : Wp (fCnt fa fb γ) Q E := by
  unfold fCnt
  refine wp_bind (h.imp fun x g h => ?_)
  obtain ⟨ys, rfl, h⟩ := h
  exact wp_f1 h
structure Mk (c N : Nat) (b : F Fl) (ds : List D) (fs : List (Str × D)) : Prop where
  run : ∃ g, b (padG N (.own (some 0) (.ins c []) :: ds.map .val)) = .ok .nx (.own (some 0) (.ins c fs) :: g)
theorem Mk.of {ds : List D} {fs : List (Str × D)} (h : Wp (b (padG N (.own (some 0) (.ins c []) :: ds.map .val))) (fun f g => f = .nx ∧ ∃ g', g = .own (some 0) (.ins c fs) :: g') E0) : Mk c N b ds fs := by
  obtain ⟨f, g, e, rfl, g', rfl⟩ := h.out
  exact ⟨⟨g', e⟩⟩
/-! ### isinstance of a class, of any kind of value -/
end
end FC
namespace PySem.W
open Lean Elab Tactic Meta PySem PySem.Calls PyProof.Rows
end PySem.W
namespace FC
open PySem PySem.Spec PyProof.Rows L2
/-! ### o + x, x of any kind -/
end FC
namespace FC
open PySem PySem.Spec PyProof.Rows L2
end FC
namespace FC
open PySem PySem.Spec PyProof.Rows L2
/-! ### repr of values that hold own objects: below the loops of repr, by the invariant -/
/-- a place below X's own, with room -/
structure Blw (X : Cx) (k : Nat) (A : Around) : Prop where
  r : Room k A
  fr : A.frames = some X.stack
theorem Blw.units {X : Cx} {k : Nat} {A : Around} (B : Blw X k A) : A.units < cLine := B.r.units0
theorem Blw.in1 {X : Cx} {k : Nat} {A : Around} (B : Blw X (k + 1) A) : Blw X k A.in1 := ⟨B.r.in1, B.fr⟩
theorem Blw.env0 {X : Cx} {k : Nat} {A : Around} {pins : List (Addr × Obj)} {σ : L2.St} {H : Hp} {s : Shared} (B : Blw X k A) (I : Inv X pins σ H s) : Env0 X.prog X.w X.K X.mg X.base A X.stack s H :=
  let e := I.env0
  ⟨B.fr, e.mod, e.bs, e.bsz, e.funs, e.frf, e.hok, e.bare⟩
theorem loop_depth {A : Around} {args : Args} : (A.under (.builtin "list.__repr__.loop" args)).depth ≤ A.depth + 1 := by
  first | exact Nat.le_refl _ | exact Nat.le_succ _ | simp [Around.under, Code.weight, Code.isCreation, Code.isGuard, Code.isCaller, Code.frames, Code.isFrame, guardIds]
theorem Blw.loop {X : Cx} {k : Nat} {A : Around} (B : Blw X (k + 1) A) (args : Args) : Blw X k (A.under (.builtin "list.__repr__.loop" args)) :=
  ⟨⟨B.r.hd, by have := B.r.dp; have := loop_depth (A := A) (args := args); omega, by have := B.r.un; rw [units_under_list_loop]; omega⟩, by
    first | exact B.fr | (simpa [Around.under, Code.envs, Code.isFrame, pushEnvs] using B.fr)⟩
/-- nothing changes but that tables may grow -/
abbrev KeepT := Keep (.of Nope)
/-- v has the text t, wherever it is asked below -/
def RpAt (X : Cx) (T : List (Addr × Str)) (H : Hp) (k : Nat) (P : List Code → Prop) (v : V) (t : Str) : Prop :=
  ∀ (base : Nat), base + t.length ≤ sizeLine → ∀ (A : Around) (g : List Code) (E : Value → Shared → Prop) (pins : List (Addr × Obj)) (σ : L2.St) (H1 : Hp) (s : Shared) (u : Value) (Q : Str → Shared → Prop), Blw X k A → A.guards = some g → P g → KeepT H H1 → LamX.Tabs T H1 → Inv X pins σ H1 s → RelV v u →
    (∀ H2 s2, KeepT H1 H2 → LamX.Tabs T H2 → Inv X pins σ H2 s2 → Q t s2) → wpAny (model X.prog X.w) A (pyReprUnder base u) Q E s
theorem RpAt.of_is {X : Cx} {T : List (Addr × Str)} {H : Hp} {k : Nat} {P : List Code → Prop} {v : V} {t : Str} (h : ∀ u, RelV v u → ReprIs X.prog X.w u t) : RpAt X T H k P v t :=
  fun base hb A g E pins σ H1 s u Q B hg hP kp tt I rv hQ => h u rv base hb A E s Q fun tk => hQ H1 _ (Keep.refl _ _) tt (I.tok tk)
/-- the texts in a list of texts -/
theorem vals_strs : ∀ {ts : List Str} {us : List Value}, Vals (ts.map V.str) us → ∃ l : List (Str × Tok), us = strValues l ∧ l.map (·.1) = ts
  | [], _, h => by cases h; exact ⟨[], rfl, rfl⟩
  | t :: ts, _, h => by
    cases h with
    | cons h1 h2 =>
      obtain ⟨k, rfl⟩ := h1
      obtain ⟨l, rfl, e⟩ := vals_strs h2
      exact ⟨(t, k) :: l, rfl, by rw [List.map_cons, e]⟩
theorem keepT_trans {H H1 H2 : Hp} (a : KeepT H H1) (b : KeepT H1 H2) : KeepT H H2 := Keep.trans a b
theorem keepT_upd {H H1 : Hp} {p : Addr} {o : HO} (a : KeepT H H1) (n : H p = none) : KeepT H (upd H1 p o) := fun b u e nb => by
  have ne : b ≠ p := fun z => by rw [z, n] at e; cases e
  have e2 : upd H1 p o b = H1 b := by unfold upd; rw [if_neg ne]
  rw [e2]
  exact a b u e nb
theorem keepT_lst {H H1 : Hp} {a : Addr} {vs : List V} (k : KeepT H H1) (h : H a = some (.lst vs)) : H1 a = some (.lst vs) := (k a _ h (fun z => z)).1 rfl
theorem tabs_upd {T : List (Addr × Str)} {H : Hp} {a : Addr} {u v : HO} (t : LamX.Tabs T H) (e : H a = some u) (n : isTbl u = false) (n2 : ∀ φ, u ≠ .ext φ := by intro _ z; cases z) : LamX.Tabs T (upd H a v) := fun p hp => by
  obtain ⟨ps, h1, h2, h3⟩ := t p hp
  refine ⟨ps, by rw [upd_ne (fun z => by rw [z, e] at h1; cases h1; cases n)]; exact h1, h2, fun pos cv hc => ?_⟩
  obtain ⟨c, e1, e2⟩ := h3 pos cv hc
  exact ⟨c, e1, by rw [upd_ne (fun z => by rw [z, e] at e2; exact n2 _ (Option.some.inj e2))]; exact e2⟩
section
variable {X : Cx} {T : List (Addr × Str)} {pins : List (Addr × Obj)} {σ : L2.St} {R : Result → Shared → Prop} {P' : List Code → Prop}
theorem rp_loop {a p : Addr} {vs : List V} {ts : List Str} {H0 : Hp} {k base : Nat} {A : Around} {g : List Code}
    (B : Blw X (k + 1) A) (hg : A.guards = some g) (hP' : ∀ args, P' (.builtin "list.__repr__.loop" ⟨.ref a :: args, []⟩ :: g)) (hp : H0 p = none) (hl : H0 a = some (.lst vs)) (hlen : ts.length = vs.length)
    (hT : ∀ (i : Nat) (v : V), vs[i]? = some v → ∃ t, ts[i]? = some t ∧ RpAt X T H0 k P' v t) (hsz : base + (listText ts).length ≤ sizeLine)
    (fin : ∀ H2 s2 u, KeepT H0 H2 → LamX.Tabs T H2 → Inv X pins σ H2 s2 → R (.ok (.ret (.str (listText ts) u))) s2) :
    ∀ (n i : Nat) (Hc : Hp) (s : Shared), vs.length - i = n → i ≤ vs.length → KeepT H0 Hc → LamX.Tabs T Hc → Hc p = some (.lst ((ts.take i).map V.str)) → Inv X pins σ Hc s →
      codeAny (model X.prog X.w) A (.builtin "list.__repr__.loop" ⟨[.ref a, rawInt i, .ref p, rawInt ((base + piled (ts.take i) : Nat) : Int)], []⟩) R s := by
  have pl := piled_le_listText ts
  have lx : (listText ts).length = (textFrom 0 "[" ts).length + 1 := by
    show (textFrom 0 "[" ts ++ "]").length = _
    rw [strLen_append]; rfl
  have tf := textFrom_len ts 0 "["
  have small : ∀ t ∈ ts, t.length ≤ sizeLine := fun t ht => by
    have := tf.2.1 t ht
    omega
  intro n
  induction n with
  | zero =>
    intro i Hc s hn hi kp tt hpc I
    have ie : i = vs.length := by omega
    obtain ⟨_, its, m, rv, rl, ea⟩ := I.lstM (keepT_lst kp hl)
    obtain ⟨_, jts, m2, rv2, rl2, ep⟩ := I.lstM hpc
    obtain ⟨l, rfl, el⟩ := vals_strs rv2
    refine codeAny_builtin F.entry_list_repr_loop ?_
    show wpAny _ _ (Builtin.«list.__repr__.loop» ⟨[.ref a, .int i 0, .ref p, .int ((base + piled (ts.take i) : Nat) : Int) 0], []⟩) _ _ s
    rw [repr_loop_tree]
    refine wpAny_bind (wpAny_listItems ea rfl ?_)
    have none_ : its.toArray[(i : Int).toNat]? = none := by simp [ie, rl]
    simp only [none_]
    unfold reprEnd
    refine wpAny_bind (wpAny_listItems ep rfl ?_)
    rw [show (strValues l).toArray.toList = strValues l by simp, repr_fold]
    refine wpAny_bind (wpAny_pure ?_)
    rw [el, ie, ← hlen, List.take_length]
    refine wpAny_bind (wpAny_mkStr (wpAny_pure ?_) (by show (listText ts).length ≤ _; omega))
    exact fin Hc _ _ kp tt (I.tok _)
  | succ n ih =>
    intro i Hc s hn hi kp tt hpc I
    have hlt : i < vs.length := by omega
    obtain ⟨t, ht, rep⟩ := hT i vs[i] (List.getElem?_eq_getElem hlt)
    obtain ⟨_, its, m, rv, rl, ea⟩ := I.lstM (keepT_lst kp hl)
    have hi2 : i < its.length := by omega
    have q1 := piled_take_succ ht
    have q2 := piled_take_le ts (i + 1)
    refine codeAny_builtin F.entry_list_repr_loop ?_
    show wpAny _ _ (Builtin.«list.__repr__.loop» ⟨[.ref a, .int i 0, .ref p, .int ((base + piled (ts.take i) : Nat) : Int) 0], []⟩) _ _ s
    rw [repr_loop_tree]
    refine wpAny_bind (wpAny_listItems ea rfl ?_)
    have some_ : its.toArray[(i : Int).toNat]? = some its[i] := by simp [hi2]
    simp only [some_]
    rw [Int.toNat_natCast]
    have rvi : RelV vs[i] its[i] := by
      obtain ⟨w, e, r⟩ := rv.get (List.getElem?_eq_getElem hlt)
      rw [List.getElem?_eq_getElem hi2] at e
      cases e
      exact r
    refine wpAny_bind (wpAny_holding (rep (base + piled (ts.take i) + 1) (by omega) _ _ _ pins σ Hc s _ _ (B.loop _) (guards_under_guard (isGuard_list_loop _) hg) (hP' _) kp tt I rvi fun H2 s2 k2 tt2 I2 => ?_))
    have hp2 := keepT_lst k2 hpc
    refine wpAny_bind (wpAny_mkStr ?_ (small t (List.mem_of_getElem? ht)))
    refine wpAny_bind ?_
    show wpAny _ _ (updateSeq p _) _ _ _
    obtain ⟨_, jts, m2, rv2, rl2, ep⟩ := I2.lstM hp2
    have jl : jts.length = i := by
      rw [← rl2, List.length_map, List.length_take]
      omega
    refine wpAny_updateSeq (n := m2) (xs := jts.toArray) ep rfl (wpAny_pure ⟨F.quiet_list_repr_loop _, ?_⟩) (by
      have := tf.1
      rw [if_neg (Nat.lt_irrefl 0)] at this
      show jts.toArray.size ≤ _
      simp only [List.size_toArray]
      omega)
    have e1 : ((i : Int) + 1) = ((i + 1 : Nat) : Int) := by omega
    have e2 : base + piled (ts.take i) + (t.length + 2) = base + piled (ts.take (i + 1)) := by omega
    rw [e1, e2]
    have tk : ts.take (i + 1) = ts.take i ++ [t] := by rw [List.take_add_one, ht]; rfl
    refine ih (i + 1) (upd H2 p (.lst ((ts.take (i + 1)).map V.str))) _ (by omega) hlt (keepT_upd (keepT_trans kp k2) hp) (tabs_upd tt2 hp2 rfl) (by unfold upd; rw [if_pos rfl]) ?_
    refine Inv.lset (its' := jts ++ [.str t s2.toks]) (I2.tok (s2.toks + 1)) hp2 ep (by simp) ?_ ?_
    · rw [tk, List.map_append]
      exact Vals.append rv2 (.cons ⟨_, rfl⟩ .nil)
    · rw [List.length_map, List.length_take]
      have := tf.1
      rw [if_neg (Nat.lt_irrefl 0)] at this
      omega
theorem RpAt.keep {H H1 : Hp} {k : Nat} {P : List Code → Prop} {v : V} {t : Str} (r : RpAt X T H k P v t) (kp : KeepT H H1) : RpAt X T H1 k P v t :=
  fun base hb A g E pins σ H2 s u Q B hg hP k2 tt I rv hQ => r base hb A g E pins σ H2 s u Q B hg hP (keepT_trans kp k2) tt I rv hQ
/-- the texts of the parts -/
def RpAll (X : Cx) (T : List (Addr × Str)) (H : Hp) (k : Nat) (P : List Code → Prop) (vs : List V) (ts : List Str) : Prop := ts.length = vs.length ∧ ∀ (i : Nat) (v : V), vs[i]? = some v → ∃ t, ts[i]? = some t ∧ RpAt X T H k P v t
theorem RpAll.keep {H H1 : Hp} {k : Nat} {P : List Code → Prop} {vs : List V} {ts : List Str} (r : RpAll X T H k P vs ts) (kp : KeepT H H1) : RpAll X T H1 k P vs ts := ⟨r.1, fun i v e => let ⟨t, a, b⟩ := r.2 i v e; ⟨t, a, b.keep kp⟩⟩
theorem RpAll.nil {H : Hp} {k : Nat} {P : List Code → Prop} : RpAll X T H k P [] [] := ⟨rfl, fun i v e => by simp at e⟩
theorem RpAll.cons {H : Hp} {k : Nat} {P : List Code → Prop} {v : V} {t : Str} {vs : List V} {ts : List Str} (a : RpAt X T H k P v t) (b : RpAll X T H k P vs ts) : RpAll X T H k P (v :: vs) (t :: ts) := ⟨by rw [List.length_cons, List.length_cons, b.1], fun i w e => by
  cases i with
  | zero => cases e; exact ⟨t, rfl, a⟩
  | succ i => exact b.2 i w e⟩
theorem RpAll.tail {H : Hp} {k : Nat} {P : List Code → Prop} {v : V} {t : Str} {vs : List V} {ts : List Str} (a : RpAll X T H k P (v :: vs) (t :: ts)) : RpAll X T H k P vs ts := ⟨by have := a.1; rw [List.length_cons, List.length_cons] at this; omega, fun i w e => a.2 (i + 1) w e⟩
/-- list.__repr__ at a list that is not empty -/
theorem rp_listAt {a : Addr} {v : V} {vs : List V} {ts : List Str} {H1 : Hp} {k base : Nat} {A : Around} {g : List Code} {s : Shared}
    (B : Blw X (k + 1) A) (hg : A.guards = some g) (hc : Clear g a) (hP' : ∀ args, P' (.builtin "list.__repr__.loop" ⟨.ref a :: args, []⟩ :: g)) (hl : H1 a = some (.lst (v :: vs))) (hT : RpAll X T H1 k P' (v :: vs) ts) (hsz : base + (listText ts).length ≤ sizeLine) (tt : LamX.Tabs T H1) (I : Inv X pins σ H1 s)
    (fin : ∀ H2 s2 u, KeepT H1 H2 → LamX.Tabs T H2 → Inv X pins σ H2 s2 → R (.ok (.ret (.str (listText ts) u))) s2) :
    wpAny (model X.prog X.w) A.in1 (Builtin.listReprAt base ⟨[.ref a], []⟩) (fun fin s' => match fin with | .done f => R (.ok f) s' | .again c' => c'.quiet = true ∧ codeAny (model X.prog X.w) A c' R s') (fun e s' => R (.error e) s') s := by
  obtain ⟨_, its, m, rv, rl, ea⟩ := I.lstM hl
  cases rv with
  | cons r1 r2 =>
    refine wpAny_list_repr_head (A := A.in1) hg (fun v rest kw hm => listSameRef_of_ne (hc _ _ _ _ hm)) ea rfl ?_
    refine wpAny_bind (m := newList []) (wpAny_newObj_type ?_)
    refine wpAny_pure ⟨F.quiet_list_repr_loop _, ?_⟩
    have fr := I.fresh
    exact rp_loop (p := s.heap.objs.size) B hg hP' fr hl hT.1 hT.2 hsz fin _ 0 _ _ rfl (Nat.zero_le _) (keepT_upd (Keep.refl _ _) fr) (tt.ext fun b o e => by rw [upd_ne (fun z => by rw [z, fr] at e; cases e)]; exact e) (by unfold upd; rw [if_pos rfl]; rfl) (Inv.lnew (its := []) I .nil (Nat.zero_le _))
/-- the parts of a tuple -/
theorem rp_fold {k : Nat} {A : Around} {g : List Code} {E : Value → Shared → Prop} (B : Blw X k A) (hg : A.guards = some g) (hP : P' g) : ∀ (vs : List V) (us : List Value) (ts : List Str) (acc : Array Str) (n : Nat) (H1 : Hp) (s : Shared) (Q : (Array Str × Nat) → Shared → Prop), Vals vs us → RpAll X T H1 k P' vs ts → n + piled ts ≤ sizeLine → LamX.Tabs T H1 → Inv X pins σ H1 s →
    (∀ H2 s2, KeepT H1 H2 → LamX.Tabs T H2 → Inv X pins σ H2 s2 → Q ⟨acc ++ ts.toArray, n + piled ts⟩ s2) → wpAny (model X.prog X.w) A (forIn us (⟨acc, n⟩ : (Array Str × Nat)) tupBody) Q E s
  | [], _, ts, acc, n, H1, s, Q, rv, hT, hn, tt, I, q => by
    cases rv
    have e : ts = [] := List.length_eq_zero_iff.mp hT.1
    subst e
    have := q H1 s (Keep.refl _ _) tt I
    simp only [List.forIn_nil]
    exact wpAny_pure (by simpa [piled] using this)
  | v :: vs, _, [], acc, n, H1, s, Q, rv, hT, hn, tt, I, q => by have := hT.1; simp at this
  | v :: vs, _, t :: ts, acc, n, H1, s, Q, rv, hT, hn, tt, I, q => by
    cases rv with
    | cons r1 r2 =>
      obtain ⟨t2, et, rep⟩ := hT.2 0 v rfl
      cases et
      rw [piled_cons] at hn
      rw [List.forIn_cons]
      refine wpAny_bind (wpAny_bind (rep (n + 1) (by omega) A g E pins σ H1 s _ _ B hg hP (Keep.refl _ _) tt I r1 fun H2 s2 k2 tt2 I2 => wpAny_pure ?_))
      refine rp_fold B hg hP vs _ ts (acc.push t) (n + (t.length + 2)) H2 s2 Q r2 (hT.tail.keep k2) (by omega) tt2 I2 fun H3 s3 k3 tt3 I3 => ?_
      have h1 := q H3 s3 (keepT_trans k2 k3) tt3 I3
      rw [piled_cons, ← Nat.add_assoc] at h1
      simpa using h1
theorem depth_tup {A : Around} {args : Args} : (A.under (.builtin "tuple.__repr__" args)).depth ≤ A.depth + 1 := by
  first | exact Nat.le_refl _ | exact Nat.le_succ _ | simp [Around.under, Code.weight, Code.isCreation, Code.isGuard, Code.isCaller, Code.frames, Code.isFrame, guardIds]
theorem Blw.tup {X : Cx} {k : Nat} {A : Around} (B : Blw X (k + 1) A) (args : Args) : Blw X k (A.under (.builtin "tuple.__repr__" args)) :=
  ⟨⟨B.r.hd, by have := B.r.dp; have := depth_tup (A := A) (args := args); omega, by have := B.r.un; rw [units_under_tuple_repr]; omega⟩, by
    first | exact B.fr | (simpa [Around.under, Code.envs, Code.isFrame, pushEnvs] using B.fr)⟩
theorem depth_tupU {A : Around} {args : Args} : (A.under (.builtin "tuple.__repr__.under" args)).depth ≤ A.depth + 1 := by
  first | exact Nat.le_refl _ | exact Nat.le_succ _ | simp [Around.under, Code.weight, Code.isCreation, Code.isGuard, Code.isCaller, Code.frames, Code.isFrame, guardIds]
theorem Blw.tupU {X : Cx} {k : Nat} {A : Around} (B : Blw X (k + 1) A) (args : Args) : Blw X k (A.under (.builtin "tuple.__repr__.under" args)) :=
  ⟨⟨B.r.hd, by have := B.r.dp; have := depth_tupU (A := A) (args := args); omega, by have := B.r.un; rw [units_under_tuple_repr_under]; omega⟩, by
    first | exact B.fr | (simpa [Around.under, Code.envs, Code.isFrame, pushEnvs] using B.fr)⟩
theorem depth_dct {A : Around} {args : Args} : (A.under (.builtin "dict.__repr__" args)).depth ≤ A.depth + 1 := by
  first | exact Nat.le_refl _ | exact Nat.le_succ _ | simp [Around.under, Code.weight, Code.isCreation, Code.isGuard, Code.isCaller, Code.frames, Code.isFrame, guardIds]
theorem Blw.dct {X : Cx} {k : Nat} {A : Around} (B : Blw X (k + 1) A) (args : Args) : Blw X k (A.under (.builtin "dict.__repr__" args)) :=
  ⟨⟨B.r.hd, by have := B.r.dp; have := depth_dct (A := A) (args := args); omega, by have := B.r.un; rw [units_under_dict_repr]; omega⟩, by
    first | exact B.fr | (simpa [Around.under, Code.envs, Code.isFrame, pushEnvs] using B.fr)⟩
theorem depth_dctU {A : Around} {args : Args} : (A.under (.builtin "dict.__repr__.under" args)).depth ≤ A.depth + 1 := by
  first | exact Nat.le_refl _ | exact Nat.le_succ _ | simp [Around.under, Code.weight, Code.isCreation, Code.isGuard, Code.isCaller, Code.frames, Code.isFrame, guardIds]
theorem Blw.dctU {X : Cx} {k : Nat} {A : Around} (B : Blw X (k + 1) A) (args : Args) : Blw X k (A.under (.builtin "dict.__repr__.under" args)) :=
  ⟨⟨B.r.hd, by have := B.r.dp; have := depth_dctU (A := A) (args := args); omega, by have := B.r.un; rw [units_under_dict_repr_under]; omega⟩, by
    first | exact B.fr | (simpa [Around.under, Code.envs, Code.isFrame, pushEnvs] using B.fr)⟩
/-- tuple.__repr__ -/
theorem rp_tupAt {id : String} {rest : List Value} {a : Addr} {vs : List V} {ts : List Str} {H1 : Hp} {k base : Nat} {A : Around} {g : List Code} {s : Shared}
    (B : Blw X k (A.under (.builtin id ⟨.ref a :: rest, []⟩))) (hcg : (Code.builtin id ⟨.ref a :: rest, []⟩).isGuard = true) (hg : A.guards = some g) (hc : Clear g a) (hP' : P' (.builtin id ⟨.ref a :: rest, []⟩ :: g)) (hl : H1 a = some (.tup vs)) (hT : RpAll X T H1 k P' vs ts) (hsz : base + (tupleText ts).length ≤ sizeLine) (tt : LamX.Tabs T H1) (I : Inv X pins σ H1 s)
    (fin : ∀ H2 s2 u, KeepT H1 H2 → LamX.Tabs T H2 → Inv X pins σ H2 s2 → R (.ok (.ret (.str (tupleText ts) u))) s2) :
    wpOwn (model X.prog X.w) A (.builtin id ⟨.ref a :: rest, []⟩) (Builtin.tupleReprAt base ⟨[.ref a], []⟩) (fun fin s' => match fin with | .done f => R (.ok f) s' | .again c' => c'.quiet = true ∧ codeAny (model X.prog X.w) A c' R s') (fun e s' => R (.error e) s') s := by
  obtain ⟨its, rv, ⟨o, ea, ec, n, ed⟩, _⟩ := I.tuple (.inl (Rd.of hl))
  have e0 : ts.length = its.length := by rw [hT.1, rv.length]
  have pl := piled_le_tupleText ts
  rw [tuple_repr_tree, tupleReprUnderWay_eq]
  refine wpOwn_bind (wpOwn_stackTailAny hg (tupGuardF_off _) (tupGuardF_pos _) ?_)
  rw [show (g.any fun c => tupGuardF (.ref a) (c, default)) = false from List.any_eq_false.mpr fun c hm => by rw [tupGuardF_of_clear hc c hm]; exact Bool.false_ne_true]
  refine wpOwn_of_wpAny ?_
  show wpAny _ _ (tupleReprRest base (.ref a)) _ _ s
  unfold tupleReprRest Builtin.Tuple.tupleItemsOf
  refine wpAny_bind (wpAny_bind (wpAny_seqItems ea ed (wpAny_pure ?_)))
  rw [← Array.forIn_toList]
  refine wpAny_bind (rp_fold B (guards_under_guard hcg hg) hP' vs its ts _ _ H1 s _ rv hT (by omega) tt I fun H2 s2 k2 tt2 I2 => ?_)
  refine wpAny_bind (wpAny_mkStr (wpAny_pure ?_) ?_)
  · have h1 := fin H2 _ s2.toks k2 tt2 (I2.tok (s2.toks + 1))
    simpa [tupleText, e0] using h1
  · have : (tupleText ts).length ≤ sizeLine := by omega
    simpa [tupleText, e0] using this
/-- the texts of a dict's entries -/
def RpEnt (X : Cx) (T : List (Addr × Str)) (H : Hp) (k : Nat) (P : List Code → Prop) (kvs : List (Key × V)) (ts : List Str) : Prop := ts.length = kvs.length ∧ ∀ (i : Nat) (e : Key × V), kvs[i]? = some e → ∃ (x t : Str), ts[i]? = some (x ++ ": " ++ t) ∧ RpAt X T H k P (kV e.1) x ∧ RpAt X T H k P e.2 t
theorem ent_at {kvs : List (Key × V)} {vs : List (Key × Value)} {es : List DictEntry} (kv : KV kvs vs) (pr : Pairs (mixKind X.prog X.w) es vs) : ∀ (i : Nat) (e : DictEntry), es[i]? = some e → ∃ q : Key × V, kvs[i]? = some q ∧ RelV (kV q.1) e.key ∧ RelV q.2 e.val := by
  induction pr generalizing kvs with
  | nil => intro i e h; simp at h
  | cons h1 h2 _ ih =>
    cases kv with
    | cons r rs =>
      intro i e h
      cases i with
      | zero =>
        cases h
        refine ⟨_, rfl, ?_, ?_⟩
        · rw [r.1]; exact relV_key h1
        · rw [h2]; exact r.2
      | succ i => exact ih rs i e h
theorem keepT_lock {H1 H2 : Hp} {a : Addr} {u v : HO} (e : H1 a = some v) (k : KeepT (upd H1 a u) H2) : KeepT H1 (upd H2 a v) := fun b o q nb => by
  by_cases hb : b = a
  · subst hb
    rw [e] at q
    cases q
    have e2 : upd H2 b v b = some v := by unfold upd; rw [if_pos rfl]
    refine ⟨fun _ => e2, fun t => ⟨v, e2, t, (KN.of Nope).ok_refl v⟩⟩
  · have e2 : upd H2 a v b = H2 b := by unfold upd; rw [if_neg hb]
    rw [e2]
    exact k b o (by unfold upd; rw [if_neg hb]; exact q) nb
/-- dict.__repr__ -/
theorem rp_dctAt {id : String} {rest : List Value} {a : Addr} {kvs : List (Key × V)} {ts : List Str} {H1 : Hp} {k base : Nat} {A : Around} {g : List Code} {s : Shared}
    (B : Blw X k (A.under (.builtin id ⟨.ref a :: rest, []⟩))) (hcg : (Code.builtin id ⟨.ref a :: rest, []⟩).isGuard = true) (hg : A.guards = some g) (hc : Clear g a) (hP' : P' (.builtin id ⟨.ref a :: rest, []⟩ :: g)) (hl : H1 a = some (.dK kvs))
    (hT : ∀ od, RpEnt X T (upd H1 a (.frz od (.dK kvs))) k P' kvs ts) (hsz : base + (dictText ts).length ≤ sizeLine) (tt : LamX.Tabs T H1) (I : Inv X pins σ H1 s)
    (fin : ∀ H2 s2 u, KeepT H1 H2 → LamX.Tabs T H2 → Inv X pins σ H2 s2 → R (.ok (.ret (.str (dictText ts) u))) s2) :
    wpOwn (model X.prog X.w) A (.builtin id ⟨.ref a :: rest, []⟩) (Builtin.dictReprAt base ⟨[.ref a], []⟩) (fun fin s' => match fin with | .done f => R (.ok f) s' | .again c' => c'.quiet = true ∧ codeAny (model X.prog X.w) A c' R s') (fun e s' => R (.error e) s') s := by
  have hn := I.nofrz hl trivial
  obtain ⟨od, IL⟩ := I.lock hl trivial
  have el : upd H1 a (.frz od (.dK kvs)) a = some (.frz od (.dK kvs)) := by unfold upd; rw [if_pos rfl]
  obtain ⟨hs, ea, hx, es, ep, vs, ed, en, kv, o2, es2, e0, _, ed2, _, pr, _⟩ := IL.frzK el
  rw [ea] at e0
  cases e0
  rw [ed] at ed2
  cases ed2
  have hT := hT od
  have lk : ∀ {H2 : Hp}, KeepT (upd H1 a (.frz od (.dK kvs))) H2 → H2 a = some (.frz od (.dK kvs)) := fun k2 => (k2 a _ el (fun z => z)).1 rfl
  have pl := piled_le_dictText ts
  have lts : ts.length = es.size := by rw [hT.1, en]
  have hTy : s.TypeIs (.ref a) "dict" := ⟨od, ea, hx.1⟩
  unfold Builtin.dictReprAt
  refine wpOwn_bind (wpOwn_of_wpAny ?_)
  unfold Builtin.Dict.dictSlotNone
  refine wpAny_bind (wpAny_notOrdered_dict hTy ?_)
  show wpAny _ _ (pure (Value.ref a)) _ _ s
  refine wpAny_pure ?_
  rw [dictReprRunning_eq]
  refine wpOwn_bind (wpOwn_stackTailAny hg (dictGuardF_off _) (dictGuardF_pos _) ?_)
  rw [show (g.any fun c => dictGuardF (.ref a) (c, default)) = false from List.any_eq_false.mpr fun c hm => by rw [dictGuardF_of_clear hc c hm]; exact Bool.false_ne_true]
  refine wpOwn_of_wpAny ?_
  have hg' := guards_under_guard hcg hg
  show wpAny _ _ (Builtin.Dict.addrOf (.ref a) >>= _) _ _ s
  refine wpAny_bind (wpAny_pure ?_)
  show wpAny _ _ (Builtin.Dict.showsAll a >>= _) _ _ s
  unfold Builtin.Dict.showsAll
  rw [if_neg (by rw [hs]; exact Bool.false_ne_true)]
  refine wpAny_bind (wpAny_pure ?_)
  refine wpAny_bind (wpAny_dictEpoch ea ed ?_)
  refine wpAny_bind (wpAny_dictEntries ea ed ?_)
  refine wpAny_bind ?_
  rw [Std.Legacy.Range.forIn_eq_forIn_range']
  simp only [Std.Legacy.Range.size, Nat.sub_zero, Nat.add_sub_cancel, Nat.div_one]
  refine wpAny_forIn_list _
    (fun rest' r s' => ∃ i H2, rest' = List.range' i (es.size - i) ∧ i ≤ es.size ∧ r = (⟨(ts.take i).toArray, base + piled (ts.take i)⟩ : (Array Str × Nat)) ∧ KeepT (upd H1 a (.frz od (.dK kvs))) H2 ∧ LamX.Tabs T H2 ∧ Inv X pins σ H2 s')
    _ ?_ ?_ _ _ ⟨0, _, by simp, Nat.zero_le _, by simp [piled], Keep.refl _ _, tabs_upd tt hl rfl, IL⟩
  · rintro x rest' _ s' ⟨i, H2, hr, hi, rfl, k2, tt2, I2⟩
    have hlt : i < es.size := by
      rcases Nat.lt_or_ge i es.size with h | h
      · exact h
      · rw [Nat.sub_eq_zero_of_le h] at hr; simp at hr
    obtain ⟨rfl, hrest⟩ : x = i ∧ rest' = List.range' (i + 1) (es.size - (i + 1)) := by
      have e : es.size - i = (es.size - (i + 1)) + 1 := by omega
      rw [e, List.range'_succ] at hr
      injection hr with h1 h2
      exact ⟨h1, h2⟩
    obtain ⟨q, q1, rk, rv⟩ := ent_at kv pr x es[x] (by simp [hlt])
    obtain ⟨y, t, ht, ry, rt⟩ := hT.2 x q q1
    have len2 : (y ++ ": " ++ t).length = y.length + 2 + t.length := by
      rw [strLen_append, strLen_append]; rfl
    have p1 := piled_take_succ ht
    have p2 := piled_take_le ts (x + 1)
    rw [len2] at p1
    have at2 : s'.heap.get? a = some od := (IL.frzK el |> fun _ => (I2.frzK (lk k2)).2.1)
    refine wpAny_bind (wpAny_dictEntries at2 ed ?_)
    rw [Array.getElem?_eq_getElem hlt]
    refine wpAny_bind (wpAny_holding (wpAny_bind (ry (base + piled (ts.take x) + 1) (by omega) _ _ _ pins σ H2 s' _ _ B hg' hP' k2 tt2 I2 rk fun H3 s3 k3 tt3 I3 =>
      wpAny_bind (rt (base + piled (ts.take x) + (y.length + 3)) (by omega) _ _ _ pins σ H3 s3 _ _ B hg' hP' (keepT_trans k2 k3) tt3 I3 rv fun H4 s4 k4 tt4 I4 => wpAny_pure ?_))))
    have kk := keepT_trans k2 (keepT_trans k3 k4)
    refine wpAny_bind (wpAny_dictEpoch (I4.frzK (lk kk)).2.1 ed ?_)
    rw [if_neg (by simp)]
    have e1 : (ts.take x).toArray.push (y ++ ": " ++ t) = (ts.take (x + 1)).toArray := by
      rw [List.take_add_one, ht]
      simp
    have e2 : base + piled (ts.take x) + (y.length + t.length + 4) = base + piled (ts.take (x + 1)) := by omega
    refine wpAny_pure ⟨x + 1, H4, hrest, hlt, ?_, kk, tt4, I4⟩
    rw [e1, e2]
  · rintro _ s' ⟨i, H2, hr, hi, rfl, k2, tt2, I2⟩
    have hin : i = es.size := by
      rcases Nat.lt_or_ge i es.size with h | h
      · have e : es.size - i = (es.size - (i + 1)) + 1 := by omega
        rw [e, List.range'_succ] at hr; exact nomatch hr
      · exact Nat.le_antisymm hi h
    rw [hin, ← lts, List.take_length]
    refine wpAny_bind (wpAny_mkStr (wpAny_pure ?_) ?_)
    · have h1 := fin (upd H2 a (.dK kvs)) _ s'.toks (keepT_lock hl k2) (tabs_upd tt2 (lk k2) rfl) ((I2.unlock (lk k2) hn).tok (s'.toks + 1))
      simpa [dictText] using h1
    · have : (dictText ts).length ≤ sizeLine := by omega
      simpa [dictText] using this
/-- an own object's text is asked for below -/
theorem reprU_K {M : Model} {A : Around} {E : Value → Shared → Prop} {s : Shared} {K : PySem.W.Frag} {x f C : Addr} {ox : Obj} {od : Option Obj} {b : Nat} {Q : Value → Shared → Prop} (hu : A.units < cLine) (kin : K.In s.heap) (I : PySem.W.InstAt s.heap x ox C od) (hs : PySem.W.findIn K (.ref C) "__repr__" = some (some (.ref f))) (hf : PySem.W.isFn K (.ref f) = true)
    (h : wpAny M A (call (.ref f) [.ref x]) (fun v s' => (∃ y u, v = .str y u) ∧ Q v s') E s) : wpAny M A (pyReprObjUnder b (.ref x)) Q E s := by
  unfold pyReprObjUnder pyReprObjBy
  refine wpAny_bind (wpAny_cRoomFor hu ?_)
  refine wpAny_bind (wpAny_bind (I.type.here ((PySem.W.looks_findIn kin hs).here ?_)))
  show wpAny _ _ (if (some (Value.ref f)).isNone = true then _ else _) _ _ _
  rw [if_neg (by simp)]
  refine wpAny_bind ?_
  simp only [callSpecialIfBoundBy?, bindSpecialIfBound?]
  refine wpAny_holding (wpAny_bind (wpAny_bind (wpAny_bind (I.type.here ((PySem.W.looks_findIn kin hs).here ?_)))))
  refine wpAny_bind (wpAny_askSetting (wpAny_ite ?_))
  have fin : wpAny M A (call (.ref f) ([.ref x] ++ []) >>= fun v => pure (some v)) (fun a s' => wpAny M A (match a with
      | some r => do
        let __do_lift ← isInstance r (Value.type "str")
        if __do_lift = true then pure r
          else do
            let __do_lift ← typeNameOf r
            raiseErrorMade "TypeError" (toString "__repr__ returned non-string (type " ++ toString __do_lift ++ toString ")")
      | none => unsupported "repr:special-get-raises") Q E s') E s := by
    refine wpAny_bind (wpAny_mono h (fun v s' hv => wpAny_pure ?_) fun _ _ z => z)
    obtain ⟨⟨y, u, rfl⟩, hq⟩ := hv
    exact wpAny_bind (wpAny_isInstance (T := "str") (b := true) rfl isSubtype_str_str (wpAny_pure hq))
  split
  · exact wpAny_bind ((PySem.W.bind_fn kin _ (beq_iff_eq.mp hf)).here (wpAny_pure (by exact fin)))
  · exact wpAny_tryCatch (wpAny_bind ((PySem.W.bind_fn kin _ (beq_iff_eq.mp hf)).here (wpAny_pure (by exact fin))))
end
end FC
namespace FC
open PySem PySem.Spec PyProof.Rows L2
section
variable {X : Cx} {T : List (Addr × Str)} {H : Hp} {k : Nat} {P P' : List Code → Prop}
theorem keepT_at {H H1 : Hp} {a : Addr} {o : HO} (kp : KeepT H H1) (h : H a = some o) (n : isTbl o = false) : H1 a = some o := (kp a _ h (fun z => z)).1 n
/-! ### below: lists, tuples, dicts -/
theorem empty_text : listText [] = ("[]" : Str) := by decide
theorem rp_list {a : Addr} {vs : List V} {ts : List Str} (hl : H a = some (.lst vs)) (hT : RpAll X T H k P' vs ts) (hc : ∀ g, P g → Clear g a ∧ ∀ args, P' (.builtin "list.__repr__.loop" ⟨.ref a :: args, []⟩ :: g)) : RpAt X T H (k + 1) P (.ref a) (listText ts) := by
  intro base hb A g E pins σ H1 s u Q B hg hP kp tt I rv hQ
  cases (show u = Value.ref a from rv)
  have hl1 := keepT_lst kp hl
  obtain ⟨c1, c2⟩ := hc g hP
  obtain ⟨_, its, m, rv2, rl, ea⟩ := I.lstM hl1
  have ty : s.TypeIs (.ref a) "list" := ⟨_, ea, rfl⟩
  refine wpAny_pyReprUnder_ref (by omega) ?_
  cases vs with
  | nil =>
    cases rv2
    have e : ts = [] := List.length_eq_zero_iff.mp hT.1
    subst e
    refine wpAny_pyReprObjUnder_list_empty ty B.units ea rfl ⟨_, _, rfl, ?_⟩
    rw [← empty_text]
    exact hQ H1 _ (Keep.refl _ _) tt (I.tok _)
  | cons v vs =>
    exact wpAny_pyReprObjUnder_twin (twin := "list.__repr__.under") ty F.slot_list_repr.toG rfl B.units
      (call_twin_plain F.plain_list_repr_under F.entry_list_repr_under F.check_list_repr_under ty F.slot_list_repr.toG (F.args_list_repr_1 _)
        (rp_listAt (R := callEnd _ E) B hg c1 c2 hl1 (hT.keep kp) hb tt I fun H2 s2 w k2 tt2 I2 => ⟨⟨_, _, rfl⟩, _, _, rfl, hQ H2 s2 k2 tt2 I2⟩))
theorem rp_tup {a : Addr} {vs : List V} {ts : List Str} (hl : H a = some (.tup vs)) (hT : RpAll X T H k P' vs ts) (hc : ∀ g, P g → Clear g a ∧ ∀ args, P' (.builtin "tuple.__repr__.under" ⟨.ref a :: args, []⟩ :: g)) : RpAt X T H (k + 1) P (.ref a) (tupleText ts) := by
  intro base hb A g E pins σ H1 s u Q B hg hP kp tt I rv hQ
  cases (show u = Value.ref a from rv)
  have hl1 := keepT_at kp hl rfl
  obtain ⟨c1, c2⟩ := hc g hP
  obtain ⟨its, rv2, ⟨o, ea, ec, n, ed⟩, _⟩ := I.tuple (.inl (Rd.of hl1))
  have ty : s.TypeIs (.ref a) "tuple" := ⟨o, ea, ec⟩
  refine wpAny_pyReprUnder_ref (by omega) ?_
  exact wpAny_pyReprObjUnder_twin (twin := "tuple.__repr__.under") ty F.slot_tuple_repr rfl B.units
    (call_twin_own (F.quiet_tuple_repr_under _) F.entry_tuple_repr_under F.check_tuple_repr_under ty F.slot_tuple_repr (F.args_tuple_repr_1 _)
      (rp_tupAt (R := callEnd _ E) (B.tupU _) (isGuard_tuple_repr_under _) hg c1 (c2 _) hl1 (hT.keep kp) hb tt I fun H2 s2 w k2 tt2 I2 => ⟨⟨_, _, rfl⟩, _, _, rfl, hQ H2 s2 k2 tt2 I2⟩))
theorem keepT_upd2 {H H1 : Hp} {a : Addr} {u v : HO} (kp : KeepT H H1) (h : H a = some u) : KeepT (upd H a v) (upd H1 a v) := fun b o e nb => by
  by_cases hb : b = a
  · subst hb
    have e1 : upd H b v b = some v := by unfold upd; rw [if_pos rfl]
    have e2 : upd H1 b v b = some v := by unfold upd; rw [if_pos rfl]
    rw [e1] at e
    cases e
    exact ⟨fun _ => e2, fun t => ⟨v, e2, t, (KN.of Nope).ok_refl v⟩⟩
  · rw [upd_ne hb] at e ⊢
    exact kp b o e nb
theorem RpEnt.keep {H H1 : Hp} {kvs : List (Key × V)} {ts : List Str} (r : RpEnt X T H k P kvs ts) (kp : KeepT H H1) : RpEnt X T H1 k P kvs ts := ⟨r.1, fun i e h => let ⟨x, t, a, b, c⟩ := r.2 i e h; ⟨x, t, a, b.keep kp, c.keep kp⟩⟩
theorem rp_dct {a : Addr} {kvs : List (Key × V)} {ts : List Str} (hl : H a = some (.dK kvs)) (hT : ∀ od, RpEnt X T (upd H a (.frz od (.dK kvs))) k P' kvs ts) (hc : ∀ g, P g → Clear g a ∧ ∀ args, P' (.builtin "dict.__repr__.under" ⟨.ref a :: args, []⟩ :: g)) : RpAt X T H (k + 1) P (.ref a) (dictText ts) := by
  intro base hb A g E pins σ H1 s u Q B hg hP kp tt I rv hQ
  cases (show u = Value.ref a from rv)
  have hl1 := keepT_at kp hl rfl
  obtain ⟨c1, c2⟩ := hc g hP
  obtain ⟨_, _, vs, kv, o, es, ep, ea, hx, hd, _⟩ := I.hok a _ hl1
  have ty : s.TypeIs (.ref a) "dict" := ⟨o, ea, hx.1⟩
  refine wpAny_pyReprUnder_ref (by omega) ?_
  exact wpAny_pyReprObjUnder_twin (twin := "dict.__repr__.under") ty F.slot_dict_repr rfl B.units
    (call_twin_own (F.quiet_dict_repr_under _) F.entry_dict_repr_under F.check_dict_repr_under ty F.slot_dict_repr (F.args_dict_repr_1 _)
      (rp_dctAt (R := callEnd _ E) (B.dctU _) (isGuard_dict_repr_under _) hg c1 (c2 _) hl1 (fun od => (hT od).keep (keepT_upd2 kp hl)) hb tt I fun H2 s2 w k2 tt2 I2 => ⟨⟨_, _, rfl⟩, _, _, rfl, hQ H2 s2 k2 tt2 I2⟩))
/-! ### repr(x) itself -/
def RpTop (X : Cx) (T : List (Addr × Str)) (H : Hp) (k : Nat) (P : List Code → Prop) (v : V) (t : Str) : Prop :=
  ∀ (A : Around) (g : List Code) (E : Value → Shared → Prop) (pins : List (Addr × Obj)) (σ : L2.St) (H1 : Hp) (s : Shared) (u : Value) (Q : Value → Shared → Prop), Blw X k A → A.guards = some g → P g → KeepT H H1 → LamX.Tabs T H1 → Inv X pins σ H1 s → RelV v u →
    (∀ H2 s2 tk, KeepT H1 H2 → LamX.Tabs T H2 → Inv X pins σ H2 s2 → Q (.str t tk) s2) → wpAny (model X.prog X.w) A (call (.builtin "repr") [u]) Q E s
theorem top_list {a : Addr} {vs : List V} {ts : List Str} (hl : H a = some (.lst vs)) (hT : RpAll X T H k P' vs ts) (hc : ∀ g, P g → Clear g a ∧ ∀ args, P' (.builtin "list.__repr__.loop" ⟨.ref a :: args, []⟩ :: g)) (hz : (listText ts).length ≤ sizeLine) : RpTop X T H (k + 2) P (.ref a) (listText ts) := by
  intro A g E pins σ H1 s u Q B hg hP kp tt I rv hQ
  cases (show u = Value.ref a from rv)
  have hl1 := keepT_lst kp hl
  obtain ⟨c1, c2⟩ := hc g hP
  obtain ⟨_, its, m, rv2, rl, ea⟩ := I.lstM hl1
  have ty : s.TypeIs (.ref a) "list" := ⟨_, ea, rfl⟩
  have hu : A.units + 1 < cLine := by have := B.r.un; omega
  refine call_repr_slot hu ty F.slot_list_repr.toG ?_
  cases vs with
  | nil =>
    cases rv2
    have e : ts = [] := List.length_eq_zero_iff.mp hT.1
    subst e
    refine call_list_repr_empty ty ea rfl ⟨_, _, rfl, ?_⟩
    rw [← empty_text]
    exact hQ H1 _ _ (Keep.refl _ _) tt (I.tok _)
  | cons v vs =>
    exact wpAny_call (codeAny_call_builtin F.slot_list_repr.plain F.entry_list_repr (F.slot_list_repr.check _ _ _ _ _ _ _ _ ty (F.args_list_repr_1 _)
      (rp_listAt (base := 0) (R := callEnd _ E) B.in1 hg c1 c2 hl1 (hT.keep kp) (by omega) tt I fun H2 s2 w k2 tt2 I2 => ⟨_, _, rfl, hQ H2 s2 _ k2 tt2 I2⟩)))
theorem top_tup {a : Addr} {vs : List V} {ts : List Str} (hl : H a = some (.tup vs)) (hT : RpAll X T H k P' vs ts) (hc : ∀ g, P g → Clear g a ∧ ∀ args, P' (.builtin "tuple.__repr__" ⟨.ref a :: args, []⟩ :: g)) (hz : (tupleText ts).length ≤ sizeLine) : RpTop X T H (k + 2) P (.ref a) (tupleText ts) := by
  intro A g E pins σ H1 s u Q B hg hP kp tt I rv hQ
  cases (show u = Value.ref a from rv)
  have hl1 := keepT_at kp hl rfl
  obtain ⟨c1, c2⟩ := hc g hP
  obtain ⟨its, rv2, ⟨o, ea, ec, n, ed⟩, _⟩ := I.tuple (.inl (Rd.of hl1))
  have ty : s.TypeIs (.ref a) "tuple" := ⟨o, ea, ec⟩
  have hu : A.units + 1 < cLine := by have := B.r.un; omega
  refine call_repr_slot hu ty F.slot_tuple_repr ?_
  exact wpAny_call (codeAny_call_builtin_own (Code.quiet_builtin _ (by decide +kernel)) F.entry_tuple_repr (F.slot_tuple_repr.check _ _ _ _ _ _ _ _ ty (F.args_tuple_repr_1 _)
    (rp_tupAt (base := 0) (R := callEnd _ E) (B.in1.tup _) (isGuard_tuple_repr _) hg c1 (c2 _) hl1 (hT.keep kp) (by omega) tt I fun H2 s2 w k2 tt2 I2 => ⟨_, _, rfl, hQ H2 s2 _ k2 tt2 I2⟩)))
theorem top_dct {a : Addr} {kvs : List (Key × V)} {ts : List Str} (hl : H a = some (.dK kvs)) (hT : ∀ od, RpEnt X T (upd H a (.frz od (.dK kvs))) k P' kvs ts) (hc : ∀ g, P g → Clear g a ∧ ∀ args, P' (.builtin "dict.__repr__" ⟨.ref a :: args, []⟩ :: g)) (hz : (dictText ts).length ≤ sizeLine) : RpTop X T H (k + 2) P (.ref a) (dictText ts) := by
  intro A g E pins σ H1 s u Q B hg hP kp tt I rv hQ
  cases (show u = Value.ref a from rv)
  have hl1 := keepT_at kp hl rfl
  obtain ⟨c1, c2⟩ := hc g hP
  obtain ⟨_, _, vs, kv, o, es, ep, ea, hx, hd, _⟩ := I.hok a _ hl1
  have ty : s.TypeIs (.ref a) "dict" := ⟨o, ea, hx.1⟩
  have hu : A.units + 1 < cLine := by have := B.r.un; omega
  refine call_repr_slot hu ty F.slot_dict_repr ?_
  exact wpAny_call (codeAny_call_builtin_own (Code.quiet_builtin _ (by decide +kernel)) F.entry_dict_repr (F.slot_dict_repr.check _ _ _ _ _ _ _ _ ty (F.args_dict_repr_1 _)
    (rp_dctAt (base := 0) (R := callEnd _ E) (B.in1.dct _) (isGuard_dict_repr _) hg c1 (c2 _) hl1 (fun od => (hT od).keep (keepT_upd2 kp hl)) (by omega) tt I fun H2 s2 w k2 tt2 I2 => ⟨_, _, rfl, hQ H2 s2 _ k2 tt2 I2⟩)))
end
end FC
namespace FC
open PySem PySem.Spec PyProof.Rows L2
/-! ### an own object's own __repr__ -/
section
variable {X : Cx} {C : Ct} {H : Hp} {k : Nat} {P : List Code → Prop}
theorem own_sp {N : List Str} {b : F Fl} {d : D} {v : V} {y : Str} (hN : 1 ≤ N.length) (hT : LamX.Tabs C.T H) (r : Rep C Nope H v d) (e : ∃ g, b (padG N.length [.val d]) = .ok (.ret (.val (.str y))) g) :
    spF C N 1 b [v] H (fun w H' => w = .str y ∧ KeepT H H' ∧ LamX.Tabs C.T H') fun _ _ _ => False := by
  obtain ⟨g, e⟩ := e
  have nt : ∀ {j : Nat} {t : Option Nat} {o : MO}, (padG N.length [SV.val d])[j]? = some (.own t o) → False := fun {j t o} z => by
    rcases padG_at z with q | ⟨_, q⟩
    · cases j with
      | zero => cases q
      | succ j => simp at q
    · cases q
  refine ⟨rfl, fun _ => 0, Nope, padG N.length [.val d], ⟨?_, fun j s x e1 e2 => ?_, fun j k t o t' o' c z => (nt z).elim, fun _ z => z.elim, hT⟩, ?_⟩
  · unfold L2.start padG
    simp only [List.length_append, List.length_map, List.length_replicate, List.length_cons, List.length_nil]
  · rcases padG_at e1 with q | ⟨_, q⟩
    · cases j with
      | zero =>
        cases q
        rw [start_at (v := v) rfl] at e2
        cases e2
        exact ⟨v, rfl, r⟩
      | succ j => simp at q
    · rw [q]; trivial
  · rw [e]
    intro v2 M' σ' H' E' S' r2
    cases (show Rep C M' H' v2 (.str y) from r2)
    exact ⟨rfl, S'.keep.mono fun a ⟨i, t, o, z, _⟩ => (nt z).elim, E'.tab⟩
theorem fine_keepT {M : Addr → Prop} {H H1 : Hp} (k : KeepT H H1) : Fine M M H H1 := ⟨fun a o e _ t => keepT_at k e t, fun _ _ _ z => z⟩
theorem rp_own {c kk : Nat} {f : Addr} {N : List Str} {b : F Fl} {fs : List (Str × D)} {y : Str} {v : V} (sp : Spe X.K (C.cl c) "__repr__" f) (Fn : FnP X C kk f N 1 b) (h40 : kk < 40) (hN : 1 ≤ N.length) (hb : ∃ g, b (padG N.length [.val (.ins c fs)]) = .ok (.ret (.val (.str y))) g) (r : Rep C Nope H v (.ins c fs)) (hk : kk ≤ k) : RpAt X C.T H k P v y := by
  intro base hb2 A g E pins σ H1 s u Q B hg hP kp tt I rv hQ
  have r1 := r.fine (fine_keepT kp)
  cases r1 with
  | ins e n rf =>
    rename_i a dx vs
    cases (show u = Value.ref a from rv)
    obtain ⟨mA, O, _⟩ := ins_get I.hok e
    obtain ⟨od, J, _⟩ := O.look
    have hrG : RoomG kk A := ⟨B.r.mono hk, ⟨fun _ => ⟨g, hg⟩, fun z => absurd z (by omega)⟩⟩
    refine wpAny_pyReprUnder_ref (by omega) (reprU_K B.units I.kIn J sp.at_ sp.fn ?_)
    refine wpAny_call (codeAny_mono (Fn A X.stack s H1 [.ref a] [.ref a] _ (fun _ _ _ => False) hrG (B.env0 I) (.cons rfl .nil) (own_sp hN tt (.ins e n rf) hb)) fun r s2 hq => ?_)
    match r, hq with
    | .ok (.ret w), hq =>
      obtain ⟨v', H2, I2, rv2, rfl, k2, t2⟩ := I.after hq
      obtain ⟨tk, rfl⟩ := rv2
      exact ⟨⟨_, _, rfl⟩, _, _, rfl, hQ H2 s2 k2 t2 I2⟩
    | .ok .next, hq => exact hq.elim
    | .ok .brk, hq => exact hq.elim
    | .ok .cont, hq => exact hq.elim
    | .error e, hq =>
      obtain ⟨_, _, _, _, _, _, _, _, _, _, _, _, z⟩ := (show L2.CX X.prog X.w X.stack H1 s (fun _ _ _ => False) e s2 from hq)
      exact z.elim
theorem top_own {c kk : Nat} {f : Addr} {N : List Str} {b : F Fl} {fs : List (Str × D)} {y : Str} {v : V} (sp : Spe X.K (C.cl c) "__repr__" f) (Fn : FnP X C kk f N 1 b) (h40 : kk < 40) (hN : 1 ≤ N.length) (hb : ∃ g, b (padG N.length [.val (.ins c fs)]) = .ok (.ret (.val (.str y))) g) (r : Rep C Nope H v (.ins c fs)) (hk : kk ≤ k) : RpTop X C.T H (k + 1) P v y := by
  intro A g E pins σ H1 s u Q B hg hP kp tt I rv hQ
  have r1 := r.fine (fine_keepT kp)
  cases r1 with
  | ins e n rf =>
    rename_i a dx vs
    cases (show u = Value.ref a from rv)
    obtain ⟨mA, O, _⟩ := ins_get I.hok e
    obtain ⟨od, J, _⟩ := O.look
    have B1 := B.in1
    have hrG : RoomG kk A.in1 := ⟨B1.r.mono hk, ⟨fun _ => ⟨g, hg⟩, fun z => absurd z (by omega)⟩⟩
    obtain ⟨m0, hF⟩ := I.fr
    refine PySem.W.repr_K B1.units hF I.ok.mod.kin J sp.at_ sp.fn ?_
    refine wpAny_call (codeAny_mono (Fn A.in1 X.stack s H1 [.ref a] [.ref a] _ (fun _ _ _ => False) hrG (B1.env0 I) (.cons rfl .nil) (own_sp hN tt (.ins e n rf) hb)) fun r s2 hq => ?_)
    match r, hq with
    | .ok (.ret w), hq =>
      obtain ⟨v', H2, I2, rv2, rfl, k2, t2⟩ := I.after hq
      obtain ⟨tk, rfl⟩ := rv2
      exact hQ H2 s2 tk k2 t2 I2
    | .ok .next, hq => exact hq.elim
    | .ok .brk, hq => exact hq.elim
    | .ok .cont, hq => exact hq.elim
    | .error e, hq =>
      obtain ⟨_, _, _, _, _, _, _, _, _, _, _, _, z⟩ := (show L2.CX X.prog X.w X.stack H1 s (fun _ _ _ => False) e s2 from hq)
      exact z.elim
end
/-! ### plain values -/
mutual
def plD : D → Bool
  | .non => true
  | .bl _ => true
  | .int _ => true
  | .str _ => true
  | .lst ds => plL ds
  | .tup ds => plL ds
  | .dct es => plK es
  | .ins _ fs => plF fs
  | _ => false
def plL : List D → Bool
  | [] => true
  | d :: ds => plD d && plL ds
def plK : List (Key × D) → Bool
  | [] => true
  | (_, d) :: ds => plD d && plK ds
def plF : List (Str × D) → Bool
  | [] => true
  | (_, d) :: ds => plD d && plF ds
end
/-! how large a value is, whatever its classes -/
mutual
def szD : D → Nat
  | .lst ds => szL ds + 1
  | .tup ds => szL ds + 1
  | .dct es => szK es + 1
  | .ins _ fs => szF fs + 1
  | _ => 0
def szL : List D → Nat
  | [] => 0
  | d :: ds => szD d + szL ds + 1
def szK : List (Key × D) → Nat
  | [] => 0
  | (_, d) :: ds => szD d + szK ds + 1
def szF : List (Str × D) → Nat
  | [] => 0
  | (_, d) :: ds => szD d + szF ds + 1
end
section
variable {C : Ct} {M : Addr → Prop} {H : Hp}
theorem and1 {a b : Bool} (h : (a && b) = true) : a = true := (Bool.and_eq_true_iff.mp h).1
theorem and2 {a b : Bool} (h : (a && b) = true) : b = true := (Bool.and_eq_true_iff.mp h).2
mutual
theorem Rep.uniq : ∀ {d d' : D} {v : V}, Rep C M H v d → Rep C M H v d' → plD d = true → plD d' = true → szD d = szD d'
  | .non, _, _, .non, r', _, q => by cases r' <;> first | rfl | cases q
  | .bl _, _, _, .bl b, r', _, q => by cases r' <;> first | rfl | cases q
  | .int _, _, _, .int i, r', _, q => by cases r' <;> first | rfl | cases q
  | .str _, _, _, .str x, r', _, q => by cases r' <;> first | rfl | cases q
  | .lst ds, _, _, .lst e n r, r', p, q => by
    cases r' with
    | lst e2 n2 r2 =>
      rw [e] at e2
      injection e2 with e2
      injection e2
      subst_vars
      simp only [szD, RepL.uniq r r2 (by simpa [plD] using p) (by simpa [plD] using q)]
    | tup e2 _ _ => rw [e] at e2; cases e2
    | dct e2 _ _ => rw [e] at e2; cases e2
    | ins e2 _ _ => rw [e] at e2; cases e2
    | raw => simp [plD] at q
    | cls => simp [plD] at q
    | ft e2 _ _ => simp [plD] at q
  | .tup ds, _, _, .tup e n r, r', p, q => by
    cases r' with
    | tup e2 n2 r2 =>
      rw [e] at e2
      injection e2 with e2
      injection e2
      subst_vars
      simp only [szD, RepL.uniq r r2 (by simpa [plD] using p) (by simpa [plD] using q)]
    | lst e2 _ _ => rw [e] at e2; cases e2
    | dct e2 _ _ => rw [e] at e2; cases e2
    | ins e2 _ _ => rw [e] at e2; cases e2
    | raw => simp [plD] at q
    | cls => simp [plD] at q
    | ft e2 _ _ => simp [plD] at q
  | .dct ds, _, _, .dct e n r, r', p, q => by
    cases r' with
    | dct e2 n2 r2 =>
      rw [e] at e2
      injection e2 with e2
      injection e2
      subst_vars
      simp only [szD, RepK.uniq r r2 (by simpa [plD] using p) (by simpa [plD] using q)]
    | lst e2 _ _ => rw [e] at e2; cases e2
    | tup e2 _ _ => rw [e] at e2; cases e2
    | ins e2 _ _ => rw [e] at e2; cases e2
    | raw => simp [plD] at q
    | cls => simp [plD] at q
    | ft e2 _ _ => simp [plD] at q
  | .ins _ _, _, _, .ins e n r, r', p, q => by
    cases r' with
    | ins e2 n2 r2 =>
      rw [e] at e2
      injection e2 with e2
      injection e2
      subst_vars
      simp only [szD, RepF.uniq r r2 (by simpa [plD] using p) (by simpa [plD] using q)]
    | lst e2 _ _ => rw [e] at e2; cases e2
    | tup e2 _ _ => rw [e] at e2; cases e2
    | dct e2 _ _ => rw [e] at e2; cases e2
    | raw => simp [plD] at q
    | cls => simp [plD] at q
    | ft e2 _ _ => simp [plD] at q
  | .raw _, _, _, _, _, p, _ => by simp [plD] at p
  | .cls _, _, _, _, _, p, _ => by simp [plD] at p
  | .ft _, _, _, _, _, p, _ => by simp [plD] at p
theorem RepL.uniq : ∀ {ds ds' : List D} {vs : List V}, RepL C M H vs ds → RepL C M H vs ds' → plL ds = true → plL ds' = true → szL ds = szL ds'
  | [], _, _, .nil, r', _, _ => by cases r'; rfl
  | _ :: _, _, _, .cons r t, r', p, q => by
    cases r' with
    | cons r2 t2 =>
      simp only [plL] at p q
      simp only [szL, Rep.uniq r r2 (and1 p) (and1 q), RepL.uniq t t2 (and2 p) (and2 q)]
theorem RepK.uniq : ∀ {ds ds' : List (Key × D)} {vs : List (Key × V)}, RepK C M H vs ds → RepK C M H vs ds' → plK ds = true → plK ds' = true → szK ds = szK ds'
  | [], _, _, .nil, r', _, _ => by cases r'; rfl
  | (_, _) :: _, _, _, .cons r t, r', p, q => by
    cases r' with
    | cons r2 t2 =>
      simp only [plK] at p q
      simp only [szK, Rep.uniq r r2 (and1 p) (and1 q), RepK.uniq t t2 (and2 p) (and2 q)]
theorem RepF.uniq : ∀ {ds ds' : List (Str × D)} {vs : List (Str × V)}, RepF C M H vs ds → RepF C M H vs ds' → plF ds = true → plF ds' = true → szF ds = szF ds'
  | [], _, _, .nil, r', _, _ => by cases r'; rfl
  | (_, _) :: _, _, _, .cons r t, r', p, q => by
    cases r' with
    | cons r2 t2 =>
      simp only [plF] at p q
      simp only [szF, Rep.uniq r r2 (and1 p) (and1 q), RepF.uniq t t2 (and2 p) (and2 q)]
end
/-! a value that is smaller than what stands at a does not reach a -/
mutual
theorem Rep.avoid {a : Addr} {o : HO} {n : Nat} (hn : ∀ d', Rep C M H (.ref a) d' → plD d' = true → n ≤ szD d') : ∀ {d : D} {v : V}, Rep C M H v d → plD d = true → szD d < n → Rep C M (upd H a o) v d
  | .non, _, .non, _, _ => .non
  | .bl _, _, .bl b, _, _ => .bl b
  | .int _, _, .int i, _, _ => .int i
  | .str _, _, .str x, _, _ => .str x
  | .lst ds, _, .lst (a := b) e m r, p, z => .lst (by rw [upd_ne (fun q => by subst q; exact absurd (hn _ (.lst e m r) p) (by omega))]; exact e) m (RepL.avoid hn r (by simpa [plD] using p) (by simp only [szD] at z; omega))
  | .tup ds, _, .tup (a := b) e m r, p, z => .tup (by rw [upd_ne (fun q => by subst q; exact absurd (hn _ (.tup e m r) p) (by omega))]; exact e) m (RepL.avoid hn r (by simpa [plD] using p) (by simp only [szD] at z; omega))
  | .dct ds, _, .dct (a := b) e m r, p, z => .dct (by rw [upd_ne (fun q => by subst q; exact absurd (hn _ (.dct e m r) p) (by omega))]; exact e) m (RepK.avoid hn r (by simpa [plD] using p) (by simp only [szD] at z; omega))
  | .ins _ ds, _, .ins (a := b) e m r, p, z => .ins (by rw [upd_ne (fun q => by subst q; exact absurd (hn _ (.ins e m r) p) (by omega))]; exact e) m (RepF.avoid hn r (by simpa [plD] using p) (by simp only [szD] at z; omega))
  | .raw _, _, _, p, _ => by simp [plD] at p
  | .cls _, _, _, p, _ => by simp [plD] at p
  | .ft _, _, _, p, _ => by simp [plD] at p
theorem RepL.avoid {a : Addr} {o : HO} {n : Nat} (hn : ∀ d', Rep C M H (.ref a) d' → plD d' = true → n ≤ szD d') : ∀ {ds : List D} {vs : List V}, RepL C M H vs ds → plL ds = true → szL ds < n → RepL C M (upd H a o) vs ds
  | [], _, .nil, _, _ => .nil
  | _ :: _, _, .cons r t, p, z => .cons (Rep.avoid hn r (by simp only [plL] at p; exact and1 p) (by simp only [szL] at z; omega)) (RepL.avoid hn t (by simp only [plL] at p; exact and2 p) (by simp only [szL] at z; omega))
theorem RepK.avoid {a : Addr} {o : HO} {n : Nat} (hn : ∀ d', Rep C M H (.ref a) d' → plD d' = true → n ≤ szD d') : ∀ {ds : List (Key × D)} {vs : List (Key × V)}, RepK C M H vs ds → plK ds = true → szK ds < n → RepK C M (upd H a o) vs ds
  | [], _, .nil, _, _ => .nil
  | (_, _) :: _, _, .cons r t, p, z => .cons (Rep.avoid hn r (by simp only [plK] at p; exact and1 p) (by simp only [szK] at z; omega)) (RepK.avoid hn t (by simp only [plK] at p; exact and2 p) (by simp only [szK] at z; omega))
theorem RepF.avoid {a : Addr} {o : HO} {n : Nat} (hn : ∀ d', Rep C M H (.ref a) d' → plD d' = true → n ≤ szD d') : ∀ {ds : List (Str × D)} {vs : List (Str × V)}, RepF C M H vs ds → plF ds = true → szF ds < n → RepF C M (upd H a o) vs ds
  | [], _, .nil, _, _ => .nil
  | (_, _) :: _, _, .cons r t, p, z => .cons (Rep.avoid hn r (by simp only [plF] at p; exact and1 p) (by simp only [szF] at z; omega)) (RepF.avoid hn t (by simp only [plF] at p; exact and2 p) (by simp only [szF] at z; omega))
end
/-! what stands with a locked stood without -/
mutual
theorem Rep.back {a : Addr} {o : Obj} {u : HO} : ∀ {d : D} {v : V}, Rep C M (upd H a (.frz o u)) v d → plD d = true → Rep C M H v d
  | .non, _, .non, _ => .non
  | .bl _, _, .bl b, _ => .bl b
  | .int _, _, .int i, _ => .int i
  | .str _, _, .str x, _ => .str x
  | .lst ds, _, .lst (a := b) e m r, p => .lst (by rw [upd_ne (fun q => by subst q; unfold upd at e; rw [if_pos rfl] at e; cases e)] at e; exact e) m (RepL.back r (by simpa [plD] using p))
  | .tup ds, _, .tup (a := b) e m r, p => .tup (by rw [upd_ne (fun q => by subst q; unfold upd at e; rw [if_pos rfl] at e; cases e)] at e; exact e) m (RepL.back r (by simpa [plD] using p))
  | .dct ds, _, .dct (a := b) e m r, p => .dct (by rw [upd_ne (fun q => by subst q; unfold upd at e; rw [if_pos rfl] at e; cases e)] at e; exact e) m (RepK.back r (by simpa [plD] using p))
  | .ins _ ds, _, .ins (a := b) e m r, p => .ins (by rw [upd_ne (fun q => by subst q; unfold upd at e; rw [if_pos rfl] at e; cases e)] at e; exact e) m (RepF.back r (by simpa [plD] using p))
  | .raw _, _, _, p => by simp [plD] at p
  | .cls _, _, _, p => by simp [plD] at p
  | .ft _, _, _, p => by simp [plD] at p
theorem RepL.back {a : Addr} {o : Obj} {u : HO} : ∀ {ds : List D} {vs : List V}, RepL C M (upd H a (.frz o u)) vs ds → plL ds = true → RepL C M H vs ds
  | [], _, .nil, _ => .nil
  | _ :: _, _, .cons r t, p => .cons (Rep.back r (by simp only [plL] at p; exact and1 p)) (RepL.back t (by simp only [plL] at p; exact and2 p))
theorem RepK.back {a : Addr} {o : Obj} {u : HO} : ∀ {ds : List (Key × D)} {vs : List (Key × V)}, RepK C M (upd H a (.frz o u)) vs ds → plK ds = true → RepK C M H vs ds
  | [], _, .nil, _ => .nil
  | (_, _) :: _, _, .cons r t, p => .cons (Rep.back r (by simp only [plK] at p; exact and1 p)) (RepK.back t (by simp only [plK] at p; exact and2 p))
theorem RepF.back {a : Addr} {o : Obj} {u : HO} : ∀ {ds : List (Str × D)} {vs : List (Str × V)}, RepF C M (upd H a (.frz o u)) vs ds → plF ds = true → RepF C M H vs ds
  | [], _, .nil, _ => .nil
  | (_, _) :: _, _, .cons r t, p => .cons (Rep.back r (by simp only [plF] at p; exact and1 p)) (RepF.back t (by simp only [plF] at p; exact and2 p))
end
end
end FC
namespace FC
open PySem PySem.Spec PyProof.Rows L2
/-! ### repr of any plain value -/
def allO (f : D → Option Str) : List D → Option (List Str)
  | [] => some []
  | d :: ds => (f d).bind fun t => (allO f ds).map fun ts => t :: ts
def keyT : Key → Option Str
  | .inl i => if i.natAbs.log2 < 1920 then some ((toString i : String) : Str) else none
  | .inr x => if (reprText x).length ≤ sizeLine then some (reprText x) else none
def entO (f : D → Option Str) : List (Key × D) → Option (List Str)
  | [] => some []
  | (k, d) :: es => (keyT k).bind fun x => (f d).bind fun t => (entO f es).map fun ts => (x ++ ": " ++ t) :: ts
def txD (rp : Nat → List (Str × D) → Option Str) : Nat → D → Option Str
  | _, .non => some "None"
  | _, .bl b => some (if b then ("True" : Str) else ("False" : Str))
  | _, .int i => if i.natAbs.log2 < 1920 then some ((toString i : String) : Str) else none
  | _, .str x => if (reprText x).length ≤ sizeLine then some (reprText x) else none
  | n + 1, .lst ds => (allO (txD rp n) ds).map listText
  | n + 1, .tup ds => (allO (txD rp n) ds).map tupleText
  | n + 1, .dct es => (entO (txD rp n) es).map dictText
  | _, .ins c fs => rp c fs
  | _, _ => none
/-- the classes' own reprs, as told -/
def RpOk (X : Cx) (C : Ct) (rp : Nat → List (Str × D) → Option Str) : Prop := ∀ c fs y, rp c fs = some y → ∃ (kk : Nat) (f : Addr) (N : List Str) (b : F Fl), Spe X.K (C.cl c) "__repr__" f ∧ FnP X C kk f N 1 b ∧ kk < 40 ∧ 1 ≤ N.length ∧ ∃ g, b (padG N.length [.val (.ins c fs)]) = .ok (.ret (.val (.str y))) g
def PG (C : Ct) (H : Hp) (n : Nat) (g : List Code) : Prop := ∀ b d', Rep C Nope H (.ref b) d' → plD d' = true → szD d' < n → Clear g b
section
variable {X : Cx} {C : Ct} {H : Hp} {rp : Nat → List (Str × D) → Option Str}
theorem PG.le {n m : Nat} {g : List Code} (h : PG C H n g) (hm : m ≤ n) : PG C H m g := fun b d' r p z => h b d' r p (Nat.lt_of_lt_of_le z hm)
theorem PG.step {a : Addr} {d : D} {g : List Code} (r : Rep C Nope H (.ref a) d) (p : plD d = true) (h : PG C H (szD d + 1) g) : Clear g a ∧ ∀ {id : String} {args : List Value}, PG C H (szD d) (.builtin id ⟨.ref a :: args, []⟩ :: g) :=
  ⟨h a d r p (Nat.lt_succ_self _), fun b d' rb pb zb => (h b d' rb pb (by omega)).cons fun e => by
    subst e
    have := Rep.uniq r rb p pb
    omega⟩
theorem RpAt.weak {T : List (Addr × Str)} {k k' : Nat} {P P' : List Code → Prop} {v : V} {t : Str} (r : RpAt X T H k P v t) (h : ∀ g, P' g → P g) (hk : k ≤ k') : RpAt X T H k' P' v t :=
  fun base hb A g E pins σ H1 s u Q B hg hP kp tt I rv hQ => r base hb A g E pins σ H1 s u Q ⟨B.r.mono hk, B.fr⟩ hg (h g hP) kp tt I rv hQ
theorem rp_key {T : List (Addr × Str)} {k : Nat} {P : List Code → Prop} {q : Key} {x : Str} (e : keyT q = some x) : RpAt X T H k P (kV q) x := by
  cases q with
  | inl i =>
    simp only [keyT] at e
    split at e
    · rename_i hz; cases e; exact RpAt.of_is fun u ru => by obtain ⟨t, rfl⟩ := ru; exact ReprIs.int t hz
    · cases e
  | inr z =>
    simp only [keyT] at e
    split at e
    · rename_i hz; cases e; exact RpAt.of_is fun u ru => by obtain ⟨t, rfl⟩ := ru; exact ReprIs.str z t hz
    · cases e
/-- what the induction gives for the parts -/
def RpN (X : Cx) (C : Ct) (rp : Nat → List (Str × D) → Option Str) (n : Nat) : Prop := ∀ (d : D) (t : Str), txD rp n d = some t → plD d = true → ∀ (H : Hp) (v : V) (k : Nat), Rep C Nope H v d → 40 + n ≤ k → RpAt X C.T H k (PG C H (szD d + 1)) v t
theorem rp_all {n k N : Nat} (ih : RpN X C rp n) (hk : 40 + n ≤ k) : ∀ {ds : List D} {vs : List V} {ts : List Str}, allO (txD rp n) ds = some ts → plL ds = true → RepL C Nope H vs ds → szL ds < N → RpAll X C.T H k (PG C H N) vs ts
  | [], _, _, e, _, .nil, _ => by cases e; exact RpAll.nil
  | d :: ds, _, _, e, p, .cons r t, z => by
    simp only [allO] at e
    obtain ⟨x, e1, e2⟩ := Option.bind_eq_some_iff.mp e
    obtain ⟨ts, e3, rfl⟩ := Option.map_eq_some_iff.mp e2
    simp only [plL] at p
    simp only [szL] at z
    exact RpAll.cons ((ih d x e1 (and1 p) H _ k r hk).weak (fun g h => h.le (by omega)) (Nat.le_refl _)) (rp_all ih hk e3 (and2 p) t (by omega))
theorem rp_ent {n k N : Nat} {P' : List Code → Prop} (ih : RpN X C rp n) (hk : 40 + n ≤ k) (hP : ∀ g, P' g → PG C H N g) : ∀ {es : List (Key × D)} {vs : List (Key × V)} {ts : List Str}, entO (txD rp n) es = some ts → plK es = true → RepK C Nope H vs es → szK es < N → RpEnt X C.T H k P' vs ts
  | [], _, _, e, _, .nil, _ => by cases e; exact ⟨rfl, fun i q h => by simp at h⟩
  | (q, d) :: es, _, _, e, p, .cons r t, z => by
    simp only [entO] at e
    obtain ⟨x, e1, e2⟩ := Option.bind_eq_some_iff.mp e
    obtain ⟨y, e3, e4⟩ := Option.bind_eq_some_iff.mp e2
    obtain ⟨ts, e5, rfl⟩ := Option.map_eq_some_iff.mp e4
    simp only [plK] at p
    simp only [szK] at z
    have rest := rp_ent ih hk hP e5 (and2 p) t (by omega)
    refine ⟨by rw [List.length_cons, List.length_cons, rest.1], fun i w h => ?_⟩
    cases i with
    | zero =>
      cases h
      exact ⟨x, y, rfl, rp_key e1, (ih d y e3 (and1 p) H _ k r hk).weak (fun g h => (hP g h).le (by omega)) (Nat.le_refl _)⟩
    | succ i => exact rest.2 i w h
theorem lock_rep {a : Addr} {es : List (Key × D)} {vs : List (Key × V)} {o : HO} (e : H a = some (.dK vs)) (r : RepK C Nope H vs es) (p : plD (.dct es) = true) : RepK C Nope (upd H a o) vs es := by
  have r0 : Rep C Nope H (.ref a) (.dct es) := .dct e id r
  refine RepK.avoid (n := szD (.dct es)) (fun d' r' p' => by rw [Rep.uniq r0 r' p p']; exact Nat.le_refl _) r (by simpa [plD] using p) (by simp only [szD]; omega)
theorem rp_D (R : RpOk X C rp) : ∀ n, RpN X C rp n := by
  intro n
  induction n with
  | zero =>
    intro d t e p H v k r hk
    cases r with
    | non => cases e; exact RpAt.of_is fun u ru => by cases ru; exact ReprIs.none
    | bl b => cases e; exact RpAt.of_is fun u ru => by cases ru; exact ReprIs.bool b
    | int i =>
      simp only [txD] at e
      split at e
      · rename_i hz; cases e; exact RpAt.of_is fun u ru => by obtain ⟨t, rfl⟩ := ru; exact ReprIs.int t hz
      · cases e
    | str z =>
      simp only [txD] at e
      split at e
      · rename_i hz; cases e; exact RpAt.of_is fun u ru => by obtain ⟨t, rfl⟩ := ru; exact ReprIs.str z t hz
      · cases e
    | ins e0 m rf =>
      simp only [txD] at e
      obtain ⟨kk, f, N, b, sp, Fn, h4, hN, hb⟩ := R _ _ _ e
      exact rp_own sp Fn h4 hN hb (.ins e0 m rf) (by omega)
    | _ => simp [txD] at e
  | succ n ih =>
    intro d t e p H v k r hk
    cases r with
    | non => cases e; exact RpAt.of_is fun u ru => by cases ru; exact ReprIs.none
    | bl b => cases e; exact RpAt.of_is fun u ru => by cases ru; exact ReprIs.bool b
    | int i =>
      simp only [txD] at e
      split at e
      · rename_i hz; cases e; exact RpAt.of_is fun u ru => by obtain ⟨t, rfl⟩ := ru; exact ReprIs.int t hz
      · cases e
    | str z =>
      simp only [txD] at e
      split at e
      · rename_i hz; cases e; exact RpAt.of_is fun u ru => by obtain ⟨t, rfl⟩ := ru; exact ReprIs.str z t hz
      · cases e
    | ins e0 m rf =>
      simp only [txD] at e
      obtain ⟨kk, f, N, b, sp, Fn, h4, hN, hb⟩ := R _ _ _ e
      exact rp_own sp Fn h4 hN hb (.ins e0 m rf) (by omega)
    | lst e0 m rl =>
      rename_i a vs ds
      simp only [txD] at e
      obtain ⟨ts, e1, rfl⟩ := Option.map_eq_some_iff.mp e
      obtain ⟨k, rfl⟩ : ∃ j, k = j + 1 := ⟨k - 1, by omega⟩
      refine rp_list (P' := PG C H (szD (.lst ds))) e0 (rp_all ih (by omega) e1 (by simpa [plD] using p) rl (by simp only [szD]; omega)) fun g hg => ?_
      have st := PG.step (.lst e0 m rl) p hg
      exact ⟨st.1, fun _ => st.2⟩
    | tup e0 m rl =>
      rename_i a vs ds
      simp only [txD] at e
      obtain ⟨ts, e1, rfl⟩ := Option.map_eq_some_iff.mp e
      obtain ⟨k, rfl⟩ : ∃ j, k = j + 1 := ⟨k - 1, by omega⟩
      refine rp_tup (P' := PG C H (szD (.tup ds))) e0 (rp_all ih (by omega) e1 (by simpa [plD] using p) rl (by simp only [szD]; omega)) fun g hg => ?_
      have st := PG.step (.tup e0 m rl) p hg
      exact ⟨st.1, fun _ => st.2⟩
    | dct e0 m rl =>
      rename_i a vs ds
      simp only [txD] at e
      obtain ⟨ts, e1, rfl⟩ := Option.map_eq_some_iff.mp e
      obtain ⟨k, rfl⟩ : ∃ j, k = j + 1 := ⟨k - 1, by omega⟩
      refine rp_dct (P' := PG C H (szD (.dct ds))) e0 (fun od => rp_ent (N := szD (.dct ds)) ih (by omega) (fun g h b d' rb pb zb => h b d' (rb.back pb) pb zb) e1 (by simpa [plD] using p) (lock_rep e0 rl p) (by simp only [szD]; omega)) fun g hg => ?_
      have st := PG.step (.dct e0 m rl) p hg
      exact ⟨st.1, fun _ => st.2⟩
    | _ => simp [txD] at e
/-! ### repr(x), no repr under way -/
theorem rp_top (R : RpOk X C rp) {n k : Nat} {d : D} {t : Str} {v : V} (e : txD rp n d = some t) (p : plD d = true) (hz : t.length ≤ sizeLine) (r : Rep C Nope H v d) (hk : 42 + n ≤ k) : RpTop X C.T H k (fun g => g = []) v t := by
  have step : ∀ {a : Addr} {d : D}, Rep C Nope H (.ref a) d → plD d = true → ∀ g, g = [] → Clear g a ∧ ∀ {id : String} {args : List Value}, PG C H (szD d) (.builtin id ⟨.ref a :: args, []⟩ :: g) := fun {a d} r p g hg => by
    subst hg
    exact PG.step r p fun b _ _ _ _ => Clear.nil b
  have ih := rp_D (H := H) R
  cases r with
  | non =>
    have e1 : some ("None" : Str) = some t := by cases n <;> exact e
    cases e1
    intro A g E pins σ H1 s u Q B hg hP kp tt I rv hQ
    cases rv
    exact PySem.P.repr_of_none (hQ H1 _ _ (Keep.refl _ _) tt (I.tok _))
  | bl b =>
    have e1 : (if b then ("True" : Str) else ("False" : Str)) = t := by cases n <;> exact Option.some.inj e
    subst e1
    intro A g E pins σ H1 s u Q B hg hP kp tt I rv hQ
    cases rv
    exact PySem.P.repr_of_bool (hQ H1 _ _ (Keep.refl _ _) tt (I.tok _))
  | int i =>
    have e1 : (if i.natAbs.log2 < 1920 then some ((toString i : String) : Str) else none) = some t := by cases n <;> exact e
    split at e1
    · rename_i hi
      cases e1
      intro A g E pins σ H1 s u Q B hg hP kp tt I rv hQ
      obtain ⟨tk, rfl⟩ := rv
      exact PySem.P.repr_of_int hi (hQ H1 _ _ (Keep.refl _ _) tt (I.tok _))
    · cases e1
  | str z =>
    have e1 : (if (reprText z).length ≤ sizeLine then some (reprText z) else none) = some t := by cases n <;> exact e
    split at e1
    · rename_i hi
      cases e1
      intro A g E pins σ H1 s u Q B hg hP kp tt I rv hQ
      obtain ⟨tk, rfl⟩ := rv
      exact PySem.P.repr_of_str (hsz := hi) (hQ H1 _ _ (Keep.refl _ _) tt (I.tok _))
    · cases e1
  | ins e0 m rf =>
    rename_i a dx c vs ds
    have e1 : rp c ds = some t := by cases n <;> exact e
    obtain ⟨kk, f, N, b, sp, Fn, h4, hN, hb⟩ := R _ _ _ e1
    obtain ⟨k, rfl⟩ : ∃ j, k = j + 1 := ⟨k - 1, by omega⟩
    exact top_own sp Fn h4 hN hb (.ins e0 m rf) (by omega)
  | lst e0 m rl =>
    rename_i a vs ds
    cases n with
    | zero => simp [txD] at e
    | succ n =>
      simp only [txD] at e
      obtain ⟨ts, e1, rfl⟩ := Option.map_eq_some_iff.mp e
      obtain ⟨k, rfl⟩ : ∃ j, k = j + 2 := ⟨k - 2, by omega⟩
      refine top_list (P' := PG C H (szD (.lst ds))) e0 (rp_all (rp_D R n) (by omega) e1 (by simpa [plD] using p) rl (by simp only [szD]; omega)) (fun g hg => ?_) hz
      have st := step (.lst e0 m rl) p g hg
      exact ⟨st.1, fun _ => st.2⟩
  | tup e0 m rl =>
    rename_i a vs ds
    cases n with
    | zero => simp [txD] at e
    | succ n =>
      simp only [txD] at e
      obtain ⟨ts, e1, rfl⟩ := Option.map_eq_some_iff.mp e
      obtain ⟨k, rfl⟩ : ∃ j, k = j + 2 := ⟨k - 2, by omega⟩
      refine top_tup (P' := PG C H (szD (.tup ds))) e0 (rp_all (rp_D R n) (by omega) e1 (by simpa [plD] using p) rl (by simp only [szD]; omega)) (fun g hg => ?_) hz
      have st := step (.tup e0 m rl) p g hg
      exact ⟨st.1, fun _ => st.2⟩
  | dct e0 m rl =>
    rename_i a vs ds
    cases n with
    | zero => simp [txD] at e
    | succ n =>
      simp only [txD] at e
      obtain ⟨ts, e1, rfl⟩ := Option.map_eq_some_iff.mp e
      obtain ⟨k, rfl⟩ : ∃ j, k = j + 2 := ⟨k - 2, by omega⟩
      refine top_dct (P' := PG C H (szD (.dct ds))) e0 (fun od => rp_ent (N := szD (.dct ds)) (rp_D R n) (by omega) (fun g h b d' rb pb zb => h b d' (rb.back pb) pb zb) e1 (by simpa [plD] using p) (lock_rep e0 rl p) (by simp only [szD]; omega)) (fun g hg => ?_) hz
      have st := step (.dct e0 m rl) p g hg
      exact ⟨st.1, fun _ => st.2⟩
  | _ => simp [plD] at p
/-! ### the rule -/
def dReprA (rp : Nat → List (Str × D) → Option Str) (d : D) : Option D := if plD d = true then (txD rp 8 d).bind fun t => if t.length ≤ sizeLine then some (.str t) else none else none
variable {W : WX} {q : Bool} {fa : F D} {a : Expr} {pn pos : Pos}
theorem fx_reprA {k : Nat} (R : RpOk X C rp) (hr : RoomG k X.A) (ha : FX C W true q X a fa) (hm : X.mg "repr" = none) (hg : Gl X "repr") (h60 : 60 ≤ k := by decide)
    (hs : starEach [a] X.env = (false, eval a X.env) :: starEach [] X.env := by rfl) (hpl : (backTo pos (starEach [] X.env)).any (·.1) = false := by rfl) : FX C W true false X (.Call (.Name "repr" pn) [a] [] pos) (f1 (dReprA rp) fa) := by
  refine PE.imp (t := fun σ H Q => tF C W true q fa σ H fun v H1 => ∃ (d : D) (t : Str), txD rp 8 d = some t ∧ plD d = true ∧ t.length ≤ sizeLine ∧ Rep C Nope H1 v d ∧ LamX.Tabs C.T H1 ∧ ∀ H2, KeepT H1 H2 → LamX.Tabs C.T H2 → Q (.str t) H2) ⟨fun pins s σ H Q I h => ?_⟩ fun σ H Q h => ?_
  · refine wpAny_Call_Name_kw (ld_blt I hg hm (show bootBuiltins "repr" = some (.builtin "repr") by decide +kernel) ?_)
    have h2 : tCons (tF C W true q fa) tNil σ H (fun vs H1 => ∃ v, vs = [v] ∧ ∃ (d : D) (t : Str), txD rp 8 d = some t ∧ plD d = true ∧ t.length ≤ sizeLine ∧ Rep C Nope H1 v d ∧ LamX.Tabs C.T H1 ∧ ∀ H2, KeepT H1 H2 → LamX.Tabs C.T H2 → Q (.str t) H2) := by
      obtain ⟨pens, M, γ, E, h⟩ := h
      refine ⟨pens, M, γ, E, ?_⟩
      cases ea : fa γ with
      | st => rw [ea] at h; exact h
      | ex e γ' => rw [ea] at h; exact h
      | ok d γ1 => rw [ea] at h; exact fun v H1 S1 P1 r1 => ⟨v, rfl, h v H1 S1 P1 r1⟩
    refine PyProof.Rows.callWith_builtin1 (thn ((pa_cons ha pa_nil hs).run pos pins s σ H _ I h2) fun us s1 ⟨vs, H1, I1, r1, v, ev, d, t, e, p, hz, r, tt, q1⟩ => ?_) hs hpl
    subst ev
    obtain ⟨u, rfl, ru⟩ := vals1 r1
    exact rp_top R e p hz r (by omega) X.A [] X.xe pins σ H1 s1 u _ ⟨hr.r, I1.ok.frames⟩ (hr.g.nil_ (by omega)) rfl (Keep.refl _ _) tt I1 ru fun H2 s2 tk k2 t2 I2 => ⟨.str t, H2, I2, ⟨tk, rfl⟩, q1 H2 k2 t2⟩
  · obtain ⟨pens, M, γ, E, h⟩ := h
    refine ⟨pens, M, γ, E, ?_⟩
    unfold f1 F.bind at h
    cases ea : fa γ with
    | st => rw [ea] at h; exact h
    | ex e γ' => rw [ea] at h; exact h
    | ok d γ1 =>
      rw [ea] at h
      intro v H1 S1 P1 r1
      simp only [liftO] at h
      cases eg : dReprA rp d with
      | none => rw [eg] at h; exact h.elim
      | some d2 =>
        rw [eg] at h
        unfold dReprA at eg
        split at eg
        · rename_i p
          obtain ⟨t, e, e2⟩ := Option.bind_eq_some_iff.mp eg
          split at e2
          · rename_i hz
            cases e2
            refine ⟨d, t, e, p, hz, r1.r.fine (Fine.weak fun _ _ _ z => z.elim), S1.env.tab, fun H2 k2 t2 => ?_⟩
            refine h (.str t) H2 ⟨S1.env.lam (fun b o e n => keepT_at k2 e n) k2 t2, S1.keep.trans (k2.mono fun _ z => z.elim), S1.pat⟩ (fun z => by cases z) (.str t)
          · cases e2
        · cases eg
/-! ### mirrors -/
end
end FC
namespace FC
open PySem PySem.Spec PyProof.Rows L2
/-! ### o.f, a text that the class holds -/
theorem con_of {K : PySem.W.Frag} {Ca : Addr} {f z : Str} (h : conB K Ca f z = true) : ∃ u, Con K Ca f (.str z) u := by
  unfold conB at h
  split at h
  · rename_i y t e
    obtain ⟨h1, h2⟩ := He.ba h
    obtain ⟨h2, h3⟩ := He.ba h2
    have e1 : y = z := eq_of_beq h1
    subst e1
    exact ⟨_, ⟨e, ⟨t, rfl⟩, He.eqO_ok h2, by simpa using h3⟩⟩
  · cases h
def dCon (c : Nat) (f z : Str) : D → Option D
  | .ins c' fs => if c' = c ∧ (fs.lookup f).isNone = true then some (.str z) else none
  | _ => none
theorem RepF.none_ {C : Ct} {M : Addr → Prop} {H : Hp} {f : Str} : ∀ {ds : List (Str × D)} {vs : List (Str × V)}, RepF C M H vs ds → (ds.lookup f).isNone = true → vs.lookup f = none
  | [], _, .nil, _ => rfl
  | (g, _) :: ds, _, .cons r t, e => by
    simp only [List.lookup] at e ⊢
    split at e
    · cases e
    · exact RepF.none_ t e
section
variable {C : Ct} {W : WX} {X : Cx} {m p : Bool} {e : Expr} {pos : Pos} {fa : F D}
theorem fx_con {c : Nat} {f z : Str} (hc : Cls X.K (C.cl c)) (k : conB X.K (C.cl c) f z = true) (ha : FX C W m p X e fa) (hb : attributeBase e f X.env (eval e X.env) = eval e X.env := by rfl) : FX C W true p X (.Attribute e f pos) (f1 (dCon c f z) fa) :=
  fx1 (r := fun x H1 Q => ∃ a C dx fs v u, x = .ref a ∧ H1 a = some (.ins C dx fs) ∧ Cls X.K C ∧ Con X.K C f v u ∧ fs.lookup f = none ∧ Q v H1) ha (fun ta h => pe_con h hb) fun M H x dx d Q hd sx eg kk => by
    cases dx with
    | ins c' fs =>
      simp only [dCon] at eg
      split at eg
      · rename_i hm
        cases eg
        obtain ⟨rfl, hn⟩ := hm
        obtain ⟨a, dx, vfs, e1, e2, r⟩ := sx.insH
        obtain ⟨u, cn⟩ := con_of k
        exact ⟨a, _, dx, vfs, _, u, e1, e2, hc, cn, r.none_ hn, kk _ H (Keep.refl _ _) (.str z)⟩
      · cases eg
    | _ => cases eg
end
end FC
namespace FC
open PySem PySem.Spec PyProof.Rows L2
/-! ### list(range(a, b)) -/
end FC
namespace FC
open PySem PySem.Spec PyProof.Rows L2
/-- the text that a mirror answers -/
def rpR : FC.R Fl → Option Str
  | .ok (.ret (.val (.str y))) _ => some y
  | _ => none
theorem rpR_of {r : FC.R Fl} {y : Str} (h : rpR r = some y) : ∃ g, r = .ok (.ret (.val (.str y))) g := by
  unfold rpR at h
  split at h
  · cases h; exact ⟨_, rfl⟩
  · cases h
end FC
namespace FC
open PySem PySem.Spec PyProof.Rows L2
section
variable {N c : Nat} {b : F Fl} {r : F (List AV)} {γ : Gm} {E : Ex → Gm → Prop} {i : Nat}
/-! ### a maker that raises -/
structure MkX (c N : Nat) (b : F Fl) (ds : List D) (x : Ex) : Prop where
  run : ∃ g, b (padG N [.own (some 0) (.ins c []), .val (.tup ds)]) = .ex x g
theorem MkX.of {ds : List D} {x : Ex} (h : Wp (b (padG N [.own (some 0) (.ins c []), .val (.tup ds)])) (fun _ _ => False) (fun e' _ => e' = x)) : MkX c N b ds x := by
  have hr := h.run
  cases q : b (padG N [.own (some 0) (.ins c []), .val (.tup ds)]) with
  | ok a g => rw [q] at hr; exact hr.elim
  | ex y g =>
    rw [q] at hr
    obtain rfl : y = x := hr
    exact ⟨⟨g, q⟩⟩
  | st => rw [q] at hr; exact hr.elim
theorem wp_makeSx {Q : MO → Gm → Prop} (h : Wp (r γ) (fun as g => ∃ ds, allD as = some ds ∧ ds.length ≤ sizeLine ∧ ∃ x, MkX c N b ds x ∧ E x g) E) : Wp (nMakeS c N b r γ) Q E := by
  unfold nMakeS
  refine wp_bind (h.imp fun as g h => ?_)
  obtain ⟨ds, e, hz, x, ⟨⟨g', e2⟩⟩, q⟩ := h
  refine wp_bind (wp_lift e ?_)
  rw [if_pos hz]
  refine wp_bind ⟨?_⟩
  unfold callR
  simp only [bindA, Option.map_some, e2, backG]
  exact q
end
/-! ### repr of any value: ints and sequences of ints -/
end FC
namespace FC
open PySem PySem.Spec PyProof.Rows L2
/-! ### x not in o by the own __contains__ -/
end FC
namespace G22
open PySem PySem.Spec PyProof.Rows L2 FC
theorem u64 {k : Nat} {A : Around} (hr : RoomG k A) : A.units + 64 < cLine := by have := hr.r.un; omega
theorem kp_of {K : PySem.W.Frag} {x qual : Str} {params : Arguments} {body : List Stmt} {scope : Scope} {dvs : List V} {kws : List (Str × V)} {f : Addr} (h : ∃ fd, FunD K x qual params body scope dvs kws f fd) : PySem.W.keepIn K (.ref f) = true := h.elim fun _ F => F.kp
theorem u65 {k : Nat} {A : Around} (hr : RoomG k A) : A.units + 65 < cLine := by have := hr.r.un; omega
def b__law_pen : F Fl := (sRetNew (nLst (aVal (f2 dMax2 (f0 (.int 0)) (f2 dSub (fLook 0) (f2 dPow (f0 (.int 10)) (f0 (.int 18))))) (aVal (f2 dAdd (f2 dMod (fLook 0) (f0 (.int 2147483629))) (f0 (.int 1))) (aVal (f0 (.int 0)) aNil)))))
def b__law_cell_at : F Fl := (sSeq (sIf (f1 dBl (f2 dLt (fLook 1) (fSeeLen 0))) (sRet (fSeeIx 0 (fLook 1))) sNil) (sRet (f0 (.int 0))))
def b__law_draw : F Fl := (sSeq (sIf (f1 dBl (f2 dGt (f2 dIx (fLook 0) (f0 (.int 0))) (f0 (.int 0)))) (sSeq (sSet 2 (f2 dMod (f2 dIx (fLook 0) (f0 (.int 0))) (fLook 1))) (sSeq (sSetIx 0 (f0 (.int 0)) (f2 dFdiv (f2 dIx (fLook 0) (f0 (.int 0))) (fLook 1))) (sRetVar 2))) sNil) (sSeq (sSetIx 0 (f0 (.int 2)) (f2 dAdd (f2 dIx (fLook 0) (f0 (.int 2))) (f0 (.int 1)))) (sSeq (sSetIx 0 (f0 (.int 1)) (f2 dMod (f2 dAdd (f2 dAdd (f2 dMulT (f2 dIx (fLook 0) (f0 (.int 1))) (f0 (.int 48271))) (f2 dMulT (f0 (.int 1009)) (f2 dIx (fLook 0) (f0 (.int 2))))) (f0 (.int 7))) (f0 (.int 2147483647)))) (sSeq (sSet 3 (f2 dMod (f2 dAdd (f2 dAdd (f2 dMulT (f2 dIx (fLook 0) (f0 (.int 1))) (f2 dIx (fLook 0) (f0 (.int 1)))) (f2 dMulT (f0 (.int 69621)) (f2 dIx (fLook 0) (f0 (.int 1))))) (f0 (.int 11))) (f0 (.int 2147483629)))) (sSeq (sSet 3 (f2 dMod (f2 dAdd (f2 dMulT (fLook 3) (fLook 3)) (f2 dMulT (f0 (.int 40014)) (fLook 3))) (f0 (.int 2147483587)))) (sRet (f2 dMod (f2 dFdiv (fLook 3) (f0 (.int 16))) (fLook 1))))))))
def El__law_seven_1 : F D := (fTup (aVal (f2 dAdd (f0 (.int 1)) (f2 dMod (f2 dAdd (f2 dMulT (f0 (.int 3)) (fLook 1)) (fCall 4 b__law_draw (aVar 0 (aVal (f0 (.int 3)) aNil)))) (f0 (.int 20)))) (aVal (f2 dAdd (f0 (.int 1)) (fLook 1)) aNil)))
def b__law_seven : F Fl := (sRet (fD (nLc (iArgs dRng1 (aVal (f0 (.int 7)) aNil)) (gNm 1) tTrue El__law_seven_1 [1])))
def b__law_odds : F Fl := (sSeq (sSetNew 0 (nLst (aVal (f0 .non) (aVal (f0 (.bl true)) (aVal (f0 (.bl false)) (aVal (f0 (.int 0)) (aVal (f0 (.int 1)) (aVal (f1 dNeg (f0 (.int 1))) (aVal (f0 (.int 2)) (aVal (f2 dSub (f2 dPow (f0 (.int 10)) (f0 (.int 13))) (f0 (.int 1))) (aVal (f0 (.str "")) (aVal (f0 (.str "0")) (aVal (f0 (.str "at most 1 in 1")) (aVal (fTup aNil) (aVal (fD (nLst aNil)) (aVal (f0 (.dct [])) (aVal (fTup (aVal (f0 (.int 1)) aNil)) (aVal (fD (nLst (aVal (f0 (.int 1)) aNil))) (aVal (fTup (aVal (f0 (.int 1)) (aVal (f0 (.int 1)) (aVal (f0 (.int 1)) aNil)))) aNil))))))))))))))))))) (sFrz 0 (sSeq (sSet 0 (f2 dAdd (fLook 0) (fD (nLst (aVal (fTup (aVal (f0 (.int 0)) (aVal (f0 (.int 1)) aNil))) (aVal (fTup (aVal (f0 (.int 1)) (aVal (f0 (.int 0)) aNil))) (aVal (fTup (aVal (f0 (.int 21)) (aVal (f0 (.int 1)) aNil))) (aVal (fTup (aVal (f0 (.int 1)) (aVal (f0 (.int 21)) aNil))) (aVal (fTup (aVal (f0 (.int 20)) (aVal (f0 (.int 20)) aNil))) (aVal (fTup (aVal (f0 (.int 1)) (aVal (f0 (.int 1)) aNil))) (aVal (fTup (aVal (f0 (.bl true)) (aVal (f0 (.int 1)) aNil))) (aVal (fTup (aVal (f0 (.int 1)) (aVal (f0 (.bl true)) aNil))) (aVal (fTup (aVal (f0 (.str "1")) (aVal (f0 (.int 1)) aNil))) (aVal (fTup (aVal (f0 .non) (aVal (f0 (.int 1)) aNil))) aNil)))))))))))))) (sSeq (sSet 0 (f2 dAdd (fLook 0) (fD (nLst (aVal (fD (nLst (aVal (f0 (.int 1)) (aVal (f0 (.int 1)) aNil)))) (aVal (fTup (aVal (fTup (aVal (f0 (.int 1)) (aVal (f0 (.int 1)) aNil))) aNil)) (aVal (fTup (aVal (f1 dNeg (f0 (.int 1))) (aVal (f0 (.int 2)) aNil))) (aVal (fDct1 (.inl 1) (f0 (.int 1))) (aVal (fTup (aVal (fTup (aVal (f0 (.int 1)) aNil)) (aVal (f0 (.int 1)) aNil))) (aVal (fTup (aVal (f2 dSub (f2 dPow (f0 (.int 10)) (f0 (.int 13))) (f0 (.int 1))) (aVal (f0 (.int 1)) aNil))) (aVal (fD (nLst (aVal (fTup (aVal (f0 (.int 1)) (aVal (f0 (.int 1)) aNil))) aNil))) (aVal (f0 (.str "at most 1 in 1\n")) aNil)))))))))))) (sRet (f2 dAdd (fLook 0) (fD (nLst (aVal (fTup (aVal (f0 (.bl false)) (aVal (f0 (.bl true)) aNil))) (aVal (fTup (aVal (f0 (.int 1)) (aVal (fTup (aVal (f0 (.int 1)) aNil)) aNil))) (aVal (fTup (aVal (f0 (.int 2)) (aVal (f0 (.int 3)) aNil))) aNil)))))))))))
def b_is_integer : F Fl := (sRet (vAnd (f1 (dIsT [0, 1] "int") (fLook 0)) (f1 vNot (f1 (dIsT [0, 1] "bool") (fLook 0)))))
def b_is_between : F Fl := (sRet (vAnd (fCall 1 b_is_integer (aVar 0 aNil)) (fChain dLe dLe (fLook 1) (fLook 0) (fLook 2))))
def b_is_pair : F Fl := (sSeq (sIf (tOrF (tNotF (f1 dTruth (f1 (dIsT [0, 1] "tuple") (fLook 0)))) (f1 dBl (f2 dNe (f1 dLen (fLook 0)) (f0 (.int 2))))) (sRet (f0 (.bl false))) sNil) (sRet (vAnd (fCall 3 b_is_between (aVal (f2 dIx (fLook 0) (f0 (.int 0))) (aVal (f0 (.int 1)) (aVal (f0 (.int 20)) aNil)))) (fCall 3 b_is_between (aVal (f2 dIx (fLook 0) (f0 (.int 1))) (aVal (f0 (.int 1)) (aVal (f0 (.int 20)) aNil)))))))
def b_are_pairs : F Fl := (sRet (vAnd (f2 dGt (f1 dLen (fLook 0)) (f0 (.int 0))) (vAnd (f1 dAll (fD (nLc (iSeqF (fVar 0)) (gNm 1) tTrue (fCall 1 b_is_pair (aVar 1 aNil)) [1]))) (f2 dEq (f1 dLenSet (fLook 0)) (f1 dLen (fLook 0))))))
def b_Limits___init__ : F Fl := (sSeq (sIf (tNotF (f1 dTruth (fCall 2 b_are_pairs (aVar 1 aNil)))) (sRaise 0) sNil) (sSeq (sIf (f1 dBl (f2 dGt (f1 dLen (fLook 1)) (f0 (.int 6)))) (sRaiseT 10 " are more than " "amount" "limit" (f1 dLen (fLook 1)) (f0 (.int 6))) sNil) (sSetF [0] 0 "kept" (fVar 1))))
def b_number_in : F Fl := (sSeq (sIf (tOrF (tNotF (f1 dBl (fChain dLe dLe (f0 (.int 1)) (f1 dLen (fLook 0)) (f0 (.int 2))))) (tOrF (tNotF (f1 dTruth (f1 dAll (fD (nLc (iStrF (fVar 0)) (gNm 1) tTrue (f2 dIn (fLook 1) (f0 (.str "0123456789"))) [1]))))) (f1 dBl (f2 dEq (f2 dIx (fLook 0) (f0 (.int 0))) (f0 (.str "0")))))) (sRet (f0 (.int 0))) sNil) (sRet (f1 dIntS (fVar 0))))
def b_pair_in : F Fl := (sSeq (sIf (tNotF (f1 dTruth (fS1 dStarts (fLook 0) (f0 (.str "at most "))))) (sRet (fTup aNil)) sNil) (sMt 1 2 "in" (fD (fS1 (fun x y => (dSplit x y).map MO.lst) (fSlL (fLook 0) (f1 dLen (f0 (.str "at most ")))) (f0 (.str " ")))) (sRet (fTup (aVal (fCall 2 b_number_in (aVar 2 aNil)) (aVal (fCall 2 b_number_in (aVar 1 aNil)) aNil)))) (sRet (fTup aNil))))
def b_Limits_read : F Fl := (sSeq (sIf (tOrF (tNotF (f1 dTruth (f1 (fun d => (dIsi (isiB "str") (fun _ => none) d).map D.bl) (fLook 1)))) (tNotF (f1 dTruth (fS1 dEnds (fLook 1) (f0 (.str "\n")))))) (sRaise 8) sNil) (sSeq (sSetNew 2 (nLc (iSeqF (fD (fS1 (fun x y => (dSplit x y).map MO.lst) (fSlH (fLook 1) (f1 dNeg (f0 (.int 1)))) (f0 (.str "\n"))))) (gNm 3) tTrue (fCall 3 b_pair_in (aVar 3 aNil)) [3])) (sFrz 2 (sSeq (sIf (tOrF (tNotF (f1 dTruth (fCall 2 b_are_pairs (aVar 2 aNil)))) (f1 dBl (f2 dGt (f1 dLen (fLook 2)) (f0 (.int 6))))) (sRaise 8) sNil) (sRet (fD (nMakeL 0 0 2 b_Limits___init__ (aStar (fLook 2) aNil))))))))
def El__law_text_1 : F D := (f2 dAdd (f2 dAdd (f2 dAdd (f2 dAdd (f0 (.str "at most ")) (f1 dStr (fVar 2))) (f0 (.str " in "))) (f1 dStr (fVar 1))) (f0 (.str "\n")))
def b__law_text : F Fl := (sRet (fS1 dJoin (f0 (.str "")) (fD (nLc (iSeqF (fVar 0)) (gTupD 2 (gsCons (gNm 1) (gsCons (gNm 2) gsNil))) tTrue El__law_text_1 [1, 2]))))
def b__law_made : F Fl := (sRet (fCall 4 b_Limits_read (aCls 0 (aVal (fCall 3 b__law_text (aVar 0 aNil)) aNil))))
def b_need_limits : F Fl := (sIf (tNotF (f1 dTruth (f1 (dIsC [(0, true)]) (fLook 0)))) (sRaise 1) sNil)
def b_Gate___init__ : F Fl := (sSeq (sExpr (fCall 1 b_need_limits (aVar 1 aNil))) (sAsgF [1] 0 "base" "past" (fTup (aVar 1 (aVal (fTup (aVal (fTup (aVal (fTup aNil) (aVal (fTup aNil) aNil))) aNil)) aNil)))))
def b_Limits_pairs : F Fl := (sRet (f1 (dFld [0] "kept") (fLook 0)))
def b__law_objects : F Fl := (sSeq (sSet 0 (fCall 1 b__law_made (aVal (fTup (aVal (fTup (aVal (f0 (.int 1)) (aVal (f0 (.int 2)) aNil))) (aVal (fTup (aVal (f0 (.int 3)) (aVal (f0 (.int 4)) aNil))) aNil))) aNil))) (sRet (fD (nLst (aVar 0 (aVal (fTup (aVar 0 aNil)) (aVal (fD (nLst (aVar 0 aNil))) (aVal (fTup (aVar 0 (aVal (f0 (.int 1)) aNil))) (aVal (fDct1 (.inr "a") (fVar 0)) (aVal (fD (nMake 1 2 b_Gate___init__ (aVar 0 aNil))) (aVal (fTup (aVal (f0 (.int 1)) (aVal (fD (nMake 1 2 b_Gate___init__ (aVar 0 aNil))) aNil))) (aVal (fProp 0 1 b_Limits_pairs (vVar 0)) aNil))))))))))))
def b__law_pick : F Fl := (sRet (f2 dIx (fVar 1) (fCall 4 b__law_draw (aVar 0 (aVal (f1 dLen (fLook 1)) aNil)))))
def L__law_pairs_1 : F Fl := (sSeq (sSet 5 (fTup (aVal (f2 dAdd (f0 (.int 1)) (fCall 4 b__law_draw (aVar 0 (aVar 2 aNil)))) (aVal (f2 dAdd (f0 (.int 1)) (fCall 4 b__law_draw (aVar 0 (aVar 2 aNil)))) aNil)))) (sIf (f1 dBl (f2 dNotIn (fLook 5) (fLook 3))) (sExpr (fM1 3 gApp (fVar 5))) sNil))
def b__law_pairs : F Fl := (sSeq (sPar [2, 3] (aVal (fCall 2 b__law_pick (aVar 0 (aVal (fD (nLst (aVal (f0 (.int 3)) (aVal (f0 (.int 5)) (aVal (f0 (.int 9)) (aVal (f0 (.int 20)) aNil)))))) aNil))) (aNew (nLst aNil) aNil))) (sSeq (sFor (iArgs dRng1 (aVal (f2 dAdd (f0 (.int 1)) (fCall 4 b__law_draw (aVar 0 (aVar 1 aNil)))) aNil)) (gNm 4) L__law_pairs_1) (sFrz 3 (sRet (f1 dTuple (fLook 3))))))
def Cn__law_is_limit_1 : F Bool := (tOrF (tNotF (f1 dTruth (f1 (dIsT [0, 1] "int") (fLook 1)))) (tOrF (f1 dTruth (f1 (dIsT [0, 1] "bool") (fLook 1))) (tNotF (f1 dBl (fChain dLe dLe (f0 (.int 1)) (fLook 1) (f0 (.int 20)))))))
def b__law_is_limit : F Fl := (sSeq (sIf (tOrF (tNotF (f1 dTruth (f1 (dIsT [0, 1] "tuple") (fLook 0)))) (f1 dBl (f2 dNe (f1 dLen (fLook 0)) (f0 (.int 2))))) (sRet (f0 (.bl false))) sNil) (sRet (f2 dEq (fD (nLc (iSeqF (fVar 0)) (gNm 1) Cn__law_is_limit_1 (f0 (.int 1)) [1])) (fD (nLst aNil)))))
def Cn__law_are_limits_1 : F Bool := (tNotF (f1 dTruth (fCall 2 b__law_is_limit (aVar 1 aNil))))
def Cn__law_are_limits_2 : F Bool := (f1 dBl (f2 dGt (fCnt (fVar 0) (fVar 1)) (f0 (.int 1))))
def b__law_are_limits : F Fl := (sSeq (sIf (tOrF (f1 dBl (f2 dEq (f1 dLen (fLook 0)) (f0 (.int 0)))) (f1 dBl (f2 dNe (fD (nLc (iSeqF (fVar 0)) (gNm 1) Cn__law_are_limits_1 (f0 (.int 1)) [1])) (fD (nLst aNil))))) (sRet (f0 (.bl false))) sNil) (sRet (f2 dEq (fD (nLc (iSeqF (fVar 0)) (gNm 1) Cn__law_are_limits_2 (f0 (.int 1)) [1])) (fD (nLst aNil)))))
def b_Limits___repr__ : F Fl := (sRet (fJ [(f0 (.str "Limits(")), (f1 dFmt (f1 dLen (f1 (dFld [0] "kept") (fLook 0)))), (f0 (.str " limits)"))] Str.empty))
def b_Gate_come : F Fl := (sRet (f2 dIx (f2 dIx (f1 (dFld [1] "past") (fLook 0)) (f1 dNeg (f0 (.int 1)))) (f0 (.int 0))))
def b_Gate___len__ : F Fl := (sRet (f1 dLen (fProp 1 1 b_Gate_come (vVar 0))))
def b_Gate_through : F Fl := (sRet (f2 dIx (f2 dIx (f1 (dFld [1] "past") (fLook 0)) (f1 dNeg (f0 (.int 1)))) (f0 (.int 1))))
def b_Gate_waiting : F Fl := (sRet (f2 dSub (f1 dSum (fProp 1 1 b_Gate_come (vVar 0))) (f1 dSum (fProp 1 1 b_Gate_through (vVar 0)))))
def b_Gate___repr__ : F Fl := (sRet (fJ [(f1 dFmt (f1 (dCon 1 "NAME" "Gate") (fLook 0))), (f0 (.str "(")), (f1 dFmt (f1 dLenR (fMth 1 "" 1 b_Gate___len__ (vVar 0) aNil))), (f0 (.str " ticks, ")), (f1 dFmt (fProp 1 1 b_Gate_waiting (vVar 0))), (f0 (.str " waiting)"))] Str.empty))
def b__law_kind (c : Nat) : F Fl := (sSeq (sSetNew 1 (nLst (aVal (f1 (dIsX (decide (c = 0))) (fVar 0)) (aVal (f1 (dIsX (decide (c = 1))) (fVar 0)) (aVal (f1 (dIsX (decide (c = 2))) (fVar 0)) (aVal (f1 (dIsX (decide (c = 3))) (fVar 0)) aNil)))))) (sFrz 1 (sSeq (sSetNew 1 (n2 gAddL (fLook 1) (fD (nLst (aVal (f1 (dIsX (decide (c = 4))) (fVar 0)) (aVal (f1 (dIsX (decide (c = 5))) (fVar 0)) (aVal (f1 (dIsX (decide (c = 6))) (fVar 0)) aNil))))))) (sFrz 1 (sSeq (sSetNew 1 (n2 gAddL (fLook 1) (fD (nLst (aVal (f1 (dIsX (decide (c = 7))) (fVar 0)) (aVal (f1 (dIsX (decide (c = 8))) (fVar 0)) (aVal (f1 (dIsX (decide (c = 9))) (fVar 0)) aNil))))))) (sFrz 1 (sSeq (sSetNew 1 (n2 gAddL (fLook 1) (fD (nLst (aVal (f1 (dIsX (decide (c = 10))) (fVar 0)) (aVal (f1 (dIsX (decide (c = 11))) (fVar 0)) (aVal (f1 (dIsX (decide (c = 12))) (fVar 0)) aNil))))))) (sSeq (sSetNew 2 (nLst (aVal (f0 (.str "limit")) (aVal (f0 (.str "limits")) (aVal (f0 (.str "row")) (aVal (f0 (.str "rows")) (aVal (f0 (.str "number")) (aVal (f0 (.str "length")) (aVal (f0 (.str "lengths")) (aVal (f0 (.str "amount")) (aVal (f0 (.str "text")) (aVal (f0 (.str "done")) (aVal (f0 (.str "many")) aNil))))))))))))) (sFrz 2 (sSeq (sSet 2 (f2 dAdd (fLook 2) (fD (nLst (aVal (f0 (.str "full")) (aVal (f0 (.str "late")) aNil)))))) (sSeq (sIf (tOrF (f1 dBl (f2 dNe (fM1 1 gCnt (f0 (.bl true))) (f0 (.int 1)))) (tNotF (f1 dTruth (f1 (dIsX true) (fVar 0))))) (sRet (f0 (.str "other"))) sNil) (sRet (f2 dIx (fVar 2) (fM1 1 gIxB (f0 (.bl true))))))))))))))))
theorem kw_chk : kwChk 13 b__law_kind 3 "many" 10 = true := by kernel_rfl
def b__law_due : F Fl := (sRet (fD (nLst (aVar 0 (aVal (f1 dLen (fLook 0)) (aVal (fD (n1 dList (fLook 0))) (aVal (f2 dAdd (f2 dAdd (f0 (.str "Limits(")) (f1 dStr (f1 dLen (fLook 0)))) (f0 (.str " limits)"))) (aVal (fCall 3 b__law_text (aVar 0 aNil)) aNil))))))))
def b_Limits___getitem__ : F Fl := (sSeq (sIf (tNotF (f1 dTruth (fCall 3 b_is_between (aVar 1 (aVal (f0 (.int 0)) (aVal (f2 dSub (f1 dLen (f1 (dFld [0] "kept") (fLook 0))) (f0 (.int 1))) aNil)))))) (sRaise 4) sNil) (sRet (f2 dIx (f1 (dFld [0] "kept") (fLook 0)) (fLook 1))))
def b_Limits___len__ : F Fl := (sRet (f1 dLen (f1 (dFld [0] "kept") (fLook 0))))
def El_Limits_text_1 : F D := (fJ [(f0 (.str "at most ")), (f1 dFmt (fLook 2)), (f0 (.str " in ")), (f1 dFmt (fLook 1)), (f0 (.str "\n"))] Str.empty)
def b_Limits_text : F Fl := (sRet (fS1 dJoin (f0 (.str "")) (fD (nLc (iSeqF (f1 (dFld [0] "kept") (fLook 0))) (gTupD 2 (gsCons (gNm 1) (gsCons (gNm 2) gsNil))) tTrue El_Limits_text_1 [1, 2]))))
def El__law_seen_1 : F D := (fMth 0 "" 2 b_Limits___getitem__ (vVar 0) (aVal (fVar 2) aNil))
def b__law_seen : F Fl := (sSeq (sSetNew 1 (nLc (iArgs dRng1 (aVal (f1 dLenR (fMth 0 "" 1 b_Limits___len__ (vVar 0) aNil)) aNil)) (gNm 2) tTrue El__law_seen_1 [2])) (sFrz 1 (sRet (fD (nLst (aVal (fProp 0 1 b_Limits_pairs (vVar 0)) (aVal (f1 dLenR (fMth 0 "" 1 b_Limits___len__ (vVar 0) aNil)) (aVar 1 (aVal (f1 dStrR (fMth 0 "" 1 b_Limits___repr__ (vVar 0) aNil)) (aVal (fMth 0 "text" 3 b_Limits_text (vVar 0) aNil) aNil))))))))))
def b__law_direct : F Fl := (sSeq (sIf (f1 dBl (f2 dEq (f1 dLen (fLook 0)) (f0 (.int 0)))) (sRet (fD (nMakeS 0 2 b_Limits___init__ aNil))) sNil) (sSeq (sIf (f1 dBl (f2 dEq (f1 dLen (fLook 0)) (f0 (.int 1)))) (sRet (fD (nMakeS 0 2 b_Limits___init__ (aVal (f2 dIx (fLook 0) (f0 (.int 0))) aNil)))) sNil) (sSeq (sIf (f1 dBl (f2 dEq (f1 dLen (fLook 0)) (f0 (.int 2)))) (sRet (fD (nMakeS 0 2 b_Limits___init__ (aVal (f2 dIx (fLook 0) (f0 (.int 0))) (aVal (f2 dIx (fLook 0) (f0 (.int 1))) aNil))))) sNil) (sSeq (sIf (f1 dBl (f2 dEq (f1 dLen (fLook 0)) (f0 (.int 3)))) (sRet (fD (nMakeS 0 2 b_Limits___init__ (aVal (f2 dIx (fLook 0) (f0 (.int 0))) (aVal (f2 dIx (fLook 0) (f0 (.int 1))) (aVal (f2 dIx (fLook 0) (f0 (.int 2))) aNil)))))) sNil) (sSeq (sIf (f1 dBl (f2 dEq (f1 dLen (fLook 0)) (f0 (.int 4)))) (sRet (fD (nMakeS 0 2 b_Limits___init__ (aVal (f2 dIx (fLook 0) (f0 (.int 0))) (aVal (f2 dIx (fLook 0) (f0 (.int 1))) (aVal (f2 dIx (fLook 0) (f0 (.int 2))) (aVal (f2 dIx (fLook 0) (f0 (.int 3))) aNil))))))) sNil) (sSeq (sIf (f1 dBl (f2 dEq (f1 dLen (fLook 0)) (f0 (.int 5)))) (sRet (fD (nMakeS 0 2 b_Limits___init__ (aVal (f2 dIx (fLook 0) (f0 (.int 0))) (aVal (f2 dIx (fLook 0) (f0 (.int 1))) (aVal (f2 dIx (fLook 0) (f0 (.int 2))) (aVal (f2 dIx (fLook 0) (f0 (.int 3))) (aVal (f2 dIx (fLook 0) (f0 (.int 4))) aNil)))))))) sNil) (sSeq (sIf (f1 dBl (f2 dEq (f1 dLen (fLook 0)) (f0 (.int 6)))) (sRet (fD (nMakeS 0 2 b_Limits___init__ (aVal (f2 dIx (fLook 0) (f0 (.int 0))) (aVal (f2 dIx (fLook 0) (f0 (.int 1))) (aVal (f2 dIx (fLook 0) (f0 (.int 2))) (aVal (f2 dIx (fLook 0) (f0 (.int 3))) (aVal (f2 dIx (fLook 0) (f0 (.int 4))) (aVal (f2 dIx (fLook 0) (f0 (.int 5))) aNil))))))))) sNil) (sRet (fD (nMakeS 0 2 b_Limits___init__ (aVal (f2 dIx (fLook 0) (f0 (.int 0))) (aVal (f2 dIx (fLook 0) (f0 (.int 1))) (aVal (f2 dIx (fLook 0) (f0 (.int 2))) (aVal (f2 dIx (fLook 0) (f0 (.int 3))) (aVal (f2 dIx (fLook 0) (f0 (.int 4))) (aVal (f2 dIx (fLook 0) (f0 (.int 5))) (aVal (f2 dIx (fLook 0) (f0 (.int 6))) aNil)))))))))))))))))
def rpM (c : Nat) (fs : List (Str × D)) : Option Str := match c with
  | 0 => rpR (b_Limits___repr__ (padG N_Limits___repr__.length [.val (.ins 0 fs)]))
  | 1 => rpR (b_Gate___repr__ (padG N_Gate___repr__.length [.val (.ins 1 fs)]))
  | _ => none
def El__law_is_right_1 : F D := (fSaidX (kwOf 13 b__law_kind 3) (sayX "many" "! many " "! ") (fCall 3 b__law_seen (aVal (fCall 1 b__law_direct (aVar 0 aNil)) aNil)))
def b__law_is_right : F Fl := (sSeq (sSet 1 (f0 (.str "! limit"))) (sSeq (sIf (f1 dTruth (fCall 2 b__law_are_limits (aVar 0 aNil))) (sSet 1 (fIf (f1 dBl (f2 dGt (f1 dLen (fLook 0)) (f0 (.int 6)))) (f2 dAdd (f0 (.str "! many ")) (f1 dRepr (fTup (aVal (f1 dLen (fLook 0)) (aVal (f0 (.int 6)) aNil))))) (f1 dRepr (fCall 1 b__law_due (aVal (f1 dTuple (fLook 0)) aNil))))) sNil) (sSeq (sSet 2 (f1 (dReprA rpM) (fVar 0))) (sSeq (sSetNew 3 (nLc (iArgs dRng1 (aVal (f0 (.int 2)) aNil)) (gNm 4) tTrue El__law_is_right_1 [4])) (sFrz 3 (sRet (vAnd (f2 dEq (fLook 3) (fD (nLst (aVar 1 (aVar 1 aNil))))) (f2 dEq (f1 (dReprA rpM) (fVar 0)) (fLook 2)))))))))
def L_law_1 : F Fl := (sSet 7 (f2 dAdd (fLook 7) (fD (nLst (aVal (f2 dAdd (f2 dAdd (fSlH (fLook 5) (fVar 6)) (fD (nLst (aVar 8 aNil)))) (fSlL (fLook 5) (f2 dAdd (fLook 6) (f0 (.int 1))))) (aVal (fD (nLst (aVar 8 aNil))) (aVal (f2 dAdd (fSlH (fLook 4) (f0 (.int 4))) (fD (nLst (aVar 8 aNil)))) aNil)))))))
def Cn_law_1 : F Bool := (tNotF (f1 dTruth (fCall 5 b__law_is_right (aVar 9 aNil))))
def L_law_2 : F Fl := (sSeq (sPar [4, 5, 6] (aVal (fD (n1 dList (fCall 6 b__law_pairs (aVar 2 (aVal (f0 (.int 6)) aNil))))) (aVal (fCall 2 b__law_seven (aVar 2 aNil)) (aVal (fCall 4 b__law_draw (aVar 2 (aVal (f0 (.int 6)) aNil))) aNil)))) (sSeq (sSetNew 7 (nLst (aVar 4 (aVar 5 (aVal (fSlH (fLook 5) (f0 (.int 6))) (aVal (f2 dAdd (fSlH (fLook 4) (f0 (.int 5))) (fSlH (fLook 4) (f0 (.int 1)))) aNil)))))) (sFrz 7 (sSeq (sSet 7 (f2 dAdd (fLook 7) (fD (nLst (aVal (f2 dAdd (fSlH (fLook 5) (f0 (.int 6))) (fSl2 (fLook 5) (fVar 6) (f2 dAdd (fLook 6) (f0 (.int 1))))) (aVal (f2 dAdd (fSlH (fLook 4) (f0 (.int 6))) (fD (nLst (aVal (fTup (aVal (f0 (.int 20)) (aVal (f0 (.int 20)) aNil))) aNil)))) aNil)))))) (sSeq (sFor (iSeqF (f2 dAdd (fCall 1 b__law_odds aNil) (fCall 1 b__law_objects aNil))) (gNm 8) L_law_1) (sIf (tOrF (f1 dBl (f2 dNe (fD (nLc (iSeqF (fVar 7)) (gNm 9) Cn_law_1 (f0 (.int 1)) [9])) (fD (nLst aNil)))) (tNotF (f1 dTruth (fCall 5 b__law_is_right (aVal (fD (nLst aNil)) aNil))))) (sRet (f0 (.bl false))) sNil))))))
def L_law_3 : F Fl := (sSeq (sSetNew 2 (nCall 1 b__law_pen (aVar 1 aNil))) (sFor (iArgs dRng1 (aVal (f0 (.int 4)) aNil)) (gNm 3) L_law_2))
def b_law : F Fl := (sSeq (sFor (iSeqF (f2 dAdd (fD (nLst (aVal (fCall 2 b__law_cell_at (aVar 0 (aVal (f0 (.int 0)) aNil))) aNil))) (fSeeSl 0 1 3))) (gNm 1) L_law_3) (sRet (f0 (.bl true))))
def cn : Nat → Str
  | 0 => "Limits"
  | 1 => "Gate"
  | _ => ""
abbrev Cc (K : PySem.W.Frag) : Ct := ⟨K, fun c => He.ga K (cn c), fun c => He.ga K (xn.getD c ""), lf.map fun d => (tabA K (d.ad K), lamQ d)⟩
theorem sc__law_pen : FnScope N__law_pen ["_law_cell"] (defScope s__law_pen) := ⟨rfl, rfl, rfl, by decide +kernel, rfl, by decide +kernel, by decide +kernel⟩
theorem sc__law_cell_at : FnScope N__law_cell_at ["_law_script", "_law_k"] (defScope s__law_cell_at) := ⟨rfl, rfl, rfl, by decide +kernel, rfl, by decide +kernel, by decide +kernel⟩
theorem sc__law_draw : FnScope N__law_draw ["_law_pen_here", "_law_many"] (defScope s__law_draw) := ⟨rfl, rfl, rfl, by decide +kernel, rfl, by decide +kernel, by decide +kernel⟩
theorem sc__law_seven : FnScope N__law_seven ["_law_pen_here"] (defScope s__law_seven) := ⟨rfl, rfl, rfl, by decide +kernel, rfl, by decide +kernel, by decide +kernel⟩
theorem sc__law_odds : FnScope N__law_odds [] (defScope s__law_odds) := ⟨rfl, rfl, rfl, by decide +kernel, rfl, by decide +kernel, by decide +kernel⟩
theorem sc_is_integer : FnScope N_is_integer ["thing"] (defScope s_is_integer) := ⟨rfl, rfl, rfl, by decide +kernel, rfl, by decide +kernel, by decide +kernel⟩
theorem sc_is_between : FnScope N_is_between ["thing", "least", "most"] (defScope s_is_between) := ⟨rfl, rfl, rfl, by decide +kernel, rfl, by decide +kernel, by decide +kernel⟩
theorem sc_is_pair : FnScope N_is_pair ["thing"] (defScope s_is_pair) := ⟨rfl, rfl, rfl, by decide +kernel, rfl, by decide +kernel, by decide +kernel⟩
theorem sc_are_pairs : FnScope N_are_pairs ["things"] (defScope s_are_pairs) := ⟨rfl, rfl, rfl, by decide +kernel, rfl, by decide +kernel, by decide +kernel⟩
theorem sc_Limits___init__ : FnScope N_Limits___init__ ["self", "pairs"] (defScope s_Limits___init__) := ⟨rfl, rfl, rfl, by decide +kernel, rfl, by decide +kernel, by decide +kernel⟩
theorem sc_number_in : FnScope N_number_in ["word"] (defScope s_number_in) := ⟨rfl, rfl, rfl, by decide +kernel, rfl, by decide +kernel, by decide +kernel⟩
theorem sc_pair_in : FnScope N_pair_in ["line"] (defScope s_pair_in) := ⟨rfl, rfl, rfl, by decide +kernel, rfl, by decide +kernel, by decide +kernel⟩
theorem sc_Limits_read : FnScope N_Limits_read ["cls", "text"] (defScope s_Limits_read) := ⟨rfl, rfl, rfl, by decide +kernel, rfl, by decide +kernel, by decide +kernel⟩
theorem sc__law_text : FnScope N__law_text ["_law_pairs_here"] (defScope s__law_text) := ⟨rfl, rfl, rfl, by decide +kernel, rfl, by decide +kernel, by decide +kernel⟩
theorem sc__law_made : FnScope N__law_made ["_law_pairs_here"] (defScope s__law_made) := ⟨rfl, rfl, rfl, by decide +kernel, rfl, by decide +kernel, by decide +kernel⟩
theorem sc_need_limits : FnScope N_need_limits ["thing"] (defScope s_need_limits) := ⟨rfl, rfl, rfl, by decide +kernel, rfl, by decide +kernel, by decide +kernel⟩
theorem sc_Gate___init__ : FnScope N_Gate___init__ ["self", "limits"] (defScope s_Gate___init__) := ⟨rfl, rfl, rfl, by decide +kernel, rfl, by decide +kernel, by decide +kernel⟩
theorem sc_Limits_pairs : FnScope N_Limits_pairs ["self"] (defScope s_Limits_pairs) := ⟨rfl, rfl, rfl, by decide +kernel, rfl, by decide +kernel, by decide +kernel⟩
theorem sc__law_objects : FnScope N__law_objects [] (defScope s__law_objects) := ⟨rfl, rfl, rfl, by decide +kernel, rfl, by decide +kernel, by decide +kernel⟩
theorem sc__law_pick : FnScope N__law_pick ["_law_pen_here", "_law_some"] (defScope s__law_pick) := ⟨rfl, rfl, rfl, by decide +kernel, rfl, by decide +kernel, by decide +kernel⟩
theorem sc__law_pairs : FnScope N__law_pairs ["_law_pen_here", "_law_many"] (defScope s__law_pairs) := ⟨rfl, rfl, rfl, by decide +kernel, rfl, by decide +kernel, by decide +kernel⟩
theorem sc__law_is_limit : FnScope N__law_is_limit ["_law_thing"] (defScope s__law_is_limit) := ⟨rfl, rfl, rfl, by decide +kernel, rfl, by decide +kernel, by decide +kernel⟩
theorem sc__law_are_limits : FnScope N__law_are_limits ["_law_some"] (defScope s__law_are_limits) := ⟨rfl, rfl, rfl, by decide +kernel, rfl, by decide +kernel, by decide +kernel⟩
theorem sc_Limits___repr__ : FnScope N_Limits___repr__ ["self"] (defScope s_Limits___repr__) := ⟨rfl, rfl, rfl, by decide +kernel, rfl, by decide +kernel, by decide +kernel⟩
theorem sc_Gate_come : FnScope N_Gate_come ["self"] (defScope s_Gate_come) := ⟨rfl, rfl, rfl, by decide +kernel, rfl, by decide +kernel, by decide +kernel⟩
theorem sc_Gate___len__ : FnScope N_Gate___len__ ["self"] (defScope s_Gate___len__) := ⟨rfl, rfl, rfl, by decide +kernel, rfl, by decide +kernel, by decide +kernel⟩
theorem sc_Gate_through : FnScope N_Gate_through ["self"] (defScope s_Gate_through) := ⟨rfl, rfl, rfl, by decide +kernel, rfl, by decide +kernel, by decide +kernel⟩
theorem sc_Gate_waiting : FnScope N_Gate_waiting ["self"] (defScope s_Gate_waiting) := ⟨rfl, rfl, rfl, by decide +kernel, rfl, by decide +kernel, by decide +kernel⟩
theorem sc_Gate___repr__ : FnScope N_Gate___repr__ ["self"] (defScope s_Gate___repr__) := ⟨rfl, rfl, rfl, by decide +kernel, rfl, by decide +kernel, by decide +kernel⟩
theorem sc__law_kind : FnScope N__law_kind ["_law_e"] (defScope s__law_kind) := ⟨rfl, rfl, rfl, by decide +kernel, rfl, by decide +kernel, by decide +kernel⟩
theorem uh65 {k : Nat} {A : Around} (hr : L2H.RoomH k A) : A.units + 65 < cLine := by have := hr.un; omega
theorem uh64 {k : Nat} {A : Around} (hr : L2H.RoomH k A) : A.units + 64 < cLine := by have := hr.un; omega
theorem sc__law_said : FnScope N__law_said ["_law_call"] (defScope s__law_said) := ⟨rfl, rfl, rfl, by decide +kernel, rfl, by decide +kernel, by decide +kernel⟩
theorem sc__law_due : FnScope N__law_due ["_law_pairs_here"] (defScope s__law_due) := ⟨rfl, rfl, rfl, by decide +kernel, rfl, by decide +kernel, by decide +kernel⟩
theorem sc_Limits___getitem__ : FnScope N_Limits___getitem__ ["self", "number"] (defScope s_Limits___getitem__) := ⟨rfl, rfl, rfl, by decide +kernel, rfl, by decide +kernel, by decide +kernel⟩
theorem sc_Limits___len__ : FnScope N_Limits___len__ ["self"] (defScope s_Limits___len__) := ⟨rfl, rfl, rfl, by decide +kernel, rfl, by decide +kernel, by decide +kernel⟩
theorem sc_Limits_text : FnScope N_Limits_text ["self"] (defScope s_Limits_text) := ⟨rfl, rfl, rfl, by decide +kernel, rfl, by decide +kernel, by decide +kernel⟩
theorem sc__law_seen : FnScope N__law_seen ["_law_made_here"] (defScope s__law_seen) := ⟨rfl, rfl, rfl, by decide +kernel, rfl, by decide +kernel, by decide +kernel⟩
theorem sc__law_direct : FnScope N__law_direct ["_law_some"] (defScope s__law_direct) := ⟨rfl, rfl, rfl, by decide +kernel, rfl, by decide +kernel, by decide +kernel⟩
theorem sc__law_is_right : FnScope N__law_is_right ["_law_some"] (defScope s__law_is_right) := ⟨rfl, rfl, rfl, by decide +kernel, rfl, by decide +kernel, by decide +kernel⟩
theorem sc_law : FnScope N_law ["_law_script"] (defScope s_law) := ⟨rfl, rfl, rfl, by decide +kernel, rfl, by decide +kernel, by decide +kernel⟩
section
variable {P : Program} {w : World} {K : PySem.W.Frag} {mg : Str → Option Value} {base : Heap} (pk : PrgOk P fl)
include pk
theorem tooMany (S : Sy fb fn lf K mg base) : TooK P K ((Cc K).ec 10) (He.ma K (He.ga K "TooMany") "__init__") "self" "amount" " are more than " "limit" 0 0 0 ⟨30, 28, 30, 34⟩ ⟨30, 27, 30, 35⟩ ⟨30, 35, 30, 50⟩ ⟨30, 51, 30, 56⟩ ⟨30, 50, 30, 57⟩ ⟨30, 25, 30, 58⟩ ⟨30, 8, 30, 13⟩ ⟨30, 8, 30, 15⟩ ⟨30, 8, 30, 24⟩ ⟨30, 8, 30, 59⟩ ⟨30, 8, 30, 59⟩ ⟨31, 8, 31, 12⟩ ⟨31, 8, 31, 19⟩ ⟨31, 21, 31, 25⟩ ⟨31, 21, 31, 31⟩ ⟨31, 8, 31, 31⟩ ⟨31, 35, 31, 41⟩ ⟨31, 43, 31, 48⟩ ⟨31, 34, 31, 49⟩ ⟨31, 8, 31, 49⟩ :=
  tooK_of pk (S.bool (f := fun K => tooB fl K (He.ga K "TooMany") (He.ma K (He.ga K "TooMany") "__init__") "amount" "limit") 93) (S.defX 39 rfl) rfl (fun _ _ _ _ _ _ _ _ _ _ => rfl) rfl rfl rfl rfl rfl (by decide +kernel) rfl rfl rfl rfl rfl (fun _ _ _ => rfl) (fun _ _ _ => rfl) (fun _ _ _ => rfl) (fun _ _ _ => rfl)
theorem ok__law_pen (S : Sy fb fn lf K mg base) : FnG P w K mg base (L2.CX P w) 1 (He.ga K "_law_pen") (spF (Cc K) N__law_pen 1 b__law_pen) := by
  obtain ⟨fd, Fd⟩ : ∃ fd : FuncData, FunD K "_law_pen" "_law_pen" (defArgs s__law_pen) (defBody s__law_pen) (defScope s__law_pen) [] [] (He.ga K "_law_pen") fd := S.def_ 0 rfl
  exact fnP_ok (ps := ["_law_cell"]) Fd sc__law_pen (Fd.bindsN fun _ _ _ _ _ _ us hl => match us, hl with | [_], _ => rfl) (fun cdv A outer s H E hr => (fss_one (fs_retNew (fn_lst (fa_val (fx_max2 rfl fx_int (fx_sub (fx_look (pv 0)) (fx_pow fx_int fx_int)) (S.free 0) rfl) (fa_val (fx_add (fx_mod (fx_look (pv 0)) fx_int) fx_int) (fa_val fx_int fa_nil)))))))
theorem ok__law_cell_at (S : Sy fb fn lf K mg base) : FnG P w K mg base (L2.CX P w) 1 (He.ga K "_law_cell_at") (spF (Cc K) N__law_cell_at 2 b__law_cell_at) := by
  obtain ⟨fd, Fd⟩ : ∃ fd : FuncData, FunD K "_law_cell_at" "_law_cell_at" (defArgs s__law_cell_at) (defBody s__law_cell_at) (defScope s__law_cell_at) [] [] (He.ga K "_law_cell_at") fd := S.def_ 1 rfl
  exact fnP_ok (ps := ["_law_script", "_law_k"]) Fd sc__law_cell_at (Fd.bindsN fun _ _ _ _ _ _ us hl => match us, hl with | [_, _], _ => rfl) (fun cdv A outer s H E hr => (fss_cons (fs_if (ft_lt (fx_look (pv 1)) (fx_seeLen (pv 0) (S.free 1) rfl)) (fss_one (fs_ret (fx_seeIx (pv 0) (fx_look (pv 1))))) fss_nil) (fss_one (fs_ret fx_int))))
theorem ok__law_draw (S : Sy fb fn lf K mg base) : FnG P w K mg base (L2.CX P w) 1 (He.ga K "_law_draw") (spF (Cc K) N__law_draw 2 b__law_draw) := by
  obtain ⟨fd, Fd⟩ : ∃ fd : FuncData, FunD K "_law_draw" "_law_draw" (defArgs s__law_draw) (defBody s__law_draw) (defScope s__law_draw) [] [] (He.ga K "_law_draw") fd := S.def_ 2 rfl
  exact fnP_ok (ps := ["_law_pen_here", "_law_many"]) Fd sc__law_draw (Fd.bindsN fun _ _ _ _ _ _ us hl => match us, hl with | [_, _], _ => rfl) (fun cdv A outer s H E hr => (fss_cons (fs_if (ft_gt (fx_ix (fx_look (pv 0)) fx_int) fx_int) (fss_cons (fs_set sc__law_draw.nd rfl (by first | exact Or.inl rfl | exact Or.inr rfl) (fx_mod (fx_ix (fx_look (pv 0)) fx_int) (fx_look (pv 1)))) (fss_cons (fs_setIx (pv 0) fx_int (fx_fdiv (fx_ix (fx_look (pv 0)) fx_int) (fx_look (pv 1)))) (fss_one (fs_retVar (pv 2))))) fss_nil) (fss_cons (fs_setIx (pv 0) fx_int (fx_add (fx_ix (fx_look (pv 0)) fx_int) fx_int)) (fss_cons (fs_setIx (pv 0) fx_int (fx_mod (fx_add (fx_add (fx_mulT (fx_ix (fx_look (pv 0)) fx_int) fx_int) (fx_mulT fx_int (fx_ix (fx_look (pv 0)) fx_int))) fx_int) fx_int)) (fss_cons (fs_set sc__law_draw.nd rfl (by first | exact Or.inl rfl | exact Or.inr rfl) (fx_mod (fx_add (fx_add (fx_mulT (fx_ix (fx_look (pv 0)) fx_int) (fx_ix (fx_look (pv 0)) fx_int)) (fx_mulT fx_int (fx_ix (fx_look (pv 0)) fx_int))) fx_int) fx_int)) (fss_cons (fs_set sc__law_draw.nd rfl (by first | exact Or.inl rfl | exact Or.inr rfl) (fx_mod (fx_add (fx_mulT (fx_look (pv 3)) (fx_look (pv 3))) (fx_mulT fx_int (fx_look (pv 3)))) fx_int)) (fss_one (fs_ret (fx_mod (fx_fdiv (fx_look (pv 3)) fx_int) (fx_look (pv 1)))))))))))
theorem ok__law_seven (S : Sy fb fn lf K mg base) : FnG P w K mg base (L2.CX P w) 2 (He.ga K "_law_seven") (spF (Cc K) N__law_seven 1 b__law_seven) := by
  obtain ⟨fd, Fd⟩ : ∃ fd : FuncData, FunD K "_law_seven" "_law_seven" (defArgs s__law_seven) (defBody s__law_seven) (defScope s__law_seven) [] [] (He.ga K "_law_seven") fd := S.def_ 3 rfl
  exact fnP_ok (ps := ["_law_pen_here"]) Fd sc__law_seven (Fd.bindsN fun _ _ _ _ _ _ us hl => match us, hl with | [_], _ => rfl) (fun cdv A outer s H E hr => (fss_one (fs_ret (fx_new (fn_lc rfl sc__law_seven.nd (fi_rng1 (by rfl) (S.free 2) (fa_val fx_int fa_nil)) (blkOk_by (own := [("_law_at", 1)]) (by rfl)) (fun _ _ _ _ _ => (fg_name sc__law_seven.nd rfl (by first | exact Or.inl rfl | exact Or.inr rfl))) (fun _ _ _ _ _ => fts_nil) (fun _ _ _ _ _ => (fx_tup (fa_val (fx_add fx_int (fx_mod (fx_add (fx_mulT fx_int (fx_look (pv 1))) (fx_def (k := 1) (f := (He.ga K "_law_draw")) (N := N__law_draw) (b := b__law_draw) (ok__law_draw pk S) (hr.mono (by decide)) rfl (S.glo 3) (kp_of (S.def_ 2 rfl)) takes0 (fa_var (pv 0) (fa_val fx_int fa_nil)) (an_var (an_val an_nil)))) fx_int)) (fa_val (fx_add fx_int (fx_look (pv 1))) fa_nil)))))))))
theorem ok__law_odds (S : Sy fb fn lf K mg base) : FnG P w K mg base (L2.CX P w) 1 (He.ga K "_law_odds") (spF (Cc K) N__law_odds 0 b__law_odds) := by
  obtain ⟨fd, Fd⟩ : ∃ fd : FuncData, FunD K "_law_odds" "_law_odds" (defArgs s__law_odds) (defBody s__law_odds) (defScope s__law_odds) [] [] (He.ga K "_law_odds") fd := S.def_ 4 rfl
  exact fnP_ok (ps := []) Fd sc__law_odds (Fd.bindsN fun _ _ _ _ _ _ us hl => match us, hl with | [], _ => rfl) (fun cdv A outer s H E hr => (fss_cons (fs_setNew sc__law_odds.nd rfl (by first | exact Or.inl rfl | exact Or.inr rfl) (fn_lst (fa_val fx_non (fa_val fx_bl (fa_val fx_bl (fa_val fx_int (fa_val fx_int (fa_val (fx_neg fx_int) (fa_val fx_int (fa_val (fx_sub (fx_pow fx_int fx_int) fx_int) (fa_val fx_str (fa_val fx_str (fa_val fx_str (fa_val (fx_tup fa_nil) (fa_val (fx_new (fn_lst fa_nil)) (fa_val fx_dct0 (fa_val (fx_tup (fa_val fx_int fa_nil)) (fa_val (fx_new (fn_lst (fa_val fx_int fa_nil))) (fa_val (fx_tup (fa_val fx_int (fa_val fx_int (fa_val fx_int fa_nil)))) fa_nil))))))))))))))))))) (fss_freeze (i := 0) (fss_cons (fs_set sc__law_odds.nd rfl (by first | exact Or.inl rfl | exact Or.inr rfl) (fx_add (fx_look (pv 0)) (fx_new (fn_lst (fa_val (fx_tup (fa_val fx_int (fa_val fx_int fa_nil))) (fa_val (fx_tup (fa_val fx_int (fa_val fx_int fa_nil))) (fa_val (fx_tup (fa_val fx_int (fa_val fx_int fa_nil))) (fa_val (fx_tup (fa_val fx_int (fa_val fx_int fa_nil))) (fa_val (fx_tup (fa_val fx_int (fa_val fx_int fa_nil))) (fa_val (fx_tup (fa_val fx_int (fa_val fx_int fa_nil))) (fa_val (fx_tup (fa_val fx_bl (fa_val fx_int fa_nil))) (fa_val (fx_tup (fa_val fx_int (fa_val fx_bl fa_nil))) (fa_val (fx_tup (fa_val fx_str (fa_val fx_int fa_nil))) (fa_val (fx_tup (fa_val fx_non (fa_val fx_int fa_nil))) fa_nil)))))))))))))) (fss_cons (fs_set sc__law_odds.nd rfl (by first | exact Or.inl rfl | exact Or.inr rfl) (fx_add (fx_look (pv 0)) (fx_new (fn_lst (fa_val (fx_new (fn_lst (fa_val fx_int (fa_val fx_int fa_nil)))) (fa_val (fx_tup (fa_val (fx_tup (fa_val fx_int (fa_val fx_int fa_nil))) fa_nil)) (fa_val (fx_tup (fa_val (fx_neg fx_int) (fa_val fx_int fa_nil))) (fa_val (fx_dct1 (k := (.inl 1)) pe_int fx_int noEx_f0) (fa_val (fx_tup (fa_val (fx_tup (fa_val fx_int fa_nil)) (fa_val fx_int fa_nil))) (fa_val (fx_tup (fa_val (fx_sub (fx_pow fx_int fx_int) fx_int) (fa_val fx_int fa_nil))) (fa_val (fx_new (fn_lst (fa_val (fx_tup (fa_val fx_int (fa_val fx_int fa_nil))) fa_nil))) (fa_val fx_str fa_nil)))))))))))) (fss_one (fs_ret (fx_add (fx_look (pv 0)) (fx_new (fn_lst (fa_val (fx_tup (fa_val fx_bl (fa_val fx_bl fa_nil))) (fa_val (fx_tup (fa_val fx_int (fa_val (fx_tup (fa_val fx_int fa_nil)) fa_nil))) (fa_val (fx_tup (fa_val fx_int (fa_val fx_int fa_nil))) fa_nil)))))))))))))
theorem ok_is_integer (S : Sy fb fn lf K mg base) : FnG P w K mg base (L2.CX P w) 1 (He.ga K "is_integer") (spF (Cc K) N_is_integer 1 b_is_integer) := by
  obtain ⟨fd, Fd⟩ : ∃ fd : FuncData, FunD K "is_integer" "is_integer" (defArgs s_is_integer) (defBody s_is_integer) (defScope s_is_integer) [] [] (He.ga K "is_integer") fd := S.def_ 5 rfl
  exact fnP_ok (ps := ["thing"]) Fd sc_is_integer (Fd.bindsN fun _ _ _ _ _ _ us hl => match us, hl with | [_], _ => rfl) (fun cdv A outer s H E hr => (fss_one (fs_ret (fx_and (fx_isiA (pe_bltn (v := .ty "int") (u := .type "int") rfl (S.free 8) rfl rfl) (ClsV.ty "int") (fun _ _ => isiBd_ok) (noC_ok (cl := (Cc K).cl) (T := "int") (cs := [0, 1]) (by decide) (all2 ⟨S.isi 4, S.bool (f := fun K => kitTB K (He.ga K "Limits")) 5⟩ ⟨S.isi 6, S.bool (f := fun K => kitTB K (He.ga K "Gate")) 7⟩)) (fx_look (pv 0)) (S.free 9) rfl) (fx_one (fx_not (fx_isiA (pe_bltn (v := .ty "bool") (u := .type "bool") rfl (S.free 10) rfl rfl) (ClsV.ty "bool") (fun _ _ => isiBd_ok) (noC_ok (cl := (Cc K).cl) (T := "bool") (cs := [0, 1]) (by decide) (all2 ⟨S.isi 4, S.bool (f := fun K => kitTB K (He.ga K "Limits")) 5⟩ ⟨S.isi 6, S.bool (f := fun K => kitTB K (He.ga K "Gate")) 7⟩)) (fx_look (pv 0)) (S.free 9) rfl)))))))
theorem ok_is_between (S : Sy fb fn lf K mg base) : FnG P w K mg base (L2.CX P w) 2 (He.ga K "is_between") (spF (Cc K) N_is_between 3 b_is_between) := by
  obtain ⟨fd, Fd⟩ : ∃ fd : FuncData, FunD K "is_between" "is_between" (defArgs s_is_between) (defBody s_is_between) (defScope s_is_between) [] [] (He.ga K "is_between") fd := S.def_ 6 rfl
  exact fnP_ok (ps := ["thing", "least", "most"]) Fd sc_is_between (Fd.bindsN fun _ _ _ _ _ _ us hl => match us, hl with | [_, _, _], _ => rfl) (fun cdv A outer s H E hr => (fss_one (fs_ret (fx_and (fx_def (k := 1) (f := (He.ga K "is_integer")) (N := N_is_integer) (b := b_is_integer) (ok_is_integer pk S) (hr.mono (by decide)) rfl (S.glo 11) (kp_of (S.def_ 5 rfl)) take_bcx (fa_var (pv 0) fa_nil) (an_var an_nil)) (fx_one (fx_chain op_le op_le op2_le op2_le (fx_look (pv 1)) (fx_look (pv 0)) (fx_look (pv 2)) (by rfl)))))))
theorem ok_is_pair (S : Sy fb fn lf K mg base) : FnG P w K mg base (L2.CX P w) 3 (He.ga K "is_pair") (spF (Cc K) N_is_pair 1 b_is_pair) := by
  obtain ⟨fd, Fd⟩ : ∃ fd : FuncData, FunD K "is_pair" "is_pair" (defArgs s_is_pair) (defBody s_is_pair) (defScope s_is_pair) [] [] (He.ga K "is_pair") fd := S.def_ 7 rfl
  exact fnP_ok (ps := ["thing"]) Fd sc_is_pair (Fd.bindsN fun _ _ _ _ _ _ us hl => match us, hl with | [_], _ => rfl) (fun cdv A outer s H E hr => (fss_cons (fs_if (ft_w (fw_or (ft_not (ft_truth (fx_isiA (pe_bltn (v := .ty "tuple") (u := .type "tuple") rfl (S.free 12) rfl rfl) (ClsV.ty "tuple") (fun _ _ => isiBd_ok) (noC_ok (cl := (Cc K).cl) (T := "tuple") (cs := [0, 1]) (by decide) (all2 ⟨S.isi 4, S.bool (f := fun K => kitTB K (He.ga K "Limits")) 5⟩ ⟨S.isi 6, S.bool (f := fun K => kitTB K (He.ga K "Gate")) 7⟩)) (fx_look (pv 0)) (S.free 9) rfl))) (fw_or1 (ft_ne (u64 hr) (fx_len (fx_look (pv 0)) (S.free 1) rfl) fx_int)))) (fss_one (fs_ret fx_bl)) fss_nil) (fss_one (fs_ret (fx_and (fx_def (k := 2) (f := (He.ga K "is_between")) (N := N_is_between) (b := b_is_between) (ok_is_between pk S) (hr.mono (by decide)) rfl (S.glo 14) (kp_of (S.def_ 6 rfl)) take_bcx (fa_val (fx_ix (fx_look (pv 0)) fx_int) (fa_val fx_int (fa_val (fx_gint (S.int 13) rfl) fa_nil))) (an_val (an_val (an_val an_nil)))) (fx_one (fx_def (k := 2) (f := (He.ga K "is_between")) (N := N_is_between) (b := b_is_between) (ok_is_between pk S) (hr.mono (by decide)) rfl (S.glo 14) (kp_of (S.def_ 6 rfl)) take_bcx (fa_val (fx_ix (fx_look (pv 0)) fx_int) (fa_val fx_int (fa_val (fx_gint (S.int 15) rfl) fa_nil))) (an_val (an_val (an_val an_nil))))))))))
theorem ok_are_pairs (S : Sy fb fn lf K mg base) : FnG P w K mg base (L2.CX P w) 4 (He.ga K "are_pairs") (spF (Cc K) N_are_pairs 1 b_are_pairs) := by
  obtain ⟨fd, Fd⟩ : ∃ fd : FuncData, FunD K "are_pairs" "are_pairs" (defArgs s_are_pairs) (defBody s_are_pairs) (defScope s_are_pairs) [] [] (He.ga K "are_pairs") fd := S.def_ 8 rfl
  exact fnP_ok (ps := ["things"]) Fd sc_are_pairs (Fd.bindsN fun _ _ _ _ _ _ us hl => match us, hl with | [_], _ => rfl) (fun cdv A outer s H E hr => (fss_one (fs_ret (fx_and (fx_gt (fx_len (fx_look (pv 0)) (S.free 1) rfl) fx_int) (fx_and (fx_all rfl (fx_new (fn_lc rfl sc_are_pairs.nd (fi_seq (fx_var (pv 0))) (blkOk_by (own := [("thing", 1)]) (by rfl)) (fun _ _ _ _ _ => (fg_name sc_are_pairs.nd rfl (by first | exact Or.inl rfl | exact Or.inr rfl))) (fun _ _ _ _ _ => fts_nil) (fun _ _ _ _ _ => (fx_def (k := 3) (f := (He.ga K "is_pair")) (N := N_is_pair) (b := b_is_pair) (ok_is_pair pk S) (hr.mono (by decide)) rfl (S.glo 16) (kp_of (S.def_ 7 rfl)) takes0 (fa_var (pv 1) fa_nil) (an_var an_nil))))) (S.free 17) rfl) (fx_one (fx_eq (u64 hr) (fx_lenSet rfl (u64 hr) rfl (S.free 1) rfl (S.free 18) (fx_look (pv 0))) (fx_len (fx_look (pv 0)) (S.free 1) rfl))))))))
theorem ok_Limits___init__ (S : Sy fb fn lf K mg base) : FnG P w K mg base (L2.CX P w) 5 (He.ma K (He.ga K "Limits") "__init__") (spStar (Cc K) N_Limits___init__ b_Limits___init__) := by
  obtain ⟨fd, Fd⟩ : ∃ fd : FuncData, FunD K "__init__" "Limits.__init__" (defArgs s_Limits___init__) (defBody s_Limits___init__) (defScope s_Limits___init__) [] [] (He.ma K (He.ga K "Limits") "__init__") fd := S.def_ 9 rfl
  exact starF_ok Fd sc_Limits___init__ (fun kV doc pm an cdv ct => StX.bind_star1 (B := fun us => bindArgs (PySem.W.fnOf "__init__" "Limits.__init__" (defArgs s_Limits___init__) (defBody s_Limits___init__) (defScope s_Limits___init__) .none kV doc pm an cdv ct) ⟨us, []⟩) (p1 := "self") (pv := "pairs") (fun _ => rfl) (fun _ _ _ => rfl)) (fun cdv A outer s H E hr => (fss_cons (fs_if (ft_not (ft_truth (fx_def (k := 4) (f := (He.ga K "are_pairs")) (N := N_are_pairs) (b := b_are_pairs) (ok_are_pairs pk S) (hr.mono (by decide)) rfl (S.glo 19) (kp_of (S.def_ 8 rfl)) take_bcx (fa_var (pv 1) fa_nil) (an_var an_nil)))) (fss_one (fs_raise (c := 0) (S.bool (f := fun K => rsB K (He.ga K "NoLimit")) 20) (S.glo 21) rfl rfl take_bcx)) fss_nil) (fss_cons (fs_if (ft_gt (fx_len (fx_look (pv 1)) (S.free 1) rfl) (fx_gint (S.int 22) rfl)) (fss_one (fs_raiseT (c := 10) (kk := 0) (tooMany pk S) (by decide) (by decide) (by decide) rfl rfl rfl (hr.mono (by decide)) (S.free 23) rfl (S.glo 24) (fx_len (fx_look (pv 1)) (S.free 1) rfl) (fx_gint (S.int 22) rfl) rfl take_bcx)) fss_nil) (fss_one (fs_setF (cs := [0]) (fun c h => by cases h with | head => exact ⟨(S.cls 25), (S.noat 26)⟩ | tail _ h => cases h) (pv 0) (fx_var (pv 1)))))))
theorem ok_number_in (S : Sy fb fn lf K mg base) : FnG P w K mg base (L2.CX P w) 1 (He.ga K "number_in") (spF (Cc K) N_number_in 1 b_number_in) := by
  obtain ⟨fd, Fd⟩ : ∃ fd : FuncData, FunD K "number_in" "number_in" (defArgs s_number_in) (defBody s_number_in) (defScope s_number_in) [] [] (He.ga K "number_in") fd := S.def_ 10 rfl
  exact fnP_ok (ps := ["word"]) Fd sc_number_in (Fd.bindsN fun _ _ _ _ _ _ us hl => match us, hl with | [_], _ => rfl) (fun cdv A outer s H E hr => (fss_cons (fs_if (ft_w (fw_or (ft_not (ft_chain op_le op_le op2_le op2_le fx_int (fx_len (fx_look (pv 0)) (S.free 1) rfl) fx_int (by rfl))) (fw_or (ft_not (ft_truth (fx_all rfl (fx_new (fn_lc rfl sc_number_in.nd (fi_str (fx_var (pv 0))) (blkOk_by (own := [("sign", 1)]) (by rfl)) (fun _ _ _ _ _ => (fg_name sc_number_in.nd rfl (by first | exact Or.inl rfl | exact Or.inr rfl))) (fun _ _ _ _ _ => fts_nil) (fun _ _ _ _ _ => (fx_in (u65 hr) (fx_look (pv 1)) (fx_gstr (S.str 27) rfl))))) (S.free 17) rfl))) (fw_or1 (ft_eq (u64 hr) (fx_ix (fx_look (pv 0)) fx_int) fx_str))))) (fss_one (fs_ret fx_int)) fss_nil) (fss_one (fs_ret (fx_intS (fx_var (pv 0)) (S.free 8) rfl)))))
theorem ok_pair_in (S : Sy fb fn lf K mg base) : FnG P w K mg base (L2.CX P w) 2 (He.ga K "pair_in") (spF (Cc K) N_pair_in 1 b_pair_in) := by
  obtain ⟨fd, Fd⟩ : ∃ fd : FuncData, FunD K "pair_in" "pair_in" (defArgs s_pair_in) (defBody s_pair_in) (defScope s_pair_in) [] [] (He.ga K "pair_in") fd := S.def_ 11 rfl
  exact fnP_ok (ps := ["line"]) Fd sc_pair_in (Fd.bindsN fun _ _ _ _ _ _ us hl => match us, hl with | [_], _ => rfl) (fun cdv A outer s H E hr => (fss_cons (fs_if (ft_not (ft_truth (fx_startswith (fx_look (pv 0)) (fx_gstr (S.str 28) rfl)))) (fss_one (fs_ret (fx_tup fa_nil))) fss_nil) (fss_one (fs_mt rfl (fx_new (fn_split (fx_slL (fx_look (pv 0)) (fx_len (fx_gstr (S.str 28) rfl) (S.free 1) rfl)) fx_str)) (fss_one (fs_ret (fx_tup (fa_val (fx_def (k := 1) (f := (He.ga K "number_in")) (N := N_number_in) (b := b_number_in) (ok_number_in pk S) (hr.mono (by decide)) rfl (S.glo 29) (kp_of (S.def_ 10 rfl)) take_bcx (fa_var (pv 2) fa_nil) (an_var an_nil)) (fa_val (fx_def (k := 1) (f := (He.ga K "number_in")) (N := N_number_in) (b := b_number_in) (ok_number_in pk S) (hr.mono (by decide)) rfl (S.glo 29) (kp_of (S.def_ 10 rfl)) take_bcx (fa_var (pv 1) fa_nil) (an_var an_nil)) fa_nil))))) (fss_one (fs_ret (fx_tup fa_nil))) sc_pair_in.nd rfl (by first | exact Or.inl rfl | exact Or.inr rfl) rfl (by first | exact Or.inl rfl | exact Or.inr rfl)))))
theorem ok_Limits_read (S : Sy fb fn lf K mg base) : FnG P w K mg base (L2.CX P w) 7 (He5.wf K (He.ga K "Limits") "classmethod" "read") (spF (Cc K) N_Limits_read 2 b_Limits_read) := by
  obtain ⟨fd, Fd⟩ : ∃ fd : FuncData, FunD K "read" "Limits.read" (defArgs s_Limits_read) (defBody s_Limits_read) (defScope s_Limits_read) [] [] (He5.wf K (He.ga K "Limits") "classmethod" "read") fd := S.def_ 12 rfl
  exact fnP_ok (ps := ["cls", "text"]) Fd sc_Limits_read (Fd.bindsN fun _ _ _ _ _ _ us hl => match us, hl with | [_, _], _ => rfl) (fun cdv A outer s H E hr => (fss_cons (fs_if (ft_w (fw_or (ft_not (ft_truth (fx_isi (pe_bltn (v := .ty "str") (u := .type "str") rfl (S.free 30) rfl rfl) (ClsV.ty "str") (fun _ _ => isiB_ok) (fun _ _ h => nomatch h) (fx_look (pv 1)) (S.free 9) rfl))) (fw_or1 (ft_not (ft_truth (fx_endswith (fx_look (pv 1)) fx_str)))))) (fss_one (fs_raise (c := 8) (S.bool (f := fun K => rsB K (He.ga K "NoText")) 31) (S.glo 32) rfl rfl take_bcx)) fss_nil) (fss_cons (fs_setLc rfl sc_Limits_read.nd rfl rfl (sw_true rfl rfl rfl rfl) (fi_seq (fx_new (fn_split (fx_slH (fx_look (pv 1)) (fx_neg fx_int)) fx_str))) (blkOk_by (own := [("line", 3)]) (by rfl)) (fun _ _ _ _ _ => (fg_name sc_Limits_read.nd rfl (by first | exact Or.inl rfl | exact Or.inr rfl))) (fun _ _ _ _ _ => fts_nil) (fun _ _ _ _ _ => (fx_def (k := 2) (f := (He.ga K "pair_in")) (N := N_pair_in) (b := b_pair_in) (ok_pair_in pk S) (hr.mono (by decide)) rfl (S.glo 33) (kp_of (S.def_ 11 rfl)) takes0 (fa_var (pv 3) fa_nil) (an_var an_nil)))) (fss_freeze (i := 2) (fss_cons (fs_if (ft_w (fw_or (ft_not (ft_truth (fx_def (k := 4) (f := (He.ga K "are_pairs")) (N := N_are_pairs) (b := b_are_pairs) (ok_are_pairs pk S) (hr.mono (by decide)) rfl (S.glo 19) (kp_of (S.def_ 8 rfl)) take_bcx (fa_var (pv 2) fa_nil) (an_var an_nil)))) (fw_or1 (ft_gt (fx_len (fx_look (pv 2)) (S.free 1) rfl) (fx_gint (S.int 22) rfl))))) (fss_one (fs_raise (c := 8) (S.bool (f := fun K => rsB K (He.ga K "NoText")) 31) (S.glo 32) rfl rfl take_bcx)) fss_nil) (fss_one (fs_ret (fx_new (fn_makeLStar (c := 0) (k := 5) (f := (He.ma K (He.ga K "Limits") "__init__")) (N := N_Limits___init__) (b := b_Limits___init__) (pv 0) (S.mkr 34) (ok_Limits___init__ pk S) (hr.mono (by decide)) take_bcx (fx_look (pv 2)) rfl)))))))))
theorem ok__law_text (S : Sy fb fn lf K mg base) : FnG P w K mg base (L2.CX P w) 1 (He.ga K "_law_text") (spF (Cc K) N__law_text 1 b__law_text) := by
  obtain ⟨fd, Fd⟩ : ∃ fd : FuncData, FunD K "_law_text" "_law_text" (defArgs s__law_text) (defBody s__law_text) (defScope s__law_text) [] [] (He.ga K "_law_text") fd := S.def_ 13 rfl
  exact fnP_ok (ps := ["_law_pairs_here"]) Fd sc__law_text (Fd.bindsN fun _ _ _ _ _ _ us hl => match us, hl with | [_], _ => rfl) (fun cdv A outer s H E hr => (fss_one (fs_ret (fx_join fx_str (fx_new (fn_lc rfl sc__law_text.nd (fi_seq (fx_var (pv 0))) (blkOk_by (own := [("_law_size", 1), ("_law_number", 2)]) (by rfl)) (fun _ _ _ _ _ => (fg_tup rfl (fgs_cons (fg_name sc__law_text.nd rfl (by first | exact Or.inl rfl | exact Or.inr rfl)) (fgs_cons (fg_name sc__law_text.nd rfl (by first | exact Or.inl rfl | exact Or.inr rfl)) fgs_nil)))) (fun _ _ _ _ _ => fts_nil) (fun _ _ _ _ _ => (fx_add (fx_add (fx_add (fx_add fx_str (fx_strI (fx_var (pv 2)) (S.free 30) rfl)) fx_str) (fx_strI (fx_var (pv 1)) (S.free 30) rfl)) fx_str))))))))
theorem ok__law_made (S : Sy fb fn lf K mg base) : FnG P w K mg base (L2.CX P w) 8 (He.ga K "_law_made") (spF (Cc K) N__law_made 1 b__law_made) := by
  obtain ⟨fd, Fd⟩ : ∃ fd : FuncData, FunD K "_law_made" "_law_made" (defArgs s__law_made) (defBody s__law_made) (defScope s__law_made) [] [] (He.ga K "_law_made") fd := S.def_ 14 rfl
  exact fnP_ok (ps := ["_law_pairs_here"]) Fd sc__law_made (Fd.bindsN fun _ _ _ _ _ _ us hl => match us, hl with | [_], _ => rfl) (fun cdv A outer s H E hr => (fss_one (fs_ret (fx_cmeth (c := 0) (k := 7) (g := (He5.wf K (He.ga K "Limits") "classmethod" "read")) (N := N_Limits_read) (b := b_Limits_read) (S.glo 38) rfl (cread_of (S.bool 36)) (cmet_of (S.bool 37)) (ok_Limits_read pk S) (hr.mono (by decide)) take_bcx (fa_val (fx_def (k := 1) (f := (He.ga K "_law_text")) (N := N__law_text) (b := b__law_text) (ok__law_text pk S) (hr.mono (by decide)) rfl (S.glo 35) (kp_of (S.def_ 13 rfl)) take_bcx (fa_var (pv 0) fa_nil) (an_var an_nil)) fa_nil) (an_val an_nil)))))
theorem ok_need_limits (S : Sy fb fn lf K mg base) : FnG P w K mg base (L2.CX P w) 1 (He.ga K "need_limits") (spF (Cc K) N_need_limits 1 b_need_limits) := by
  obtain ⟨fd, Fd⟩ : ∃ fd : FuncData, FunD K "need_limits" "need_limits" (defArgs s_need_limits) (defBody s_need_limits) (defScope s_need_limits) [] [] (He.ga K "need_limits") fd := S.def_ 15 rfl
  exact fnP_ok (ps := ["thing"]) Fd sc_need_limits (Fd.bindsN fun _ _ _ _ _ _ us hl => match us, hl with | [_], _ => rfl) (fun cdv A outer s H E hr => (fss_one (fs_if (ft_not (ft_truth (fx_isi (pe_glob (v := .ref (He.ga K "Limits")) rfl (S.glo 38) rfl) (ClsV.own _) (isiCb_ok (S.bool (f := fun K => isiN (He.ga K "Limits") K) 39)) (isiC1_ok ⟨S.isi 4, S.kit 40⟩) (fx_look (pv 0)) (S.free 9) rfl))) (fss_one (fs_raise (c := 1) (S.bool (f := fun K => rsB K (He.ga K "NoLimits")) 41) (S.glo 42) rfl rfl take_bcx)) fss_nil)))
theorem ok_Gate___init__ (S : Sy fb fn lf K mg base) : FnG P w K mg base (L2.CX P w) 2 (He.ma K (He.ga K "Gate") "__init__") (spF (Cc K) N_Gate___init__ 2 b_Gate___init__) := by
  obtain ⟨fd, Fd⟩ : ∃ fd : FuncData, FunD K "__init__" "Gate.__init__" (defArgs s_Gate___init__) (defBody s_Gate___init__) (defScope s_Gate___init__) [] [] (He.ma K (He.ga K "Gate") "__init__") fd := S.def_ 16 rfl
  exact fnP_ok (ps := ["self", "limits"]) Fd sc_Gate___init__ (Fd.bindsN fun _ _ _ _ _ _ us hl => match us, hl with | [_, _], _ => rfl) (fun cdv A outer s H E hr => (fss_cons (fs_expr (fx_def (k := 1) (f := (He.ga K "need_limits")) (N := N_need_limits) (b := b_need_limits) (ok_need_limits pk S) (hr.mono (by decide)) rfl (S.glo 43) (kp_of (S.def_ 15 rfl)) take_bcx (fa_var (pv 1) fa_nil) (an_var an_nil))) (fss_one (fs_asgF (cs := [1]) rfl (fun c h => by cases h with | head => exact ⟨(S.cls 44), (S.noat 45)⟩ | tail _ h => cases h) (fun c h => by cases h with | head => exact ⟨(S.cls 44), (S.noat 46)⟩ | tail _ h => cases h) (pv 0) (pv 0) (fx_tup (fa_var (pv 1) (fa_val (fx_tup (fa_val (fx_tup (fa_val (fx_tup fa_nil) (fa_val (fx_tup fa_nil) fa_nil))) fa_nil)) fa_nil)))))))
theorem ok_Limits_pairs (S : Sy fb fn lf K mg base) : FnG P w K mg base (L2.CX P w) 1 (prG K (He.ga K "Limits") "pairs") (spF (Cc K) N_Limits_pairs 1 b_Limits_pairs) := by
  obtain ⟨fd, Fd⟩ : ∃ fd : FuncData, FunD K "pairs" "Limits.pairs" (defArgs s_Limits_pairs) (defBody s_Limits_pairs) (defScope s_Limits_pairs) [] [] (prG K (He.ga K "Limits") "pairs") fd := S.def_ 17 rfl
  exact fnP_ok (ps := ["self"]) Fd sc_Limits_pairs (Fd.bindsN fun _ _ _ _ _ _ us hl => match us, hl with | [_], _ => rfl) (fun cdv A outer s H E hr => (fss_one (fs_ret (fx_fld (cs := [0]) (fun c h => by cases h with | head => exact ⟨(S.cls 25), (S.noat 26)⟩ | tail _ h => cases h) (fx_look (pv 0))))))
theorem ok__law_objects (S : Sy fb fn lf K mg base) : FnG P w K mg base (L2.CX P w) 9 (He.ga K "_law_objects") (spF (Cc K) N__law_objects 0 b__law_objects) := by
  obtain ⟨fd, Fd⟩ : ∃ fd : FuncData, FunD K "_law_objects" "_law_objects" (defArgs s__law_objects) (defBody s__law_objects) (defScope s__law_objects) [] [] (He.ga K "_law_objects") fd := S.def_ 18 rfl
  exact fnP_ok (ps := []) Fd sc__law_objects (Fd.bindsN fun _ _ _ _ _ _ us hl => match us, hl with | [], _ => rfl) (fun cdv A outer s H E hr => (fss_cons (fs_set sc__law_objects.nd rfl (by first | exact Or.inl rfl | exact Or.inr rfl) (fx_def (k := 8) (f := (He.ga K "_law_made")) (N := N__law_made) (b := b__law_made) (ok__law_made pk S) (hr.mono (by decide)) rfl (S.glo 47) (kp_of (S.def_ 14 rfl)) take_bcx (fa_val (fx_tup (fa_val (fx_tup (fa_val fx_int (fa_val fx_int fa_nil))) (fa_val (fx_tup (fa_val fx_int (fa_val fx_int fa_nil))) fa_nil))) fa_nil) (an_val an_nil))) (fss_one (fs_ret (fx_new (fn_lst (fa_var (pv 0) (fa_val (fx_tup (fa_var (pv 0) fa_nil)) (fa_val (fx_new (fn_lst (fa_var (pv 0) fa_nil))) (fa_val (fx_tup (fa_var (pv 0) (fa_val fx_int fa_nil))) (fa_val (fx_dct1 (k := (.inr "a")) pe_str (fx_var (pv 0)) noEx_var) (fa_val (fx_new (fn_make (c := 1) (k := 2) (f := (He.ma K (He.ga K "Gate") "__init__")) (N := N_Gate___init__) (b := b_Gate___init__) (S.mkr 49) (ok_Gate___init__ pk S) (hr.mono (by decide)) rfl (S.glo 50) take_bcx (fa_var (pv 0) fa_nil) (an_var an_nil))) (fa_val (fx_tup (fa_val fx_int (fa_val (fx_new (fn_make (c := 1) (k := 2) (f := (He.ma K (He.ga K "Gate") "__init__")) (N := N_Gate___init__) (b := b_Gate___init__) (S.mkr 49) (ok_Gate___init__ pk S) (hr.mono (by decide)) rfl (S.glo 50) take_bcx (fa_var (pv 0) fa_nil) (an_var an_nil))) fa_nil))) (fa_val (fx_prop (c := 0) (k := 1) (g := (prG K (He.ga K "Limits") "pairs")) (N := N_Limits_pairs) (b := b_Limits_pairs) (fv_var (pv 0)) (S.cls 25) (S.prop 48) (ok_Limits_pairs pk S) (hr.mono (by decide))) fa_nil))))))))))))))
theorem ok__law_pick (S : Sy fb fn lf K mg base) : FnG P w K mg base (L2.CX P w) 2 (He.ga K "_law_pick") (spF (Cc K) N__law_pick 2 b__law_pick) := by
  obtain ⟨fd, Fd⟩ : ∃ fd : FuncData, FunD K "_law_pick" "_law_pick" (defArgs s__law_pick) (defBody s__law_pick) (defScope s__law_pick) [] [] (He.ga K "_law_pick") fd := S.def_ 19 rfl
  exact fnP_ok (ps := ["_law_pen_here", "_law_some"]) Fd sc__law_pick (Fd.bindsN fun _ _ _ _ _ _ us hl => match us, hl with | [_, _], _ => rfl) (fun cdv A outer s H E hr => (fss_one (fs_ret (fx_ix (fx_var (pv 1)) (fx_def (k := 1) (f := (He.ga K "_law_draw")) (N := N__law_draw) (b := b__law_draw) (ok__law_draw pk S) (hr.mono (by decide)) rfl (S.glo 3) (kp_of (S.def_ 2 rfl)) take_bcx (fa_var (pv 0) (fa_val (fx_len (fx_look (pv 1)) (S.free 1) rfl) fa_nil)) (an_var (an_val an_nil)))))))
theorem ok__law_pairs (S : Sy fb fn lf K mg base) : FnG P w K mg base (L2.CX P w) 3 (He.ga K "_law_pairs") (spF (Cc K) N__law_pairs 2 b__law_pairs) := by
  obtain ⟨fd, Fd⟩ : ∃ fd : FuncData, FunD K "_law_pairs" "_law_pairs" (defArgs s__law_pairs) (defBody s__law_pairs) (defScope s__law_pairs) [] [] (He.ga K "_law_pairs") fd := S.def_ 20 rfl
  exact fnP_ok (ps := ["_law_pen_here", "_law_many"]) Fd sc__law_pairs (Fd.bindsN fun _ _ _ _ _ _ us hl => match us, hl with | [_, _], _ => rfl) (fun cdv A outer s H E hr => (fss_cons (fs_par rfl sc__law_pairs.nd rfl rfl (by decide) rfl rfl (fa_val (fx_def (k := 2) (f := (He.ga K "_law_pick")) (N := N__law_pick) (b := b__law_pick) (ok__law_pick pk S) (hr.mono (by decide)) rfl (S.glo 51) (kp_of (S.def_ 19 rfl)) take_bcx (fa_var (pv 0) (fa_val (fx_new (fn_lst (fa_val fx_int (fa_val fx_int (fa_val fx_int (fa_val fx_int fa_nil)))))) fa_nil)) (an_var (an_val an_nil))) (fa_new (fn_lst fa_nil) fa_nil)) (by rfl)) (fss_cons (fs_for pass_bcx rfl (fi_rng1 rfl (S.free 2) (fa_val (fx_add fx_int (fx_def (k := 1) (f := (He.ga K "_law_draw")) (N := N__law_draw) (b := b__law_draw) (ok__law_draw pk S) (hr.mono (by decide)) rfl (S.glo 3) (kp_of (S.def_ 2 rfl)) take_bcx (fa_var (pv 0) (fa_var (pv 1) fa_nil)) (an_var (an_var an_nil)))) fa_nil)) (fg_name sc__law_pairs.nd rfl (by first | exact Or.inl rfl | exact Or.inr rfl)) (fss_cons (fs_set sc__law_pairs.nd rfl (by first | exact Or.inl rfl | exact Or.inr rfl) (fx_tup (fa_val (fx_add fx_int (fx_def (k := 1) (f := (He.ga K "_law_draw")) (N := N__law_draw) (b := b__law_draw) (ok__law_draw pk S) (hr.mono (by decide)) rfl (S.glo 3) (kp_of (S.def_ 2 rfl)) take_bcx (fa_var (pv 0) (fa_var (pv 2) fa_nil)) (an_var (an_var an_nil)))) (fa_val (fx_add fx_int (fx_def (k := 1) (f := (He.ga K "_law_draw")) (N := N__law_draw) (b := b__law_draw) (ok__law_draw pk S) (hr.mono (by decide)) rfl (S.glo 3) (kp_of (S.def_ 2 rfl)) take_bcx (fa_var (pv 0) (fa_var (pv 2) fa_nil)) (an_var (an_var an_nil)))) fa_nil)))) (fss_one (fs_if (ft_notIn (u65 hr) (fx_look (pv 5)) (fx_look (pv 3))) (fss_one (fs_expr (fx_append mt_append (pv 3) (fx_var (pv 5))))) fss_nil)))) (fss_freeze (i := 3) (fss_one (fs_ret (fx_tuple (fx_look (pv 3)) (S.free 12) rfl)))))))
theorem ok__law_is_limit (S : Sy fb fn lf K mg base) : FnG P w K mg base (L2.CX P w) 1 (He.ga K "_law_is_limit") (spF (Cc K) N__law_is_limit 1 b__law_is_limit) := by
  obtain ⟨fd, Fd⟩ : ∃ fd : FuncData, FunD K "_law_is_limit" "_law_is_limit" (defArgs s__law_is_limit) (defBody s__law_is_limit) (defScope s__law_is_limit) [] [] (He.ga K "_law_is_limit") fd := S.def_ 21 rfl
  exact fnP_ok (ps := ["_law_thing"]) Fd sc__law_is_limit (Fd.bindsN fun _ _ _ _ _ _ us hl => match us, hl with | [_], _ => rfl) (fun cdv A outer s H E hr => (fss_cons (fs_if (ft_w (fw_or (ft_not (ft_truth (fx_isiA (pe_bltn (v := .ty "tuple") (u := .type "tuple") rfl (S.free 12) rfl rfl) (ClsV.ty "tuple") (fun _ _ => isiBd_ok) (noC_ok (cl := (Cc K).cl) (T := "tuple") (cs := [0, 1]) (by decide) (all2 ⟨S.isi 4, S.bool (f := fun K => kitTB K (He.ga K "Limits")) 5⟩ ⟨S.isi 6, S.bool (f := fun K => kitTB K (He.ga K "Gate")) 7⟩)) (fx_look (pv 0)) (S.free 9) rfl))) (fw_or1 (ft_ne (u64 hr) (fx_len (fx_look (pv 0)) (S.free 1) rfl) fx_int)))) (fss_one (fs_ret fx_bl)) fss_nil) (fss_one (fs_ret (fx_eq (u64 hr) (fx_new (fn_lc rfl sc__law_is_limit.nd (fi_seq (fx_var (pv 0))) (blkOk_by (own := [("_law_one", 1)]) (by rfl)) (fun _ _ _ _ _ => (fg_name sc__law_is_limit.nd rfl (by first | exact Or.inl rfl | exact Or.inr rfl))) (fun _ _ _ _ _ => (fts_one (ft_w (fw_or (ft_not (ft_truth (fx_isiA (pe_bltn (v := .ty "int") (u := .type "int") rfl (S.free 8) rfl rfl) (ClsV.ty "int") (fun _ _ => isiBd_ok) (noC_ok (cl := (Cc K).cl) (T := "int") (cs := [0, 1]) (by decide) (all2 ⟨S.isi 4, S.bool (f := fun K => kitTB K (He.ga K "Limits")) 5⟩ ⟨S.isi 6, S.bool (f := fun K => kitTB K (He.ga K "Gate")) 7⟩)) (fx_look (pv 1)) (S.free 9) rfl))) (fw_or (ft_truth (fx_isiA (pe_bltn (v := .ty "bool") (u := .type "bool") rfl (S.free 10) rfl rfl) (ClsV.ty "bool") (fun _ _ => isiBd_ok) (noC_ok (cl := (Cc K).cl) (T := "bool") (cs := [0, 1]) (by decide) (all2 ⟨S.isi 4, S.bool (f := fun K => kitTB K (He.ga K "Limits")) 5⟩ ⟨S.isi 6, S.bool (f := fun K => kitTB K (He.ga K "Gate")) 7⟩)) (fx_look (pv 1)) (S.free 9) rfl)) (fw_or1 (ft_not (ft_chain op_le op_le op2_le op2_le fx_int (fx_look (pv 1)) fx_int (by rfl))))))))) (fun _ _ _ _ _ => fx_int))) (fx_new (fn_lst fa_nil)))))))
theorem ok__law_are_limits (S : Sy fb fn lf K mg base) : FnG P w K mg base (L2.CX P w) 2 (He.ga K "_law_are_limits") (spF (Cc K) N__law_are_limits 1 b__law_are_limits) := by
  obtain ⟨fd, Fd⟩ : ∃ fd : FuncData, FunD K "_law_are_limits" "_law_are_limits" (defArgs s__law_are_limits) (defBody s__law_are_limits) (defScope s__law_are_limits) [] [] (He.ga K "_law_are_limits") fd := S.def_ 22 rfl
  exact fnP_ok (ps := ["_law_some"]) Fd sc__law_are_limits (Fd.bindsN fun _ _ _ _ _ _ us hl => match us, hl with | [_], _ => rfl) (fun cdv A outer s H E hr => (fss_cons (fs_if (ft_w (fw_or (ft_eq (u64 hr) (fx_len (fx_look (pv 0)) (S.free 1) rfl) fx_int) (fw_or1 (ft_ne (u64 hr) (fx_new (fn_lc rfl sc__law_are_limits.nd (fi_seq (fx_var (pv 0))) (blkOk_by (own := [("_law_one", 1)]) (by rfl)) (fun _ _ _ _ _ => (fg_name sc__law_are_limits.nd rfl (by first | exact Or.inl rfl | exact Or.inr rfl))) (fun _ _ _ _ _ => (fts_one (ft_not (ft_truth (fx_def (k := 1) (f := (He.ga K "_law_is_limit")) (N := N__law_is_limit) (b := b__law_is_limit) (ok__law_is_limit pk S) (hr.mono (by decide)) rfl (S.glo 52) (kp_of (S.def_ 21 rfl)) takes0 (fa_var (pv 1) fa_nil) (an_var an_nil)))))) (fun _ _ _ _ _ => fx_int))) (fx_new (fn_lst fa_nil)))))) (fss_one (fs_ret fx_bl)) fss_nil) (fss_one (fs_ret (fx_eq (u64 hr) (fx_new (fn_lc rfl sc__law_are_limits.nd (fi_seq (fx_var (pv 0))) (blkOk_by (own := [("_law_one", 1)]) (by rfl)) (fun _ _ _ _ _ => (fg_name sc__law_are_limits.nd rfl (by first | exact Or.inl rfl | exact Or.inr rfl))) (fun _ _ _ _ _ => (fts_one (ft_gt (fx_cnt (u65 hr) (fx_var (pv 0)) (fx_var (pv 1))) fx_int))) (fun _ _ _ _ _ => fx_int))) (fx_new (fn_lst fa_nil)))))))
theorem ok_Limits___repr__ (S : Sy fb fn lf K mg base) : FnG P w K mg base (L2.CX P w) 1 (He.ma K (He.ga K "Limits") "__repr__") (spF (Cc K) N_Limits___repr__ 1 b_Limits___repr__) := by
  obtain ⟨fd, Fd⟩ : ∃ fd : FuncData, FunD K "__repr__" "Limits.__repr__" (defArgs s_Limits___repr__) (defBody s_Limits___repr__) (defScope s_Limits___repr__) [] [] (He.ma K (He.ga K "Limits") "__repr__") fd := S.def_ 23 rfl
  exact fnP_ok (ps := ["self"]) Fd sc_Limits___repr__ (Fd.bindsN fun _ _ _ _ _ _ us hl => match us, hl with | [_], _ => rfl) (fun cdv A outer s H E hr => (fss_one (fs_ret (fx_joined (FXs.cons ⟨_, fx_str⟩ (FXs.cons ⟨_, (fx_fmt (fx_len (fx_fld (cs := [0]) (fun c h => by cases h with | head => exact ⟨(S.cls 25), (S.noat 26)⟩ | tail _ h => cases h) (fx_look (pv 0))) (S.free 1) rfl))⟩ (FXs.cons ⟨_, fx_str⟩ FXs.nil)))))))
theorem ok_Gate_come (S : Sy fb fn lf K mg base) : FnG P w K mg base (L2.CX P w) 1 (prG K (He.ga K "Gate") "come") (spF (Cc K) N_Gate_come 1 b_Gate_come) := by
  obtain ⟨fd, Fd⟩ : ∃ fd : FuncData, FunD K "come" "Gate.come" (defArgs s_Gate_come) (defBody s_Gate_come) (defScope s_Gate_come) [] [] (prG K (He.ga K "Gate") "come") fd := S.def_ 24 rfl
  exact fnP_ok (ps := ["self"]) Fd sc_Gate_come (Fd.bindsN fun _ _ _ _ _ _ us hl => match us, hl with | [_], _ => rfl) (fun cdv A outer s H E hr => (fss_one (fs_ret (fx_ix (fx_ix (fx_fld (cs := [1]) (fun c h => by cases h with | head => exact ⟨(S.cls 44), (S.noat 46)⟩ | tail _ h => cases h) (fx_look (pv 0))) (fx_neg fx_int)) fx_int))))
theorem ok_Gate___len__ (S : Sy fb fn lf K mg base) : FnG P w K mg base (L2.CX P w) 3 (He.ma K (He.ga K "Gate") "__len__") (spF (Cc K) N_Gate___len__ 1 b_Gate___len__) := by
  obtain ⟨fd, Fd⟩ : ∃ fd : FuncData, FunD K "__len__" "Gate.__len__" (defArgs s_Gate___len__) (defBody s_Gate___len__) (defScope s_Gate___len__) [] [] (He.ma K (He.ga K "Gate") "__len__") fd := S.def_ 25 rfl
  exact fnP_ok (ps := ["self"]) Fd sc_Gate___len__ (Fd.bindsN fun _ _ _ _ _ _ us hl => match us, hl with | [_], _ => rfl) (fun cdv A outer s H E hr => (fss_one (fs_ret (fx_len (fx_prop (c := 1) (k := 1) (g := (prG K (He.ga K "Gate") "come")) (N := N_Gate_come) (b := b_Gate_come) (fv_var (pv 0)) (S.cls 44) (S.prop 53) (ok_Gate_come pk S) (hr.mono (by decide))) (S.free 1) rfl))))
theorem ok_Gate_through (S : Sy fb fn lf K mg base) : FnG P w K mg base (L2.CX P w) 1 (prG K (He.ga K "Gate") "through") (spF (Cc K) N_Gate_through 1 b_Gate_through) := by
  obtain ⟨fd, Fd⟩ : ∃ fd : FuncData, FunD K "through" "Gate.through" (defArgs s_Gate_through) (defBody s_Gate_through) (defScope s_Gate_through) [] [] (prG K (He.ga K "Gate") "through") fd := S.def_ 26 rfl
  exact fnP_ok (ps := ["self"]) Fd sc_Gate_through (Fd.bindsN fun _ _ _ _ _ _ us hl => match us, hl with | [_], _ => rfl) (fun cdv A outer s H E hr => (fss_one (fs_ret (fx_ix (fx_ix (fx_fld (cs := [1]) (fun c h => by cases h with | head => exact ⟨(S.cls 44), (S.noat 46)⟩ | tail _ h => cases h) (fx_look (pv 0))) (fx_neg fx_int)) fx_int))))
theorem ok_Gate_waiting (S : Sy fb fn lf K mg base) : FnG P w K mg base (L2.CX P w) 3 (prG K (He.ga K "Gate") "waiting") (spF (Cc K) N_Gate_waiting 1 b_Gate_waiting) := by
  obtain ⟨fd, Fd⟩ : ∃ fd : FuncData, FunD K "waiting" "Gate.waiting" (defArgs s_Gate_waiting) (defBody s_Gate_waiting) (defScope s_Gate_waiting) [] [] (prG K (He.ga K "Gate") "waiting") fd := S.def_ 27 rfl
  exact fnP_ok (ps := ["self"]) Fd sc_Gate_waiting (Fd.bindsN fun _ _ _ _ _ _ us hl => match us, hl with | [_], _ => rfl) (fun cdv A outer s H E hr => (fss_one (fs_ret (fx_sub (fx_sum rfl (fx_prop (c := 1) (k := 1) (g := (prG K (He.ga K "Gate") "come")) (N := N_Gate_come) (b := b_Gate_come) (fv_var (pv 0)) (S.cls 44) (S.prop 53) (ok_Gate_come pk S) (hr.mono (by decide))) (S.free 55) rfl) (fx_sum rfl (fx_prop (c := 1) (k := 1) (g := (prG K (He.ga K "Gate") "through")) (N := N_Gate_through) (b := b_Gate_through) (fv_var (pv 0)) (S.cls 44) (S.prop 54) (ok_Gate_through pk S) (hr.mono (by decide))) (S.free 55) rfl)))))
theorem ok_Gate___repr__ (S : Sy fb fn lf K mg base) : FnG P w K mg base (L2.CX P w) 5 (He.ma K (He.ga K "Gate") "__repr__") (spF (Cc K) N_Gate___repr__ 1 b_Gate___repr__) := by
  obtain ⟨fd, Fd⟩ : ∃ fd : FuncData, FunD K "__repr__" "Gate.__repr__" (defArgs s_Gate___repr__) (defBody s_Gate___repr__) (defScope s_Gate___repr__) [] [] (He.ma K (He.ga K "Gate") "__repr__") fd := S.def_ 28 rfl
  exact fnP_ok (ps := ["self"]) Fd sc_Gate___repr__ (Fd.bindsN fun _ _ _ _ _ _ us hl => match us, hl with | [_], _ => rfl) (fun cdv A outer s H E hr => (fss_one (fs_ret (fx_joined (FXs.cons ⟨_, (fx_fmt (fx_con (S.cls 44) (S.bool (f := fun K => conB K (He.ga K "Gate") "NAME" "Gate") 56) (fx_look (pv 0))))⟩ (FXs.cons ⟨_, fx_str⟩ (FXs.cons ⟨_, (fx_fmt (fx_lenO (c := 1) (k := 3) (f := (He.ma K (He.ga K "Gate") "__len__")) (N := N_Gate___len__) (b := b_Gate___len__) (fv_var (pv 0)) (S.spec 57) (ok_Gate___len__ pk S) (hr.mono (by decide)) take_bcx (S.free 1) rfl))⟩ (FXs.cons ⟨_, fx_str⟩ (FXs.cons ⟨_, (fx_fmt (fx_prop (c := 1) (k := 3) (g := (prG K (He.ga K "Gate") "waiting")) (N := N_Gate_waiting) (b := b_Gate_waiting) (fv_var (pv 0)) (S.cls 44) (S.prop 58) (ok_Gate_waiting pk S) (hr.mono (by decide))))⟩ (FXs.cons ⟨_, fx_str⟩ FXs.nil))))))))))
theorem ok__law_kind (S : Sy fb fn lf K mg base) {c : Nat} (hc : c < 13) {wd : Str} (hw : ∃ g, b__law_kind c (padG 3 [.val (.cls 0)]) = .ok (.ret (.val (.str wd))) g) : KindP P w K mg base (Cc K) 1 (He.ga K "_law_kind") c wd := by
  obtain ⟨hT, hV, hM, hJ⟩ := kdB_at (S.bool (f := fun K => kdB xn "BurstError" K) 80) hc
  obtain ⟨fd, Fd⟩ : ∃ fd : FuncData, FunD K "_law_kind" "_law_kind" (defArgs s__law_kind) (defBody s__law_kind) (defScope s__law_kind) [] [] (He.ga K "_law_kind") fd := S.def_ 29 rfl
  exact kind_ok Fd sc__law_kind (Fd.bindsN fun _ _ _ _ _ _ us hl => match us, hl with | [_], _ => rfl) (by decide) (fun A outer s H cdv a oe hx hr => (fss_cons (fs_setNew sc__law_kind.nd rfl (by first | exact Or.inl rfl | exact Or.inr rfl) (fn_lst (fa_val (fx_isX hT hx (pe_glob (v := .ref (He.ga K "NoLimit")) rfl (S.glo 21) rfl) (fun _ h => h) (hJ 0 (by decide)) (fx_var (pv 0)) (S.free 9) rfl) (fa_val (fx_isX hT hx (pe_glob (v := .ref (He.ga K "NoLimits")) rfl (S.glo 42) rfl) (fun _ h => h) (hJ 1 (by decide)) (fx_var (pv 0)) (S.free 9) rfl) (fa_val (fx_isX hT hx (pe_glob (v := .ref (He.ga K "NoRow")) rfl (S.glo 60) rfl) (fun _ h => h) (hJ 2 (by decide)) (fx_var (pv 0)) (S.free 9) rfl) (fa_val (fx_isX hT hx (pe_glob (v := .ref (He.ga K "NoRows")) rfl (S.glo 59) rfl) (fun _ h => h) (hJ 3 (by decide)) (fx_var (pv 0)) (S.free 9) rfl) fa_nil)))))) (fss_freeze (i := 1) (fss_cons (fs_setNew sc__law_kind.nd rfl (by first | exact Or.inl rfl | exact Or.inr rfl) (fn_addL (fx_look (pv 1)) (fx_new (fn_lst (fa_val (fx_isX hT hx (pe_glob (v := .ref (He.ga K "NoNumber")) rfl (S.glo 63) rfl) (fun _ h => h) (hJ 4 (by decide)) (fx_var (pv 0)) (S.free 9) rfl) (fa_val (fx_isX hT hx (pe_glob (v := .ref (He.ga K "NoLength")) rfl (S.glo 62) rfl) (fun _ h => h) (hJ 5 (by decide)) (fx_var (pv 0)) (S.free 9) rfl) (fa_val (fx_isX hT hx (pe_glob (v := .ref (He.ga K "NoLengths")) rfl (S.glo 61) rfl) (fun _ h => h) (hJ 6 (by decide)) (fx_var (pv 0)) (S.free 9) rfl) fa_nil))))))) (fss_freeze (i := 1) (fss_cons (fs_setNew sc__law_kind.nd rfl (by first | exact Or.inl rfl | exact Or.inr rfl) (fn_addL (fx_look (pv 1)) (fx_new (fn_lst (fa_val (fx_isX hT hx (pe_glob (v := .ref (He.ga K "NoAmount")) rfl (S.glo 65) rfl) (fun _ h => h) (hJ 7 (by decide)) (fx_var (pv 0)) (S.free 9) rfl) (fa_val (fx_isX hT hx (pe_glob (v := .ref (He.ga K "NoText")) rfl (S.glo 32) rfl) (fun _ h => h) (hJ 8 (by decide)) (fx_var (pv 0)) (S.free 9) rfl) (fa_val (fx_isX hT hx (pe_glob (v := .ref (He.ga K "NothingDone")) rfl (S.glo 64) rfl) (fun _ h => h) (hJ 9 (by decide)) (fx_var (pv 0)) (S.free 9) rfl) fa_nil))))))) (fss_freeze (i := 1) (fss_cons (fs_setNew sc__law_kind.nd rfl (by first | exact Or.inl rfl | exact Or.inr rfl) (fn_addL (fx_look (pv 1)) (fx_new (fn_lst (fa_val (fx_isX hT hx (pe_glob (v := .ref (He.ga K "TooMany")) rfl (S.glo 24) rfl) (fun _ h => h) (hJ 10 (by decide)) (fx_var (pv 0)) (S.free 9) rfl) (fa_val (fx_isX hT hx (pe_glob (v := .ref (He.ga K "Full")) rfl (S.glo 67) rfl) (fun _ h => h) (hJ 11 (by decide)) (fx_var (pv 0)) (S.free 9) rfl) (fa_val (fx_isX hT hx (pe_glob (v := .ref (He.ga K "Late")) rfl (S.glo 66) rfl) (fun _ h => h) (hJ 12 (by decide)) (fx_var (pv 0)) (S.free 9) rfl) fa_nil))))))) (fss_cons (fs_setNew sc__law_kind.nd rfl (by first | exact Or.inl rfl | exact Or.inr rfl) (fn_lst (fa_val fx_str (fa_val fx_str (fa_val fx_str (fa_val fx_str (fa_val fx_str (fa_val fx_str (fa_val fx_str (fa_val fx_str (fa_val fx_str (fa_val fx_str (fa_val fx_str fa_nil))))))))))))) (fss_freeze (i := 2) (fss_cons (fs_set sc__law_kind.nd rfl (by first | exact Or.inl rfl | exact Or.inr rfl) (fx_add (fx_look (pv 2)) (fx_new (fn_lst (fa_val fx_str (fa_val fx_str fa_nil)))))) (fss_cons (fs_if (ft_w (fw_or (ft_ne (uh64 hr) (fx_cntB (uh65 hr) (pv 1) fx_bl) fx_int) (fw_or1 (ft_not (ft_truth (fx_isX hT hx (pe_bltn (v := .ty "ValueError") (u := .type "ValueError") rfl (S.free 68) rfl rfl) (fun _ h => h) hV (fx_var (pv 0)) (S.free 9) rfl)))))) (fss_one (fs_ret fx_str)) fss_nil) (fss_one (fs_ret (fx_ix (fx_var (pv 2)) (fx_ixB (pv 1) fx_bl)))))))))))))))) hw
theorem ok__law_due (S : Sy fb fn lf K mg base) : FnG P w K mg base (L2.CX P w) 2 (He.ga K "_law_due") (spF (Cc K) N__law_due 1 b__law_due) := by
  obtain ⟨fd, Fd⟩ : ∃ fd : FuncData, FunD K "_law_due" "_law_due" (defArgs s__law_due) (defBody s__law_due) (defScope s__law_due) [] [] (He.ga K "_law_due") fd := S.def_ 31 rfl
  exact fnP_ok (ps := ["_law_pairs_here"]) Fd sc__law_due (Fd.bindsN fun _ _ _ _ _ _ us hl => match us, hl with | [_], _ => rfl) (fun cdv A outer s H E hr => (fss_one (fs_ret (fx_new (fn_lst (fa_var (pv 0) (fa_val (fx_len (fx_look (pv 0)) (S.free 1) rfl) (fa_val (fx_new (fn_list (fx_look (pv 0)) (S.free 69) rfl)) (fa_val (fx_add (fx_add fx_str (fx_strI (fx_len (fx_look (pv 0)) (S.free 1) rfl) (S.free 30) rfl)) fx_str) (fa_val (fx_def (k := 1) (f := (He.ga K "_law_text")) (N := N__law_text) (b := b__law_text) (ok__law_text pk S) (hr.mono (by decide)) rfl (S.glo 35) (kp_of (S.def_ 13 rfl)) take_bcx (fa_var (pv 0) fa_nil) (an_var an_nil)) fa_nil))))))))))
theorem ok_Limits___getitem__ (S : Sy fb fn lf K mg base) : FnG P w K mg base (L2.CX P w) 3 (He.ma K (He.ga K "Limits") "__getitem__") (spF (Cc K) N_Limits___getitem__ 2 b_Limits___getitem__) := by
  obtain ⟨fd, Fd⟩ : ∃ fd : FuncData, FunD K "__getitem__" "Limits.__getitem__" (defArgs s_Limits___getitem__) (defBody s_Limits___getitem__) (defScope s_Limits___getitem__) [] [] (He.ma K (He.ga K "Limits") "__getitem__") fd := S.def_ 32 rfl
  exact fnP_ok (ps := ["self", "number"]) Fd sc_Limits___getitem__ (Fd.bindsN fun _ _ _ _ _ _ us hl => match us, hl with | [_, _], _ => rfl) (fun cdv A outer s H E hr => (fss_cons (fs_if (ft_not (ft_truth (fx_def (k := 2) (f := (He.ga K "is_between")) (N := N_is_between) (b := b_is_between) (ok_is_between pk S) (hr.mono (by decide)) rfl (S.glo 14) (kp_of (S.def_ 6 rfl)) take_bcx (fa_var (pv 1) (fa_val fx_int (fa_val (fx_sub (fx_len (fx_fld (cs := [0]) (fun c h => by cases h with | head => exact ⟨(S.cls 25), (S.noat 26)⟩ | tail _ h => cases h) (fx_look (pv 0))) (S.free 1) rfl) fx_int) fa_nil))) (an_var (an_val (an_val an_nil)))))) (fss_one (fs_raise (c := 4) (S.bool (f := fun K => rsB K (He.ga K "NoNumber")) 70) (S.glo 63) rfl rfl take_bcx)) fss_nil) (fss_one (fs_ret (fx_ix (fx_fld (cs := [0]) (fun c h => by cases h with | head => exact ⟨(S.cls 25), (S.noat 26)⟩ | tail _ h => cases h) (fx_look (pv 0))) (fx_look (pv 1)))))))
theorem ok_Limits___len__ (S : Sy fb fn lf K mg base) : FnG P w K mg base (L2.CX P w) 1 (He.ma K (He.ga K "Limits") "__len__") (spF (Cc K) N_Limits___len__ 1 b_Limits___len__) := by
  obtain ⟨fd, Fd⟩ : ∃ fd : FuncData, FunD K "__len__" "Limits.__len__" (defArgs s_Limits___len__) (defBody s_Limits___len__) (defScope s_Limits___len__) [] [] (He.ma K (He.ga K "Limits") "__len__") fd := S.def_ 33 rfl
  exact fnP_ok (ps := ["self"]) Fd sc_Limits___len__ (Fd.bindsN fun _ _ _ _ _ _ us hl => match us, hl with | [_], _ => rfl) (fun cdv A outer s H E hr => (fss_one (fs_ret (fx_len (fx_fld (cs := [0]) (fun c h => by cases h with | head => exact ⟨(S.cls 25), (S.noat 26)⟩ | tail _ h => cases h) (fx_look (pv 0))) (S.free 1) rfl))))
theorem ok_Limits_text (S : Sy fb fn lf K mg base) : FnG P w K mg base (L2.CX P w) 1 (He.ma K (He.ga K "Limits") "text") (spF (Cc K) N_Limits_text 1 b_Limits_text) := by
  obtain ⟨fd, Fd⟩ : ∃ fd : FuncData, FunD K "text" "Limits.text" (defArgs s_Limits_text) (defBody s_Limits_text) (defScope s_Limits_text) [] [] (He.ma K (He.ga K "Limits") "text") fd := S.def_ 34 rfl
  exact fnP_ok (ps := ["self"]) Fd sc_Limits_text (Fd.bindsN fun _ _ _ _ _ _ us hl => match us, hl with | [_], _ => rfl) (fun cdv A outer s H E hr => (fss_one (fs_ret (fx_join fx_str (fx_new (fn_lc rfl sc_Limits_text.nd (fi_seq (fx_fld (cs := [0]) (fun c h => by cases h with | head => exact ⟨(S.cls 25), (S.noat 26)⟩ | tail _ h => cases h) (fx_look (pv 0)))) (blkOk_by (own := [("length", 1), ("most", 2)]) (by rfl)) (fun _ _ _ _ _ => (fg_tup rfl (fgs_cons (fg_name sc_Limits_text.nd rfl (by first | exact Or.inl rfl | exact Or.inr rfl)) (fgs_cons (fg_name sc_Limits_text.nd rfl (by first | exact Or.inl rfl | exact Or.inr rfl)) fgs_nil)))) (fun _ _ _ _ _ => fts_nil) (fun _ _ _ _ _ => (fx_joined (FXs.cons ⟨_, fx_str⟩ (FXs.cons ⟨_, (fx_fmt (fx_look (pv 2)))⟩ (FXs.cons ⟨_, fx_str⟩ (FXs.cons ⟨_, (fx_fmt (fx_look (pv 1)))⟩ (FXs.cons ⟨_, fx_str⟩ FXs.nil)))))))))))))
theorem ok__law_seen (S : Sy fb fn lf K mg base) : FnG P w K mg base (L2.CX P w) 5 (He.ga K "_law_seen") (spF (Cc K) N__law_seen 1 b__law_seen) := by
  obtain ⟨fd, Fd⟩ : ∃ fd : FuncData, FunD K "_law_seen" "_law_seen" (defArgs s__law_seen) (defBody s__law_seen) (defScope s__law_seen) [] [] (He.ga K "_law_seen") fd := S.def_ 35 rfl
  exact fnP_ok (ps := ["_law_made_here"]) Fd sc__law_seen (Fd.bindsN fun _ _ _ _ _ _ us hl => match us, hl with | [_], _ => rfl) (fun cdv A outer s H E hr => (fss_cons (fs_setLc rfl sc__law_seen.nd rfl rfl (sw_true rfl rfl rfl rfl) (fi_rng1 (by rfl) (S.free 2) (fa_val (fx_lenO (c := 0) (k := 1) (f := (He.ma K (He.ga K "Limits") "__len__")) (N := N_Limits___len__) (b := b_Limits___len__) (fv_var (pv 0)) (S.spec 71) (ok_Limits___len__ pk S) (hr.mono (by decide)) take_bcx (S.free 1) (by rfl)) fa_nil)) (blkOk_by (own := [("_law_at", 2)]) (by rfl)) (fun _ _ _ _ _ => (fg_name sc__law_seen.nd rfl (by first | exact Or.inl rfl | exact Or.inr rfl))) (fun _ _ _ _ _ => fts_nil) (fun _ _ _ _ _ => (fx_getO (c := 0) (k := 3) (f := (He.ma K (He.ga K "Limits") "__getitem__")) (N := N_Limits___getitem__) (b := b_Limits___getitem__) (fv_var (pv 0)) (fx_var (pv 2)) (S.spec 72) (ok_Limits___getitem__ pk S) (hr.mono (by decide)) takes0))) (fss_freeze (i := 1) (fss_one (fs_ret (fx_new (fn_lst (fa_val (fx_prop (c := 0) (k := 1) (g := (prG K (He.ga K "Limits") "pairs")) (N := N_Limits_pairs) (b := b_Limits_pairs) (fv_var (pv 0)) (S.cls 25) (S.prop 48) (ok_Limits_pairs pk S) (hr.mono (by decide))) (fa_val (fx_lenO (c := 0) (k := 1) (f := (He.ma K (He.ga K "Limits") "__len__")) (N := N_Limits___len__) (b := b_Limits___len__) (fv_var (pv 0)) (S.spec 71) (ok_Limits___len__ pk S) (hr.mono (by decide)) take_bcx (S.free 1) rfl) (fa_var (pv 1) (fa_val (fx_reprO (c := 0) (k := 1) (f := (He.ma K (He.ga K "Limits") "__repr__")) (N := N_Limits___repr__) (b := b_Limits___repr__) (fv_var (pv 0)) (S.spec 74) (ok_Limits___repr__ pk S) (hr.mono (by decide)) take_bcx (S.free 75) rfl) (fa_val (fx_meth0 (c := 0) (k := 1) (f := (He.ma K (He.ga K "Limits") "text")) (N := N_Limits_text) (b := b_Limits_text) (fv_var (pv 0)) (S.cls 25) (S.meth 73) (ok_Limits_text pk S) (hr.mono (by decide)) take_bcx) fa_nil))))))))))))
theorem ok__law_direct (S : Sy fb fn lf K mg base) : FnG P w K mg base (L2.CX P w) 7 (He.ga K "_law_direct") (spF (Cc K) N__law_direct 1 b__law_direct) := by
  obtain ⟨fd, Fd⟩ : ∃ fd : FuncData, FunD K "_law_direct" "_law_direct" (defArgs s__law_direct) (defBody s__law_direct) (defScope s__law_direct) [] [] (He.ga K "_law_direct") fd := S.def_ 36 rfl
  exact fnP_ok (ps := ["_law_some"]) Fd sc__law_direct (Fd.bindsN fun _ _ _ _ _ _ us hl => match us, hl with | [_], _ => rfl) (fun cdv A outer s H E hr => (fss_cons (fs_if (ft_eq (u64 hr) (fx_len (fx_look (pv 0)) (S.free 1) rfl) fx_int) (fss_one (fs_ret (fx_new (fn_makeS0 (c := 0) (k := 5) (f := (He.ma K (He.ga K "Limits") "__init__")) (N := N_Limits___init__) (b := b_Limits___init__) (S.mkr 34) (ok_Limits___init__ pk S) (hr.mono (by decide)) rfl (S.glo 38) take_bcx)))) fss_nil) (fss_cons (fs_if (ft_eq (u64 hr) (fx_len (fx_look (pv 0)) (S.free 1) rfl) fx_int) (fss_one (fs_ret (fx_new (fn_makeS (c := 0) (k := 5) (f := (He.ma K (He.ga K "Limits") "__init__")) (N := N_Limits___init__) (b := b_Limits___init__) (S.mkr 34) (ok_Limits___init__ pk S) (hr.mono (by decide)) rfl (S.glo 38) take_bcx (fa_val (fx_ix (fx_look (pv 0)) fx_int) fa_nil))))) fss_nil) (fss_cons (fs_if (ft_eq (u64 hr) (fx_len (fx_look (pv 0)) (S.free 1) rfl) fx_int) (fss_one (fs_ret (fx_new (fn_makeS (c := 0) (k := 5) (f := (He.ma K (He.ga K "Limits") "__init__")) (N := N_Limits___init__) (b := b_Limits___init__) (S.mkr 34) (ok_Limits___init__ pk S) (hr.mono (by decide)) rfl (S.glo 38) take_bcx (fa_val (fx_ix (fx_look (pv 0)) fx_int) (fa_val (fx_ix (fx_look (pv 0)) fx_int) fa_nil)))))) fss_nil) (fss_cons (fs_if (ft_eq (u64 hr) (fx_len (fx_look (pv 0)) (S.free 1) rfl) fx_int) (fss_one (fs_ret (fx_new (fn_makeS (c := 0) (k := 5) (f := (He.ma K (He.ga K "Limits") "__init__")) (N := N_Limits___init__) (b := b_Limits___init__) (S.mkr 34) (ok_Limits___init__ pk S) (hr.mono (by decide)) rfl (S.glo 38) take_bcx (fa_val (fx_ix (fx_look (pv 0)) fx_int) (fa_val (fx_ix (fx_look (pv 0)) fx_int) (fa_val (fx_ix (fx_look (pv 0)) fx_int) fa_nil))))))) fss_nil) (fss_cons (fs_if (ft_eq (u64 hr) (fx_len (fx_look (pv 0)) (S.free 1) rfl) fx_int) (fss_one (fs_ret (fx_new (fn_makeS (c := 0) (k := 5) (f := (He.ma K (He.ga K "Limits") "__init__")) (N := N_Limits___init__) (b := b_Limits___init__) (S.mkr 34) (ok_Limits___init__ pk S) (hr.mono (by decide)) rfl (S.glo 38) take_bcx (fa_val (fx_ix (fx_look (pv 0)) fx_int) (fa_val (fx_ix (fx_look (pv 0)) fx_int) (fa_val (fx_ix (fx_look (pv 0)) fx_int) (fa_val (fx_ix (fx_look (pv 0)) fx_int) fa_nil)))))))) fss_nil) (fss_cons (fs_if (ft_eq (u64 hr) (fx_len (fx_look (pv 0)) (S.free 1) rfl) fx_int) (fss_one (fs_ret (fx_new (fn_makeS (c := 0) (k := 5) (f := (He.ma K (He.ga K "Limits") "__init__")) (N := N_Limits___init__) (b := b_Limits___init__) (S.mkr 34) (ok_Limits___init__ pk S) (hr.mono (by decide)) rfl (S.glo 38) take_bcx (fa_val (fx_ix (fx_look (pv 0)) fx_int) (fa_val (fx_ix (fx_look (pv 0)) fx_int) (fa_val (fx_ix (fx_look (pv 0)) fx_int) (fa_val (fx_ix (fx_look (pv 0)) fx_int) (fa_val (fx_ix (fx_look (pv 0)) fx_int) fa_nil))))))))) fss_nil) (fss_cons (fs_if (ft_eq (u64 hr) (fx_len (fx_look (pv 0)) (S.free 1) rfl) fx_int) (fss_one (fs_ret (fx_new (fn_makeS (c := 0) (k := 5) (f := (He.ma K (He.ga K "Limits") "__init__")) (N := N_Limits___init__) (b := b_Limits___init__) (S.mkr 34) (ok_Limits___init__ pk S) (hr.mono (by decide)) rfl (S.glo 38) take_bcx (fa_val (fx_ix (fx_look (pv 0)) fx_int) (fa_val (fx_ix (fx_look (pv 0)) fx_int) (fa_val (fx_ix (fx_look (pv 0)) fx_int) (fa_val (fx_ix (fx_look (pv 0)) fx_int) (fa_val (fx_ix (fx_look (pv 0)) fx_int) (fa_val (fx_ix (fx_look (pv 0)) fx_int) fa_nil)))))))))) fss_nil) (fss_one (fs_ret (fx_new (fn_makeS (c := 0) (k := 5) (f := (He.ma K (He.ga K "Limits") "__init__")) (N := N_Limits___init__) (b := b_Limits___init__) (S.mkr 34) (ok_Limits___init__ pk S) (hr.mono (by decide)) rfl (S.glo 38) take_bcx (fa_val (fx_ix (fx_look (pv 0)) fx_int) (fa_val (fx_ix (fx_look (pv 0)) fx_int) (fa_val (fx_ix (fx_look (pv 0)) fx_int) (fa_val (fx_ix (fx_look (pv 0)) fx_int) (fa_val (fx_ix (fx_look (pv 0)) fx_int) (fa_val (fx_ix (fx_look (pv 0)) fx_int) (fa_val (fx_ix (fx_look (pv 0)) fx_int) fa_nil)))))))))))))))))))
theorem ok_rpM (S : Sy fb fn lf K mg base) : ∀ (c : Nat) (fs : List (Str × D)) (y : Str), rpM c fs = some y → ∃ (kk : Nat) (f : Addr) (N : List Str) (b : F Fl), Spe K ((Cc K).cl c) "__repr__" f ∧ FnG P w K mg base (L2.CX P w) kk f (spF (Cc K) N 1 b) ∧ kk < 40 ∧ 1 ≤ N.length ∧ ∃ g, b (padG N.length [.val (.ins c fs)]) = .ok (.ret (.val (.str y))) g := fun c fs y e => by
  unfold rpM at e
  split at e
  · exact ⟨1, _, N_Limits___repr__, _, (S.spec 74), (ok_Limits___repr__ pk S), by decide, by decide, rpR_of e⟩
  · exact ⟨5, _, N_Gate___repr__, _, (S.spec 92), (ok_Gate___repr__ pk S), by decide, by decide, rpR_of e⟩
  · cases e
theorem ok__law_is_right (S : Sy fb fn lf K mg base) : FnG P w K mg base (L2.CX P w) 61 (He.ga K "_law_is_right") (spF (Cc K) N__law_is_right 1 b__law_is_right) := by
  obtain ⟨fd, Fd⟩ : ∃ fd : FuncData, FunD K "_law_is_right" "_law_is_right" (defArgs s__law_is_right) (defBody s__law_is_right) (defScope s__law_is_right) [] [] (He.ga K "_law_is_right") fd := S.def_ 37 rfl
  exact fnL_ok (ps := ["_law_some"]) Fd sc__law_is_right (Fd.bindsN fun _ _ _ _ _ _ us hl => match us, hl with | [_], _ => rfl) (fun cdv A outer s H E hc hr => (fss_cons (fs_set sc__law_is_right.nd rfl (by first | exact Or.inl rfl | exact Or.inr rfl) fx_str) (fss_cons (fs_if (ft_truth (fx_def (k := 2) (f := (He.ga K "_law_are_limits")) (N := N__law_are_limits) (b := b__law_are_limits) (ok__law_are_limits pk S) (hr.mono (by decide)) rfl (S.glo 76) (kp_of (S.def_ 22 rfl)) take_bcx (fa_var (pv 0) fa_nil) (an_var an_nil))) (fss_one (fs_set sc__law_is_right.nd rfl (by first | exact Or.inl rfl | exact Or.inr rfl) (fx_if (ft_gt (fx_len (fx_look (pv 0)) (S.free 1) rfl) fx_int) (fx_add fx_str (fx_repr hr (fx_tup (fa_val (fx_len (fx_look (pv 0)) (S.free 1) rfl) (fa_val fx_int fa_nil))) (S.free 75) rfl)) (fx_repr hr (fx_def (k := 2) (f := (He.ga K "_law_due")) (N := N__law_due) (b := b__law_due) (ok__law_due pk S) (hr.mono (by decide)) rfl (S.glo 77) (kp_of (S.def_ 31 rfl)) take_bcx (fa_val (fx_tuple (fx_look (pv 0)) (S.free 12) rfl) fa_nil) (an_val an_nil)) (S.free 75) rfl)))) fss_nil) (fss_cons (fs_set sc__law_is_right.nd rfl (by first | exact Or.inl rfl | exact Or.inr rfl) (fx_reprA (C := Cc K) (rp := rpM) (by exact (ok_rpM pk S)) hr (fx_var (pv 0)) (S.free 75) rfl)) (fss_cons (fs_setLc rfl sc__law_is_right.nd rfl rfl (sw_true rfl rfl rfl rfl) (fi_rng1 (by rfl) (S.free 2) (fa_val fx_int fa_nil)) (blkOk_by (own := [("_law_turn", 4)]) (by rfl)) (fun _ _ _ _ _ => (fg_name sc__law_is_right.nd rfl (by first | exact Or.inl rfl | exact Or.inr rfl))) (fun _ _ _ _ _ => fts_nil) (fun _ _ _ _ _ => (fx_saidY (C := Cc K) (k := 58) (kk := 1) (jl := 0) (a := "_law_call") (Ng := N__law_said) (i := 1) (j := 2) (cm := 10) (CS := He.ga K "BurstError") (fk := He.ga K "_law_kind") (kw := (kwOf 13 b__law_kind 3)) S rfl rfl rfl hc rfl (S.def_ 30 rfl) (fun _ _ _ _ _ _ us hl => match us, hl with | [_], _ => rfl) rfl sc__law_said rfl (.inl rfl) rfl rfl rfl rfl (by decide) rfl (S.glo 82) rfl (S.free 75) rfl (S.glo 83) (kp_of (S.def_ 29 rfl)) (fun c wd h => ok__law_kind pk S (kwOf_lt h) (kwOf_at h)) (fun c wd h => (kdB_at (S.bool (f := fun K => kdB xn "BurstError" K) 80) (kwOf_lt h)).2.2.1) (kwChk_ok kw_chk) (S.bool (f := fun K => xfdB K (He.ga K "TooMany")) 81) rfl (S.glo 84) (kp_of (S.def_ 30 rfl)) (hr.mono (by decide)) (by decide) (LamX.lamS_by (by rfl)) rfl (fun _ _ _ _ _ => rfl) (fun E A out t G f c hr => (fx_def (k := 5) (f := (He.ga K "_law_seen")) (N := N__law_seen) (b := b__law_seen) (ok__law_seen pk S) (hr.mono (by decide)) rfl (S.glo 79) (kp_of (S.def_ 35 rfl)) take_lam (fa_val (fx_def (k := 7) (f := (He.ga K "_law_direct")) (N := N__law_direct) (b := b__law_direct) (ok__law_direct pk S) (hr.mono (by decide)) rfl (S.glo 78) (kp_of (S.def_ 36 rfl)) take_lam (fa_var (pv 0) fa_nil) (an_var an_nil)) fa_nil) (an_val an_nil)))))) (fss_freeze (i := 3) (fss_one (fs_ret (fx_and (fx_eq (u64 hr) (fx_look (pv 3)) (fx_new (fn_lst (fa_var (pv 1) (fa_var (pv 1) fa_nil))))) (fx_one (fx_eq (u64 hr) (fx_reprA (C := Cc K) (rp := rpM) (by exact (ok_rpM pk S)) hr (fx_var (pv 0)) (S.free 75) rfl) (fx_look (pv 2)))))))))))))
theorem ok_law (S : Sy fb fn lf K mg base) : FnG P w K mg base (L2.CX P w) 62 (He.ga K "law") (spF (Cc K) N_law 1 b_law) := by
  obtain ⟨fd, Fd⟩ : ∃ fd : FuncData, FunD K "law" "law" (defArgs s_law) (defBody s_law) (defScope s_law) [] [] (He.ga K "law") fd := S.def_ 38 rfl
  exact fnP_ok (ps := ["_law_script"]) Fd sc_law (Fd.bindsN fun _ _ _ _ _ _ us hl => match us, hl with | [_], _ => rfl) (fun cdv A outer s H E hr => (fss_cons (fs_for pass_bcx rfl (fi_seq (fx_add (fx_new (fn_lst (fa_val (fx_def (k := 1) (f := (He.ga K "_law_cell_at")) (N := N__law_cell_at) (b := b__law_cell_at) (ok__law_cell_at pk S) (hr.mono (by decide)) rfl (S.glo 85) (kp_of (S.def_ 1 rfl)) take_bcx (fa_var (pv 0) (fa_val fx_int fa_nil)) (an_var (an_val an_nil))) fa_nil))) (fx_seeSl (pv 0)))) (fg_name sc_law.nd rfl (by first | exact Or.inl rfl | exact Or.inr rfl)) (fss_cons (fs_setNew sc_law.nd rfl (by first | exact Or.inl rfl | exact Or.inr rfl) (fn_def (k := 1) (f := (He.ga K "_law_pen")) (N := N__law_pen) (b := b__law_pen) (ok__law_pen pk S) (hr.mono (by decide)) rfl (S.glo 86) (kp_of (S.def_ 0 rfl)) take_bcx (fa_var (pv 1) fa_nil) (an_var an_nil))) (fss_one (fs_for pass_bcx rfl (fi_rng1 rfl (S.free 2) (fa_val fx_int fa_nil)) (fg_name sc_law.nd rfl (by first | exact Or.inl rfl | exact Or.inr rfl)) (fss_cons (fs_par3 rfl sc_law.nd rfl rfl rfl (by decide) (by decide) (by decide) rfl rfl rfl (fa_val (fx_new (fn_list (fx_def (k := 3) (f := (He.ga K "_law_pairs")) (N := N__law_pairs) (b := b__law_pairs) (ok__law_pairs pk S) (hr.mono (by decide)) rfl (S.glo 88) (kp_of (S.def_ 20 rfl)) take_bcx (fa_var (pv 2) (fa_val fx_int fa_nil)) (an_var (an_val an_nil))) (S.free 69) rfl)) (fa_val (fx_def (k := 2) (f := (He.ga K "_law_seven")) (N := N__law_seven) (b := b__law_seven) (ok__law_seven pk S) (hr.mono (by decide)) rfl (S.glo 87) (kp_of (S.def_ 3 rfl)) take_bcx (fa_var (pv 2) fa_nil) (an_var an_nil)) (fa_val (fx_def (k := 1) (f := (He.ga K "_law_draw")) (N := N__law_draw) (b := b__law_draw) (ok__law_draw pk S) (hr.mono (by decide)) rfl (S.glo 3) (kp_of (S.def_ 2 rfl)) take_bcx (fa_var (pv 2) (fa_val fx_int fa_nil)) (an_var (an_val an_nil))) fa_nil))) (by rfl)) (fss_cons (fs_setNew sc_law.nd rfl (by first | exact Or.inl rfl | exact Or.inr rfl) (fn_lst (fa_var (pv 4) (fa_var (pv 5) (fa_val (fx_slH (fx_look (pv 5)) fx_int) (fa_val (fx_add (fx_slH (fx_look (pv 4)) fx_int) (fx_slH (fx_look (pv 4)) fx_int)) fa_nil)))))) (fss_freeze (i := 7) (fss_cons (fs_set sc_law.nd rfl (by first | exact Or.inl rfl | exact Or.inr rfl) (fx_add (fx_look (pv 7)) (fx_new (fn_lst (fa_val (fx_add (fx_slH (fx_look (pv 5)) fx_int) (fx_sl2 (fx_look (pv 5)) (fx_var (pv 6)) (fx_add (fx_look (pv 6)) fx_int))) (fa_val (fx_add (fx_slH (fx_look (pv 4)) fx_int) (fx_new (fn_lst (fa_val (fx_tup (fa_val fx_int (fa_val fx_int fa_nil))) fa_nil)))) fa_nil)))))) (fss_cons (fs_for pass_bcx rfl (fi_seq (fx_add (fx_def0 (k := 1) (f := (He.ga K "_law_odds")) (N := N__law_odds) (b := b__law_odds) (ok__law_odds pk S) (hr.mono (by decide)) rfl (S.glo 90) (kp_of (S.def_ 4 rfl)) take_bcx) (fx_def0 (k := 9) (f := (He.ga K "_law_objects")) (N := N__law_objects) (b := b__law_objects) (ok__law_objects pk S) (hr.mono (by decide)) rfl (S.glo 89) (kp_of (S.def_ 18 rfl)) take_bcx))) (fg_name sc_law.nd rfl (by first | exact Or.inl rfl | exact Or.inr rfl)) (fss_one (fs_set sc_law.nd rfl (by first | exact Or.inl rfl | exact Or.inr rfl) (fx_add (fx_look (pv 7)) (fx_new (fn_lst (fa_val (fx_add (fx_add (fx_slH (fx_look (pv 5)) (fx_var (pv 6))) (fx_new (fn_lst (fa_var (pv 8) fa_nil)))) (fx_slL (fx_look (pv 5)) (fx_add (fx_look (pv 6)) fx_int))) (fa_val (fx_new (fn_lst (fa_var (pv 8) fa_nil))) (fa_val (fx_add (fx_slH (fx_look (pv 4)) fx_int) (fx_new (fn_lst (fa_var (pv 8) fa_nil)))) fa_nil))))))))) (fss_one (fs_if (ft_w (fw_or (ft_ne (u64 hr) (fx_new (fn_lc rfl sc_law.nd (fi_seq (fx_var (pv 7))) (blkOk_by (own := [("_law_row", 9)]) (by rfl)) (fun _ _ _ _ _ => (fg_name sc_law.nd rfl (by first | exact Or.inl rfl | exact Or.inr rfl))) (fun _ _ _ _ _ => (fts_one (ft_not (ft_truth (fx_def (k := 61) (f := (He.ga K "_law_is_right")) (N := N__law_is_right) (b := b__law_is_right) (ok__law_is_right pk S) (hr.mono (by decide)) rfl (S.glo 91) (kp_of (S.def_ 37 rfl)) takes0 (fa_var (pv 9) fa_nil) (an_var an_nil)))))) (fun _ _ _ _ _ => fx_int))) (fx_new (fn_lst fa_nil))) (fw_or1 (ft_not (ft_truth (fx_def (k := 61) (f := (He.ga K "_law_is_right")) (N := N__law_is_right) (b := b__law_is_right) (ok__law_is_right pk S) (hr.mono (by decide)) rfl (S.glo 91) (kp_of (S.def_ 37 rfl)) take_bcx (fa_val (fx_new (fn_lst fa_nil)) fa_nil) (an_val an_nil))))))) (fss_one (fs_ret fx_bl)) fss_nil))))))))))) (fss_one (fs_ret fx_bl))))
end
end G22
namespace G22
open PySem PySem.Spec PyProof.Rows L2 FC
local macro_rules | `(tactic| and_intros) => `(tactic| (repeat (first
  | with_reducible refine wp_seq ?_ | with_reducible refine wp_nx ?_ | with_reducible refine wp_rt ?_ | with_reducible refine wp_nil ?_ | with_reducible refine dk_val ?_ | with_reducible refine dk_lst ?_ | with_reducible refine ok_lst ?_ | with_reducible refine dk_ins ?_ | with_reducible refine ok_ins ?_ | with_reducible refine lp_nx ?_ | with_reducible refine lp_rt ?_ | with_reducible refine lp_ct ?_ | with_reducible refine lp_bk ?_ | with_reducible refine wp_bk ?_ | with_reducible refine wp_ctn ?_
  | with_reducible refine wp_if ?_ | with_reducible refine wp_ret ?_ | with_reducible refine wp_set ?_ | with_reducible refine wp_setN ?_ | with_reducible refine wp_retN ?_ | with_reducible refine wp_retNew ?_ | with_reducible refine wp_brk ?_ | with_reducible refine wp_ct ?_
  | with_reducible refine wp_f0 ?_ | with_reducible refine wp_f1 ?_ | with_reducible refine wp_f2 ?_
  | ((with_reducible apply wp_look); rfl) | ((with_reducible apply wp_var); rfl) | ((with_reducible apply wp_lookL); rfl) | ((with_reducible apply wp_lookI); rfl) | ((with_reducible apply wp_vVarO); rfl) | with_reducible refine wp_setP ?_ | with_reducible refine wp_cls ?_ | ((with_reducible apply wp_sup); rfl) | ((with_reducible apply wp_retVar); rfl) | ((with_reducible apply wp_retVarO); rfl)
  | with_reducible refine wp_and ?_ | with_reducible refine wp_tand ?_ | with_reducible refine wp_tor ?_ | with_reducible refine wp_tnot ?_ | with_reducible refine wp_fIf ?_
  | with_reducible refine wp_call ?_ | with_reducible refine wp_nCall ?_ | with_reducible refine wp_mth ?_ | with_reducible refine wp_prop ?_ | ((with_reducible apply wp_vVar); rfl) | with_reducible refine wp_vVal ?_
  | with_reducible refine wp_aNil ?_ | with_reducible refine wp_aVal ?_ | with_reducible refine wp_aNew ?_
  | ((with_reducible apply wp_aVar); rfl) | ((with_reducible apply wp_aVarS); rfl) | ((with_reducible apply wp_aVarW); rfl)
  | ((with_reducible apply wp_frz); rfl) | ((with_reducible apply wp_frzV); rfl)
  | with_reducible refine wp_tup ?_ | with_reducible refine wp_nLst ?_ | with_reducible refine wp_fD ?_ | with_reducible refine wp_iArgs ?_ | with_reducible refine wp_iSeq ?_ | with_reducible refine wp_for ?_
  | with_reducible refine wp_expr ?_ | with_reducible refine wp_makeS ?_ | ((with_reducible apply wp_makeL); rfl) | with_reducible refine wp_aCls ?_ | with_reducible refine wp_addO ?_ | with_reducible refine wp_exI ?_ | with_reducible refine wp_fJ0 ?_ | with_reducible refine wp_fJ1 ?_ | with_reducible refine wp_exS ?_ | with_reducible refine wp_s1 ?_ | with_reducible refine wp_n1 ?_ | with_reducible refine wp_aStar ?_ | with_reducible refine wp_par ?_ | with_reducible refine wp_asg ?_ | with_reducible refine wp_sl2 ?_
  | with_reducible refine wp_chain ?_ | with_reducible refine wp_or ?_ | with_reducible refine wp_exb ?_ | with_reducible refine wp_ex gt_nm ?_ | with_reducible refine wp_ex gt_2 ?_ | with_reducible refine wp_ex gt_2l ?_ | ((with_reducible apply wp_ex); first | with_reducible exact q_rvO | with_reducible exact q_dlL | with_reducible exact q_dlT | with_reducible exact q_strR | with_reducible exact q_isC_non | with_reducible exact q_isC_bl | with_reducible exact q_isC_int | with_reducible exact q_isC_str | with_reducible exact q_isC_lst | with_reducible exact q_isC_tup | with_reducible exact q_isC_ins rfl | with_reducible exact dEq_int _ _ | with_reducible exact dNe_int _ _ | with_reducible exact q_add | with_reducible exact q_sub | with_reducible exact q_lt | with_reducible exact q_le | with_reducible exact q_gt | with_reducible exact q_ge | with_reducible exact q_max2 | with_reducible exact q_min2 | with_reducible exact q_neg | with_reducible exact q_bl | with_reducible exact q_not | with_reducible exact q_trB | with_reducible exact q_trI | with_reducible exact q_trL | with_reducible exact q_trT | with_reducible exact q_lenL | with_reducible exact q_lenT | with_reducible exact q_itL | with_reducible exact q_itT | with_reducible exact q_int | with_reducible exact q_tupL | with_reducible exact q_tupT | with_reducible exact q_lstL | with_reducible exact q_lstT | with_reducible exact q_isN_non | with_reducible exact q_notN_non | with_reducible exact q_isNB_non | with_reducible exact q_notNB_non | with_reducible exact q_i_int_non | with_reducible exact q_i_bool_non | with_reducible exact q_i_str_non | with_reducible exact q_i_tuple_non | with_reducible exact q_i_list_non | with_reducible exact q_isN_bl | with_reducible exact q_notN_bl | with_reducible exact q_isNB_bl | with_reducible exact q_notNB_bl | with_reducible exact q_i_int_bl | with_reducible exact q_i_bool_bl | with_reducible exact q_i_str_bl | with_reducible exact q_i_tuple_bl | with_reducible exact q_i_list_bl | with_reducible exact q_isN_int | with_reducible exact q_notN_int | with_reducible exact q_isNB_int | with_reducible exact q_notNB_int | with_reducible exact q_i_int_int | with_reducible exact q_i_bool_int | with_reducible exact q_i_str_int | with_reducible exact q_i_tuple_int | with_reducible exact q_i_list_int | with_reducible exact q_isN_str | with_reducible exact q_notN_str | with_reducible exact q_isNB_str | with_reducible exact q_notNB_str | with_reducible exact q_i_int_str | with_reducible exact q_i_bool_str | with_reducible exact q_i_str_str | with_reducible exact q_i_tuple_str | with_reducible exact q_i_list_str | with_reducible exact q_isN_lst | with_reducible exact q_notN_lst | with_reducible exact q_isNB_lst | with_reducible exact q_notNB_lst | with_reducible exact q_i_int_lst | with_reducible exact q_i_bool_lst | with_reducible exact q_i_str_lst | with_reducible exact q_i_tuple_lst | with_reducible exact q_i_list_lst | with_reducible exact q_isN_tup | with_reducible exact q_notN_tup | with_reducible exact q_isNB_tup | with_reducible exact q_notNB_tup | with_reducible exact q_i_int_tup | with_reducible exact q_i_bool_tup | with_reducible exact q_i_str_tup | with_reducible exact q_i_tuple_tup | with_reducible exact q_i_list_tup | with_reducible exact q_fld | with_reducible exact q_al0 | with_reducible exact q_al1 | with_reducible exact q_al2 | with_reducible exact q_al3 | with_reducible exact q_al4 | with_reducible exact q_al5 | with_reducible exact q_al6 | with_reducible exact q_al7 | with_reducible exact q_al8 | ((with_reducible show FC.putAll _ _ _ = some _); rfl)) | ((with_reducible apply wp_exP); ((with_reducible show FC.avC _ _ = some _); rfl)) | ((with_reducible apply wp_exbl); first | with_reducible exact q_le | with_reducible exact q_lt | with_reducible exact q_ge | with_reducible exact q_gt | with_reducible exact dEq_int _ _ | with_reducible exact dNe_int _ _)
  | with_reducible refine ifTt ?_ | with_reducible refine ifFf ?_ | with_reducible refine ifNt ?_ | with_reducible refine ifNf ?_
  | with_reducible refine wp_lk1 (by decide) ?_ | with_reducible refine wp_lk2 (by decide) (by decide) ?_ | with_reducible refine wp_lk3 (by decide) (by decide) (by decide) ?_ | ((with_reducible apply wp_avm); rfl)
  | ((with_reducible apply wp_szR); rfl))))
/-! ### draws -/
theorem draw_ok (t : Option Nat) (a b c n : Int) (h0 : 0 < n) (h1 : n < 1073741824) : ∃ (r a' b' c' : Int) (s2 s3 : SV), 0 ≤ r ∧ r < n ∧ b__law_draw (padG 4 [.own t (.lst [.int a, .int b, .int c]), .val (.int n)]) = .ok (.ret (.val (.int r))) [.own t (.lst [.int a', .int b', .int c']), .val (.int n), s2, s3] := by
  by_cases h : 0 < a
  · refine ⟨a % n, a / n, b, c, .val (.int (a % n)), .none, Int.emod_nonneg _ (by omega), Int.emod_lt_of_pos _ h0, ?_⟩
    simp [b__law_draw, padG, sSeq, sIf, f1, f2, F.bind, fLook, f0, liftO, dGt, dBl, dIx, atI, ixN, h, h0, h1, dMod, dFdiv, sSet, sSetIx, oList, sRetVar]
  · obtain ⟨b', eb⟩ : ∃ b', b' = (b * 48271 + 1009 * (c + 1) + 7) % 2147483647 := ⟨_, rfl⟩
    obtain ⟨m, em⟩ : ∃ m, m = (b' * b' + 69621 * b' + 11) % 2147483629 := ⟨_, rfl⟩
    obtain ⟨m2, em2⟩ : ∃ m2, m2 = (m * m + 40014 * m) % 2147483587 := ⟨_, rfl⟩
    have hb0 : 0 ≤ b' := by rw [eb]; exact Int.emod_nonneg _ (by omega)
    have hb1 : b' < 2147483647 := by rw [eb]; exact Int.emod_lt_of_pos _ (by omega)
    have hm0 : 0 ≤ m := by rw [em]; exact Int.emod_nonneg _ (by omega)
    have hm1 : m < 2147483629 := by rw [em]; exact Int.emod_lt_of_pos _ (by omega)
    have kb : (-18446744073709551616 < b' ∧ b' < 18446744073709551616) := by omega
    have km : (-18446744073709551616 < m ∧ m < 18446744073709551616) := by omega
    refine ⟨m2 / 16 % n, a, b', c + 1, .none, .val (.int m2), Int.emod_nonneg _ (by omega), Int.emod_lt_of_pos _ h0, ?_⟩
    simp [b__law_draw, padG, sSeq, sIf, f1, f2, F.bind, fLook, f0, liftO, dGt, dBl, dIx, atI, ixN, h, h0, h1, dMod, dFdiv, dMulT, dMul, dAdd, sSet, sSetIx, oList, sRet, sNil, kb, km, ← eb, ← em, ← em2]
theorem draw_dr (n : Int) (h0 : 0 < n) (h1 : n < 1073741824) : Dr 4 b__law_draw [.int n] (fun v => ∃ k : Int, v = .int k ∧ 0 ≤ k ∧ k < n) := Dr.of fun t xs hp => by
  obtain ⟨a, b, c, rfl⟩ := hp
  obtain ⟨r, a', b', c', s2, s3, r0, r1, e⟩ := draw_ok t a b c n h0 h1
  exact wp_ok e ⟨.int r, [.int a', .int b', .int c'], [.val (.int n), s2, s3], rfl, rfl, ⟨a', b', c', rfl⟩, r, rfl, r0, r1⟩
theorem pen_ok (z : Int) : ∃ xs, Pen xs ∧ b__law_pen (padG 1 [.val (.int z)]) = .ok (.ret (.own (.lst xs))) [.val (.int z)] := by
  refine ⟨[.int (if z - 1000000000000000000 > 0 then z - 1000000000000000000 else 0), .int (z % 2147483629 + 1), .int 0], ⟨_, _, _, rfl⟩, ?_⟩
  simp [b__law_pen, padG, sRetNew, bindA_, f0A, f1A, f2A, liftS, liftN, seqA, ifA, retA, setA, setNA, exprA, nilA, aNilA, aValA, aNewA, callA, nCallA, fDA, vAndA, tAndA, tOrA, tNotA, fTupA, nLstA, iArgsA, forA, parA, nMakeSA, fLook, dPow, dSub, dMax2, dMod, dAdd, allD, dLst, sizeLine_eq]
theorem wpc_pen {γ : Gm} {E : Ex → Gm → Prop} {Q : RV → Gm → Prop} {z : Int} (q : ∀ xs, Pen xs → Q (.own (.lst xs)) γ) : WpC 1 b__law_pen [.d (.int z)] γ Q E := by
  obtain ⟨xs, hp, e⟩ := pen_ok z
  refine wpc_in (bind_d rfl) ?_
  rw [show ([D.int z].map SV.val) = [SV.val (.int z)] from rfl, e]
  exact ⟨_, rfl, q xs hp⟩
end G22
namespace G22
open PySem PySem.Spec PyProof.Rows L2 FC
local macro_rules | `(tactic| and_intros) => `(tactic| (repeat (first
  | with_reducible refine wp_seq ?_ | with_reducible refine wp_nx ?_ | with_reducible refine wp_rt ?_ | with_reducible refine wp_nil ?_ | with_reducible refine dk_val ?_ | with_reducible refine dk_lst ?_ | with_reducible refine ok_lst ?_ | with_reducible refine dk_ins ?_ | with_reducible refine ok_ins ?_ | with_reducible refine lp_nx ?_ | with_reducible refine lp_rt ?_ | with_reducible refine lp_ct ?_ | with_reducible refine lp_bk ?_ | with_reducible refine wp_bk ?_ | with_reducible refine wp_ctn ?_
  | with_reducible refine wp_if ?_ | with_reducible refine wp_ret ?_ | with_reducible refine wp_set ?_ | with_reducible refine wp_setN ?_ | with_reducible refine wp_retN ?_ | with_reducible refine wp_retNew ?_ | with_reducible refine wp_brk ?_ | with_reducible refine wp_ct ?_
  | with_reducible refine wp_f0 ?_ | with_reducible refine wp_f1 ?_ | with_reducible refine wp_f2 ?_
  | ((with_reducible apply wp_look); rfl) | ((with_reducible apply wp_var); rfl) | ((with_reducible apply wp_lookL); rfl) | ((with_reducible apply wp_lookI); rfl) | ((with_reducible apply wp_vVarO); rfl) | with_reducible refine wp_setP ?_ | with_reducible refine wp_cls ?_ | ((with_reducible apply wp_sup); rfl) | ((with_reducible apply wp_retVar); rfl) | ((with_reducible apply wp_retVarO); rfl)
  | with_reducible refine wp_and ?_ | with_reducible refine wp_tand ?_ | with_reducible refine wp_tor ?_ | with_reducible refine wp_tnot ?_ | with_reducible refine wp_fIf ?_
  | with_reducible refine wp_call ?_ | with_reducible refine wp_nCall ?_ | with_reducible refine wp_mth ?_ | with_reducible refine wp_prop ?_ | ((with_reducible apply wp_vVar); rfl) | with_reducible refine wp_vVal ?_
  | with_reducible refine wp_aNil ?_ | with_reducible refine wp_aVal ?_ | with_reducible refine wp_aNew ?_
  | ((with_reducible apply wp_aVar); rfl) | ((with_reducible apply wp_aVarS); rfl) | ((with_reducible apply wp_aVarW); rfl)
  | ((with_reducible apply wp_frz); rfl) | ((with_reducible apply wp_frzV); rfl)
  | with_reducible refine wp_tup ?_ | with_reducible refine wp_nLst ?_ | with_reducible refine wp_fD ?_ | with_reducible refine wp_iArgs ?_ | with_reducible refine wp_iSeq ?_ | with_reducible refine wp_for ?_
  | with_reducible refine wp_expr ?_ | with_reducible refine wp_makeS ?_ | ((with_reducible apply wp_makeL); rfl) | with_reducible refine wp_aCls ?_ | with_reducible refine wp_addO ?_ | with_reducible refine wp_exI ?_ | with_reducible refine wp_fJ0 ?_ | with_reducible refine wp_fJ1 ?_ | with_reducible refine wp_exS ?_ | with_reducible refine wp_s1 ?_ | with_reducible refine wp_n1 ?_ | with_reducible refine wp_aStar ?_ | with_reducible refine wp_par ?_ | with_reducible refine wp_asg ?_ | with_reducible refine wp_sl2 ?_
  | with_reducible refine wp_chain ?_ | with_reducible refine wp_or ?_ | with_reducible refine wp_exb ?_ | with_reducible refine wp_ex gt_nm ?_ | with_reducible refine wp_ex gt_2 ?_ | with_reducible refine wp_ex gt_2l ?_ | ((with_reducible apply wp_ex); first | with_reducible exact q_rvO | with_reducible exact q_dlL | with_reducible exact q_dlT | with_reducible exact q_strR | with_reducible exact q_isC_non | with_reducible exact q_isC_bl | with_reducible exact q_isC_int | with_reducible exact q_isC_str | with_reducible exact q_isC_lst | with_reducible exact q_isC_tup | with_reducible exact q_isC_ins rfl | with_reducible exact dEq_int _ _ | with_reducible exact dNe_int _ _ | with_reducible exact q_add | with_reducible exact q_sub | with_reducible exact q_lt | with_reducible exact q_le | with_reducible exact q_gt | with_reducible exact q_ge | with_reducible exact q_max2 | with_reducible exact q_min2 | with_reducible exact q_neg | with_reducible exact q_bl | with_reducible exact q_not | with_reducible exact q_trB | with_reducible exact q_trI | with_reducible exact q_trL | with_reducible exact q_trT | with_reducible exact q_lenL | with_reducible exact q_lenT | with_reducible exact q_itL | with_reducible exact q_itT | with_reducible exact q_int | with_reducible exact q_tupL | with_reducible exact q_tupT | with_reducible exact q_lstL | with_reducible exact q_lstT | with_reducible exact q_isN_non | with_reducible exact q_notN_non | with_reducible exact q_isNB_non | with_reducible exact q_notNB_non | with_reducible exact q_i_int_non | with_reducible exact q_i_bool_non | with_reducible exact q_i_str_non | with_reducible exact q_i_tuple_non | with_reducible exact q_i_list_non | with_reducible exact q_isN_bl | with_reducible exact q_notN_bl | with_reducible exact q_isNB_bl | with_reducible exact q_notNB_bl | with_reducible exact q_i_int_bl | with_reducible exact q_i_bool_bl | with_reducible exact q_i_str_bl | with_reducible exact q_i_tuple_bl | with_reducible exact q_i_list_bl | with_reducible exact q_isN_int | with_reducible exact q_notN_int | with_reducible exact q_isNB_int | with_reducible exact q_notNB_int | with_reducible exact q_i_int_int | with_reducible exact q_i_bool_int | with_reducible exact q_i_str_int | with_reducible exact q_i_tuple_int | with_reducible exact q_i_list_int | with_reducible exact q_isN_str | with_reducible exact q_notN_str | with_reducible exact q_isNB_str | with_reducible exact q_notNB_str | with_reducible exact q_i_int_str | with_reducible exact q_i_bool_str | with_reducible exact q_i_str_str | with_reducible exact q_i_tuple_str | with_reducible exact q_i_list_str | with_reducible exact q_isN_lst | with_reducible exact q_notN_lst | with_reducible exact q_isNB_lst | with_reducible exact q_notNB_lst | with_reducible exact q_i_int_lst | with_reducible exact q_i_bool_lst | with_reducible exact q_i_str_lst | with_reducible exact q_i_tuple_lst | with_reducible exact q_i_list_lst | with_reducible exact q_isN_tup | with_reducible exact q_notN_tup | with_reducible exact q_isNB_tup | with_reducible exact q_notNB_tup | with_reducible exact q_i_int_tup | with_reducible exact q_i_bool_tup | with_reducible exact q_i_str_tup | with_reducible exact q_i_tuple_tup | with_reducible exact q_i_list_tup | with_reducible exact q_fld | with_reducible exact q_al0 | with_reducible exact q_al1 | with_reducible exact q_al2 | with_reducible exact q_al3 | with_reducible exact q_al4 | with_reducible exact q_al5 | with_reducible exact q_al6 | with_reducible exact q_al7 | with_reducible exact q_al8 | ((with_reducible show FC.putAll _ _ _ = some _); rfl)) | ((with_reducible apply wp_exP); ((with_reducible show FC.avC _ _ = some _); rfl)) | ((with_reducible apply wp_exbl); first | with_reducible exact q_le | with_reducible exact q_lt | with_reducible exact q_ge | with_reducible exact q_gt | with_reducible exact dEq_int _ _ | with_reducible exact dNe_int _ _)
  | with_reducible refine ifTt ?_ | with_reducible refine ifFf ?_ | with_reducible refine ifNt ?_ | with_reducible refine ifNf ?_
  | with_reducible refine wp_lk1 (by decide) ?_ | with_reducible refine wp_lk2 (by decide) (by decide) ?_ | with_reducible refine wp_lk3 (by decide) (by decide) (by decide) ?_ | ((with_reducible apply wp_avm); rfl)
  | ((with_reducible apply wp_szR); rfl))))
/-! ### a cell of the script -/
theorem cell_ok : CellOk b__law_cell_at := fun ns sv k h => by
  have h1 : Wp (b__law_cell_at [sv, .val (.int k)]) (fun f g => ∃ z : Int, f = .ret (.val (.int z)) ∧ g = [sv, .val (.int k)]) FC.E0 := by
    unfold b__law_cell_at
    and_intros
    refine wp_seeLen h rfl ?_
    and_intros
    refine ifd (fun hk => ?_) (fun hk => ?_)
    · and_intros
      refine wp_seeIx h rfl ?_
      and_intros
      have hk : k < ns.length := by omega
      exact ⟨k, ns[k], rfl, List.getElem?_eq_getElem hk, _, rfl, rfl⟩
    · and_intros
      exact ⟨0, rfl, rfl⟩
  obtain ⟨f, g, e, z, rfl, rfl⟩ := h1.out
  exact ⟨z, e⟩
end G22
namespace G22
open PySem PySem.Spec PyProof.Rows L2 FC
local macro_rules | `(tactic| and_intros) => `(tactic| (repeat (first
  | with_reducible refine wp_seq ?_ | with_reducible refine wp_nx ?_ | with_reducible refine wp_rt ?_ | with_reducible refine wp_nil ?_ | with_reducible refine dk_val ?_ | with_reducible refine dk_lst ?_ | with_reducible refine ok_lst ?_ | with_reducible refine dk_ins ?_ | with_reducible refine ok_ins ?_ | with_reducible refine lp_nx ?_ | with_reducible refine lp_rt ?_ | with_reducible refine lp_ct ?_ | with_reducible refine lp_bk ?_ | with_reducible refine wp_bk ?_ | with_reducible refine wp_ctn ?_
  | with_reducible refine wp_if ?_ | with_reducible refine wp_ret ?_ | with_reducible refine wp_set ?_ | with_reducible refine wp_setN ?_ | with_reducible refine wp_retN ?_ | with_reducible refine wp_retNew ?_ | with_reducible refine wp_brk ?_ | with_reducible refine wp_ct ?_
  | with_reducible refine wp_f0 ?_ | with_reducible refine wp_f1 ?_ | with_reducible refine wp_f2 ?_
  | ((with_reducible apply wp_look); rfl) | ((with_reducible apply wp_var); rfl) | ((with_reducible apply wp_lookL); rfl) | ((with_reducible apply wp_lookI); rfl) | ((with_reducible apply wp_vVarO); rfl) | with_reducible refine wp_setP ?_ | with_reducible refine wp_cls ?_ | ((with_reducible apply wp_sup); rfl) | ((with_reducible apply wp_retVar); rfl) | ((with_reducible apply wp_retVarO); rfl)
  | with_reducible refine wp_and ?_ | with_reducible refine wp_tand ?_ | with_reducible refine wp_tor ?_ | with_reducible refine wp_tnot ?_ | with_reducible refine wp_fIf ?_
  | with_reducible refine wp_call ?_ | with_reducible refine wp_nCall ?_ | with_reducible refine wp_mth ?_ | with_reducible refine wp_prop ?_ | ((with_reducible apply wp_vVar); rfl) | with_reducible refine wp_vVal ?_
  | with_reducible refine wp_aNil ?_ | with_reducible refine wp_aVal ?_ | with_reducible refine wp_aNew ?_
  | ((with_reducible apply wp_aVar); rfl) | ((with_reducible apply wp_aVarS); rfl) | ((with_reducible apply wp_aVarW); rfl)
  | ((with_reducible apply wp_frz); rfl) | ((with_reducible apply wp_frzV); rfl)
  | with_reducible refine wp_tup ?_ | with_reducible refine wp_nLst ?_ | with_reducible refine wp_fD ?_ | with_reducible refine wp_iArgs ?_ | with_reducible refine wp_iSeq ?_ | with_reducible refine wp_for ?_
  | with_reducible refine wp_expr ?_ | with_reducible refine wp_makeS ?_ | ((with_reducible apply wp_makeL); rfl) | with_reducible refine wp_aCls ?_ | with_reducible refine wp_addO ?_ | with_reducible refine wp_exI ?_ | with_reducible refine wp_fJ0 ?_ | with_reducible refine wp_fJ1 ?_ | with_reducible refine wp_exS ?_ | with_reducible refine wp_s1 ?_ | with_reducible refine wp_n1 ?_ | with_reducible refine wp_aStar ?_ | with_reducible refine wp_par ?_ | with_reducible refine wp_asg ?_ | with_reducible refine wp_sl2 ?_
  | with_reducible refine wp_chain ?_ | with_reducible refine wp_or ?_ | with_reducible refine wp_exb ?_ | with_reducible refine wp_ex gt_nm ?_ | with_reducible refine wp_ex gt_2 ?_ | with_reducible refine wp_ex gt_2l ?_ | ((with_reducible apply wp_ex); first | with_reducible exact q_rvO | with_reducible exact q_dlL | with_reducible exact q_dlT | with_reducible exact q_strR | with_reducible exact q_isC_non | with_reducible exact q_isC_bl | with_reducible exact q_isC_int | with_reducible exact q_isC_str | with_reducible exact q_isC_lst | with_reducible exact q_isC_tup | with_reducible exact q_isC_ins rfl | with_reducible exact dEq_int _ _ | with_reducible exact dNe_int _ _ | with_reducible exact q_add | with_reducible exact q_sub | with_reducible exact q_lt | with_reducible exact q_le | with_reducible exact q_gt | with_reducible exact q_ge | with_reducible exact q_max2 | with_reducible exact q_min2 | with_reducible exact q_neg | with_reducible exact q_bl | with_reducible exact q_not | with_reducible exact q_trB | with_reducible exact q_trI | with_reducible exact q_trL | with_reducible exact q_trT | with_reducible exact q_lenL | with_reducible exact q_lenT | with_reducible exact q_itL | with_reducible exact q_itT | with_reducible exact q_int | with_reducible exact q_tupL | with_reducible exact q_tupT | with_reducible exact q_lstL | with_reducible exact q_lstT | with_reducible exact q_isN_non | with_reducible exact q_notN_non | with_reducible exact q_isNB_non | with_reducible exact q_notNB_non | with_reducible exact q_i_int_non | with_reducible exact q_i_bool_non | with_reducible exact q_i_str_non | with_reducible exact q_i_tuple_non | with_reducible exact q_i_list_non | with_reducible exact q_isN_bl | with_reducible exact q_notN_bl | with_reducible exact q_isNB_bl | with_reducible exact q_notNB_bl | with_reducible exact q_i_int_bl | with_reducible exact q_i_bool_bl | with_reducible exact q_i_str_bl | with_reducible exact q_i_tuple_bl | with_reducible exact q_i_list_bl | with_reducible exact q_isN_int | with_reducible exact q_notN_int | with_reducible exact q_isNB_int | with_reducible exact q_notNB_int | with_reducible exact q_i_int_int | with_reducible exact q_i_bool_int | with_reducible exact q_i_str_int | with_reducible exact q_i_tuple_int | with_reducible exact q_i_list_int | with_reducible exact q_isN_str | with_reducible exact q_notN_str | with_reducible exact q_isNB_str | with_reducible exact q_notNB_str | with_reducible exact q_i_int_str | with_reducible exact q_i_bool_str | with_reducible exact q_i_str_str | with_reducible exact q_i_tuple_str | with_reducible exact q_i_list_str | with_reducible exact q_isN_lst | with_reducible exact q_notN_lst | with_reducible exact q_isNB_lst | with_reducible exact q_notNB_lst | with_reducible exact q_i_int_lst | with_reducible exact q_i_bool_lst | with_reducible exact q_i_str_lst | with_reducible exact q_i_tuple_lst | with_reducible exact q_i_list_lst | with_reducible exact q_isN_tup | with_reducible exact q_notN_tup | with_reducible exact q_isNB_tup | with_reducible exact q_notNB_tup | with_reducible exact q_i_int_tup | with_reducible exact q_i_bool_tup | with_reducible exact q_i_str_tup | with_reducible exact q_i_tuple_tup | with_reducible exact q_i_list_tup | with_reducible exact q_fld | with_reducible exact q_al0 | with_reducible exact q_al1 | with_reducible exact q_al2 | with_reducible exact q_al3 | with_reducible exact q_al4 | with_reducible exact q_al5 | with_reducible exact q_al6 | with_reducible exact q_al7 | with_reducible exact q_al8 | ((with_reducible show FC.putAll _ _ _ = some _); rfl)) | ((with_reducible apply wp_exP); ((with_reducible show FC.avC _ _ = some _); rfl)) | ((with_reducible apply wp_exbl); first | with_reducible exact q_le | with_reducible exact q_lt | with_reducible exact q_ge | with_reducible exact q_gt | with_reducible exact dEq_int _ _ | with_reducible exact dNe_int _ _)
  | with_reducible refine ifTt ?_ | with_reducible refine ifFf ?_ | with_reducible refine ifNt ?_ | with_reducible refine ifNf ?_
  | with_reducible refine wp_lk1 (by decide) ?_ | with_reducible refine wp_lk2 (by decide) (by decide) ?_ | with_reducible refine wp_lk3 (by decide) (by decide) (by decide) ?_ | ((with_reducible apply wp_avm); rfl)
  | ((with_reducible apply wp_szR); rfl))))
/-! ### is it a limit? of a value of any kind -/
def i20 : D → Bool
  | .int z => decide (1 ≤ z ∧ z ≤ 20)
  | _ => false
def isI (d : D) : Bool := isIntD d && !isBlD d
theorem isinteger_any {d : D} (h : kndA [0, 1] d = true) : Rt 1 b_is_integer [d] (.bl (isI d)) := by
  refine Rt.of ?_
  unfold b_is_integer isI
  and_intros
  refine wp_ex (isInt_rt h) ?_
  cases isIntD d
  · and_intros
    rfl
  · and_intros
    refine wp_ex (isBl_rt h) ?_
    and_intros
    rfl
theorem isI_int {d : D} (h : isI d = true) : ∃ z, d = .int z := by
  cases d with
  | int z => exact ⟨z, rfl⟩
  | bl _ => cases h
  | _ => cases h
theorem isbetween_any {d : D} (h : kndA [0, 1] d = true) (a c : Int) : ∃ k, Rt 3 b_is_between [d, .int a, .int c] (.bl k) ∧ (k = true ↔ ∃ z, d = .int z ∧ a ≤ z ∧ z ≤ c) := by
  cases e : isI d with
  | false =>
    refine ⟨false, Rt.of ?_, by simp, fun ⟨z, w, _⟩ => by subst w; cases e⟩
    unfold b_is_between
    and_intros
    refine wpc_rt (isinteger_any h) rfl ?_
    rw [e]
    and_intros
    rfl
  | true =>
    obtain ⟨z, rfl⟩ := isI_int e
    refine ⟨decide (a ≤ z ∧ z ≤ c), Rt.of ?_, by rw [decide_eq_true_iff]; exact ⟨fun w => ⟨z, rfl, w⟩, fun ⟨y, w, k⟩ => by cases w; exact k⟩⟩
    unfold b_is_between
    and_intros
    refine wpc_rt (isinteger_any h) rfl ?_
    rw [e]
    and_intros
    refine ifd (fun h => ?_) (fun h => ?_)
    · and_intros
      simp [h]
    · simp [h]
theorem i20_iff {d : D} {k : Bool} (h : k = true ↔ ∃ z, d = .int z ∧ 1 ≤ z ∧ z ≤ 20) : k = i20 d := by
  rw [Bool.eq_iff_iff, h]
  constructor
  · rintro ⟨z, rfl, w⟩
    exact decide_eq_true w
  · intro w
    cases d with
    | int z => exact ⟨z, rfl, of_decide_eq_true w⟩
    | _ => cases w
theorem is20_any {d : D} (h : kndA [0, 1] d = true) : Rt 3 b_is_between [d, .int 1, .int 20] (.bl (i20 d)) := by
  obtain ⟨k, r, e⟩ := isbetween_any h 1 20
  rw [← i20_iff e]
  exact r
/-- a limit, as a value -/
def isL : D → Bool
  | .tup [a, b] => i20 a && i20 b
  | _ => false
theorem ispair_two {a b : D} (ha : kndA [0, 1] a = true) (hb : kndA [0, 1] b = true) : Rt 1 b_is_pair [.tup [a, b]] (.bl (i20 a && i20 b)) := by
  refine Rt.of ?_
  unfold b_is_pair
  and_intros
  refine wp_ex (isTup_rt rfl) ?_
  rw [show isTupD (.tup [a, b]) = true from rfl]
  and_intros
  refine ifN (by simp) ?_
  and_intros
  refine wp_ex (q_ixTE (k := 0) rfl rfl) ?_
  and_intros
  refine wpc_rt (is20_any ha) rfl ?_
  cases i20 a
  · and_intros
    rfl
  · and_intros
    refine wp_ex (q_ixTE (k := 1) rfl rfl) ?_
    and_intros
    refine wpc_rt (is20_any hb) rfl ?_
    rfl
/-- a value whose parts are plain enough to be looked at -/
def parts : D → Bool
  | .tup ds => ds.all (kndA [0, 1])
  | .ft _ => false
  | d => kndA [0, 1] d
theorem parts_knd {d : D} (h : parts d = true) : kndA [0, 1] d = true := by
  cases d with
  | tup _ => rfl
  | ft _ => cases h
  | _ => exact h
theorem two_of {ds : List D} (h : ds.length = 2) : ∃ a b, ds = [a, b] := by
  match ds, h with
  | [a, b], _ => exact ⟨a, b, rfl⟩
theorem isL_len {ds : List D} (h : ds.length ≠ 2) : isL (.tup ds) = false := by
  match ds, h with
  | [], _ => rfl
  | [_], _ => rfl
  | [_, _], h => exact absurd rfl h
  | _ :: _ :: _ :: _, _ => rfl
theorem isL_not {d : D} (h : isTupD d = false) : isL d = false := by
  cases d with
  | tup _ => cases h
  | _ => rfl
theorem ispair_any {d : D} (h : parts d = true) : Rt 1 b_is_pair [d] (.bl (isL d)) := by
  cases e : isTupD d with
  | false =>
    rw [isL_not e]
    refine Rt.of ?_
    unfold b_is_pair
    and_intros
    refine wp_ex (isTup_rt (parts_knd h)) ?_
    rw [e]
    and_intros
    rfl
  | true =>
    cases d with
    | tup ds =>
      by_cases l : ds.length = 2
      · obtain ⟨a, b, rfl⟩ := two_of l
        have k := h
        simp only [parts, List.all_cons, List.all_nil, Bool.and_true, Bool.and_eq_true] at k
        exact ispair_two k.1 k.2
      · rw [isL_len l]
        refine Rt.of ?_
        unfold b_is_pair
        and_intros
        refine wp_ex (isTup_rt rfl) ?_
        rw [show isTupD (.tup ds) = true from rfl]
        and_intros
        refine ifn (fun _ => ?_) (fun z => absurd z (by omega))
        and_intros
        rfl
    | ft _ => cases h
    | _ => cases e
/-! limits of ints -/
theorem limD_parts (p : Int × Int) : parts (limD p) = true := rfl
theorem limD_isL (p : Int × Int) : isL (limD p) = decide (In20 p) := by
  show (decide (1 ≤ p.1 ∧ p.1 ≤ 20) && decide (1 ≤ p.2 ∧ p.2 ≤ 20)) = _
  rw [← Bool.decide_and]
  unfold In20
  exact decide_eq_decide.mpr ⟨fun z => ⟨z.1.1, z.1.2, z.2.1, z.2.2⟩, fun z => ⟨⟨z.1, z.2.1⟩, z.2.2.1, z.2.2.2⟩⟩
theorem is_between_rt (i a c : Int) : Rt 3 b_is_between [.int i, .int a, .int c] (.bl (decide (a ≤ i ∧ i ≤ c))) := by
  obtain ⟨k, r, e⟩ := isbetween_any (d := .int i) rfl a c
  have : k = decide (a ≤ i ∧ i ≤ c) := by
    rw [Bool.eq_iff_iff, e, decide_eq_true_iff]
    exact ⟨fun ⟨z, w, h⟩ => by cases w; exact h, fun h => ⟨i, rfl, h⟩⟩
  rw [← this]
  exact r
theorem is_pair_rt (p : Int × Int) : Rt 1 b_is_pair [limD p] (.bl (decide (In20 p))) := by
  rw [← limD_isL]
  exact ispair_any (limD_parts p)
end G22
namespace G22
open PySem PySem.Spec PyProof.Rows L2 FC
local macro_rules | `(tactic| and_intros) => `(tactic| (repeat (first
  | with_reducible refine wp_seq ?_ | with_reducible refine wp_nx ?_ | with_reducible refine wp_rt ?_ | with_reducible refine wp_nil ?_ | with_reducible refine dk_val ?_ | with_reducible refine dk_lst ?_ | with_reducible refine ok_lst ?_ | with_reducible refine dk_ins ?_ | with_reducible refine ok_ins ?_ | with_reducible refine lp_nx ?_ | with_reducible refine lp_rt ?_ | with_reducible refine lp_ct ?_ | with_reducible refine lp_bk ?_ | with_reducible refine wp_bk ?_ | with_reducible refine wp_ctn ?_
  | with_reducible refine wp_if ?_ | with_reducible refine wp_ret ?_ | with_reducible refine wp_set ?_ | with_reducible refine wp_setN ?_ | with_reducible refine wp_retN ?_ | with_reducible refine wp_retNew ?_ | with_reducible refine wp_brk ?_ | with_reducible refine wp_ct ?_
  | with_reducible refine wp_f0 ?_ | with_reducible refine wp_f1 ?_ | with_reducible refine wp_f2 ?_
  | ((with_reducible apply wp_look); rfl) | ((with_reducible apply wp_var); rfl) | ((with_reducible apply wp_lookL); rfl) | ((with_reducible apply wp_lookI); rfl) | ((with_reducible apply wp_vVarO); rfl) | with_reducible refine wp_setP ?_ | with_reducible refine wp_cls ?_ | ((with_reducible apply wp_sup); rfl) | ((with_reducible apply wp_retVar); rfl) | ((with_reducible apply wp_retVarO); rfl)
  | with_reducible refine wp_and ?_ | with_reducible refine wp_tand ?_ | with_reducible refine wp_tor ?_ | with_reducible refine wp_tnot ?_ | with_reducible refine wp_fIf ?_
  | with_reducible refine wp_call ?_ | with_reducible refine wp_nCall ?_ | with_reducible refine wp_mth ?_ | with_reducible refine wp_prop ?_ | ((with_reducible apply wp_vVar); rfl) | with_reducible refine wp_vVal ?_
  | with_reducible refine wp_aNil ?_ | with_reducible refine wp_aVal ?_ | with_reducible refine wp_aNew ?_
  | ((with_reducible apply wp_aVar); rfl) | ((with_reducible apply wp_aVarS); rfl) | ((with_reducible apply wp_aVarW); rfl)
  | ((with_reducible apply wp_frz); rfl) | ((with_reducible apply wp_frzV); rfl)
  | with_reducible refine wp_tup ?_ | with_reducible refine wp_nLst ?_ | with_reducible refine wp_fD ?_ | with_reducible refine wp_iArgs ?_ | with_reducible refine wp_iSeq ?_ | with_reducible refine wp_for ?_
  | with_reducible refine wp_expr ?_ | with_reducible refine wp_makeS ?_ | ((with_reducible apply wp_makeL); rfl) | with_reducible refine wp_aCls ?_ | with_reducible refine wp_addO ?_ | with_reducible refine wp_exI ?_ | with_reducible refine wp_fJ0 ?_ | with_reducible refine wp_fJ1 ?_ | with_reducible refine wp_exS ?_ | with_reducible refine wp_s1 ?_ | with_reducible refine wp_n1 ?_ | with_reducible refine wp_aStar ?_ | with_reducible refine wp_par ?_ | with_reducible refine wp_asg ?_ | with_reducible refine wp_sl2 ?_
  | with_reducible refine wp_chain ?_ | with_reducible refine wp_or ?_ | with_reducible refine wp_exb ?_ | with_reducible refine wp_ex gt_nm ?_ | with_reducible refine wp_ex gt_2 ?_ | with_reducible refine wp_ex gt_2l ?_ | ((with_reducible apply wp_ex); first | with_reducible exact q_rvO | with_reducible exact q_dlL | with_reducible exact q_dlT | with_reducible exact q_strR | with_reducible exact q_isC_non | with_reducible exact q_isC_bl | with_reducible exact q_isC_int | with_reducible exact q_isC_str | with_reducible exact q_isC_lst | with_reducible exact q_isC_tup | with_reducible exact q_isC_ins rfl | with_reducible exact dEq_int _ _ | with_reducible exact dNe_int _ _ | with_reducible exact q_add | with_reducible exact q_sub | with_reducible exact q_lt | with_reducible exact q_le | with_reducible exact q_gt | with_reducible exact q_ge | with_reducible exact q_max2 | with_reducible exact q_min2 | with_reducible exact q_neg | with_reducible exact q_bl | with_reducible exact q_not | with_reducible exact q_trB | with_reducible exact q_trI | with_reducible exact q_trL | with_reducible exact q_trT | with_reducible exact q_lenL | with_reducible exact q_lenT | with_reducible exact q_itL | with_reducible exact q_itT | with_reducible exact q_int | with_reducible exact q_tupL | with_reducible exact q_tupT | with_reducible exact q_lstL | with_reducible exact q_lstT | with_reducible exact q_isN_non | with_reducible exact q_notN_non | with_reducible exact q_isNB_non | with_reducible exact q_notNB_non | with_reducible exact q_i_int_non | with_reducible exact q_i_bool_non | with_reducible exact q_i_str_non | with_reducible exact q_i_tuple_non | with_reducible exact q_i_list_non | with_reducible exact q_isN_bl | with_reducible exact q_notN_bl | with_reducible exact q_isNB_bl | with_reducible exact q_notNB_bl | with_reducible exact q_i_int_bl | with_reducible exact q_i_bool_bl | with_reducible exact q_i_str_bl | with_reducible exact q_i_tuple_bl | with_reducible exact q_i_list_bl | with_reducible exact q_isN_int | with_reducible exact q_notN_int | with_reducible exact q_isNB_int | with_reducible exact q_notNB_int | with_reducible exact q_i_int_int | with_reducible exact q_i_bool_int | with_reducible exact q_i_str_int | with_reducible exact q_i_tuple_int | with_reducible exact q_i_list_int | with_reducible exact q_isN_str | with_reducible exact q_notN_str | with_reducible exact q_isNB_str | with_reducible exact q_notNB_str | with_reducible exact q_i_int_str | with_reducible exact q_i_bool_str | with_reducible exact q_i_str_str | with_reducible exact q_i_tuple_str | with_reducible exact q_i_list_str | with_reducible exact q_isN_lst | with_reducible exact q_notN_lst | with_reducible exact q_isNB_lst | with_reducible exact q_notNB_lst | with_reducible exact q_i_int_lst | with_reducible exact q_i_bool_lst | with_reducible exact q_i_str_lst | with_reducible exact q_i_tuple_lst | with_reducible exact q_i_list_lst | with_reducible exact q_isN_tup | with_reducible exact q_notN_tup | with_reducible exact q_isNB_tup | with_reducible exact q_notNB_tup | with_reducible exact q_i_int_tup | with_reducible exact q_i_bool_tup | with_reducible exact q_i_str_tup | with_reducible exact q_i_tuple_tup | with_reducible exact q_i_list_tup | with_reducible exact q_fld | with_reducible exact q_al0 | with_reducible exact q_al1 | with_reducible exact q_al2 | with_reducible exact q_al3 | with_reducible exact q_al4 | with_reducible exact q_al5 | with_reducible exact q_al6 | with_reducible exact q_al7 | with_reducible exact q_al8 | ((with_reducible show FC.putAll _ _ _ = some _); rfl)) | ((with_reducible apply wp_exP); ((with_reducible show FC.avC _ _ = some _); rfl)) | ((with_reducible apply wp_exbl); first | with_reducible exact q_le | with_reducible exact q_lt | with_reducible exact q_ge | with_reducible exact q_gt | with_reducible exact dEq_int _ _ | with_reducible exact dNe_int _ _)
  | with_reducible refine ifTt ?_ | with_reducible refine ifFf ?_ | with_reducible refine ifNt ?_ | with_reducible refine ifNf ?_
  | with_reducible refine wp_lk1 (by decide) ?_ | with_reducible refine wp_lk2 (by decide) (by decide) ?_ | with_reducible refine wp_lk3 (by decide) (by decide) (by decide) ?_ | ((with_reducible apply wp_avm); rfl)
  | ((with_reducible apply wp_szR); rfl))))
/-! ### limits made -/
theorem are_pairs_rt {ps : List (Int × Int)} (G : Good ps) : Rt 2 b_are_pairs [.tup (limsD ps)] (.bl true) := by
  have few := G.few
  have hl : (limsD ps).length = ps.length := limsD_length ps
  have pos : 0 < ps.length := List.length_pos_iff.mpr G.ne
  refine Rt.of ?_
  unfold b_are_pairs
  and_intros
  refine ifd (fun _ => ?_) (fun h => absurd (show (0 : Int) < (limsD ps).length by omega) h)
  and_intros
  refine wp_lcA (fun _ => .bl true) ?_
  and_intros
  refine ⟨len_szN (by omega), rfl, fun d hd => ?_, ?_⟩
  · obtain ⟨p, hp, rfl⟩ := List.mem_map.mp hd
    refine ⟨_, gt_nm, ?_⟩
    and_intros
    refine wpc_rt (is_pair_rt p) rfl ?_
    and_intros
    exact ⟨by rw [decide_eq_true (G.ins p hp)], rfl⟩
  · and_intros
    refine wp_ex (show dAll (.lst (List.map (fun _ => D.bl true) (limsD ps))) = some (.bl true) by
      have e : List.map (fun _ => D.bl true) (limsD ps) = (ps.map fun _ => true).map D.bl := by simp [limsD]
      rw [e, q_all]
      simp) ?_
    and_intros
    refine wp_ex (dLenSet_pr G.nd (by omega)) ?_
    and_intros
    simp [hl]
theorem init_mk {ps : List (Int × Int)} (G : Good ps) : Mk1 0 2 b_Limits___init__ (limsD ps) [("kept", .tup (limsD ps))] := by
  have few := G.few
  have hl : (limsD ps).length = ps.length := limsD_length ps
  refine Mk1.of ?_
  unfold b_Limits___init__
  and_intros
  refine wpc_rt (are_pairs_rt G) rfl ?_
  and_intros
  refine ifd (fun h => absurd h (by omega)) (fun _ => ?_)
  and_intros
  refine wp_ok (a := .nx) (g := [.own (some 0) (.ins 0 [("kept", .tup (limsD ps))]), .val (.tup (limsD ps))]) ?_ ⟨rfl, _, rfl⟩
  simp [sSetF, fVar, oIns, putD, F.bind, padG]
theorem pairs_rt (ps : List (Int × Int)) : Rt 1 b_Limits_pairs [lim ps] (.tup (limsD ps)) := by
  refine Rt.of ?_
  unfold b_Limits_pairs
  and_intros
  rfl
end G22
namespace G22
open PySem PySem.Spec PyProof.Rows L2 FC
local macro_rules | `(tactic| and_intros) => `(tactic| (repeat (first
  | with_reducible refine wp_seq ?_ | with_reducible refine wp_nx ?_ | with_reducible refine wp_rt ?_ | with_reducible refine wp_nil ?_ | with_reducible refine dk_val ?_ | with_reducible refine dk_lst ?_ | with_reducible refine ok_lst ?_ | with_reducible refine dk_ins ?_ | with_reducible refine ok_ins ?_ | with_reducible refine lp_nx ?_ | with_reducible refine lp_rt ?_ | with_reducible refine lp_ct ?_ | with_reducible refine lp_bk ?_ | with_reducible refine wp_bk ?_ | with_reducible refine wp_ctn ?_
  | with_reducible refine wp_if ?_ | with_reducible refine wp_ret ?_ | with_reducible refine wp_set ?_ | with_reducible refine wp_setN ?_ | with_reducible refine wp_retN ?_ | with_reducible refine wp_retNew ?_ | with_reducible refine wp_brk ?_ | with_reducible refine wp_ct ?_
  | with_reducible refine wp_f0 ?_ | with_reducible refine wp_f1 ?_ | with_reducible refine wp_f2 ?_
  | ((with_reducible apply wp_look); rfl) | ((with_reducible apply wp_var); rfl) | ((with_reducible apply wp_lookL); rfl) | ((with_reducible apply wp_lookI); rfl) | ((with_reducible apply wp_vVarO); rfl) | with_reducible refine wp_setP ?_ | with_reducible refine wp_cls ?_ | ((with_reducible apply wp_sup); rfl) | ((with_reducible apply wp_retVar); rfl) | ((with_reducible apply wp_retVarO); rfl)
  | with_reducible refine wp_and ?_ | with_reducible refine wp_tand ?_ | with_reducible refine wp_tor ?_ | with_reducible refine wp_tnot ?_ | with_reducible refine wp_fIf ?_
  | with_reducible refine wp_call ?_ | with_reducible refine wp_nCall ?_ | with_reducible refine wp_mth ?_ | with_reducible refine wp_prop ?_ | ((with_reducible apply wp_vVar); rfl) | with_reducible refine wp_vVal ?_
  | with_reducible refine wp_aNil ?_ | with_reducible refine wp_aVal ?_ | with_reducible refine wp_aNew ?_
  | ((with_reducible apply wp_aVar); rfl) | ((with_reducible apply wp_aVarS); rfl) | ((with_reducible apply wp_aVarW); rfl)
  | ((with_reducible apply wp_frz); rfl) | ((with_reducible apply wp_frzV); rfl)
  | with_reducible refine wp_tup ?_ | with_reducible refine wp_nLst ?_ | with_reducible refine wp_fD ?_ | with_reducible refine wp_iArgs ?_ | with_reducible refine wp_iSeq ?_ | with_reducible refine wp_for ?_
  | with_reducible refine wp_expr ?_ | with_reducible refine wp_makeS ?_ | ((with_reducible apply wp_makeL); rfl) | with_reducible refine wp_aCls ?_ | with_reducible refine wp_addO ?_ | with_reducible refine wp_exI ?_ | with_reducible refine wp_fJ0 ?_ | with_reducible refine wp_fJ1 ?_ | with_reducible refine wp_exS ?_ | with_reducible refine wp_s1 ?_ | with_reducible refine wp_n1 ?_ | with_reducible refine wp_aStar ?_ | with_reducible refine wp_par ?_ | with_reducible refine wp_asg ?_ | with_reducible refine wp_sl2 ?_
  | with_reducible refine wp_chain ?_ | with_reducible refine wp_or ?_ | with_reducible refine wp_exb ?_ | with_reducible refine wp_ex gt_nm ?_ | with_reducible refine wp_ex gt_2 ?_ | with_reducible refine wp_ex gt_2l ?_ | ((with_reducible apply wp_ex); first | with_reducible exact q_rvO | with_reducible exact q_dlL | with_reducible exact q_dlT | with_reducible exact q_strR | with_reducible exact q_isC_non | with_reducible exact q_isC_bl | with_reducible exact q_isC_int | with_reducible exact q_isC_str | with_reducible exact q_isC_lst | with_reducible exact q_isC_tup | with_reducible exact q_isC_ins rfl | with_reducible exact dEq_int _ _ | with_reducible exact dNe_int _ _ | with_reducible exact q_add | with_reducible exact q_sub | with_reducible exact q_lt | with_reducible exact q_le | with_reducible exact q_gt | with_reducible exact q_ge | with_reducible exact q_max2 | with_reducible exact q_min2 | with_reducible exact q_neg | with_reducible exact q_bl | with_reducible exact q_not | with_reducible exact q_trB | with_reducible exact q_trI | with_reducible exact q_trL | with_reducible exact q_trT | with_reducible exact q_lenL | with_reducible exact q_lenT | with_reducible exact q_itL | with_reducible exact q_itT | with_reducible exact q_int | with_reducible exact q_tupL | with_reducible exact q_tupT | with_reducible exact q_lstL | with_reducible exact q_lstT | with_reducible exact q_isN_non | with_reducible exact q_notN_non | with_reducible exact q_isNB_non | with_reducible exact q_notNB_non | with_reducible exact q_i_int_non | with_reducible exact q_i_bool_non | with_reducible exact q_i_str_non | with_reducible exact q_i_tuple_non | with_reducible exact q_i_list_non | with_reducible exact q_isN_bl | with_reducible exact q_notN_bl | with_reducible exact q_isNB_bl | with_reducible exact q_notNB_bl | with_reducible exact q_i_int_bl | with_reducible exact q_i_bool_bl | with_reducible exact q_i_str_bl | with_reducible exact q_i_tuple_bl | with_reducible exact q_i_list_bl | with_reducible exact q_isN_int | with_reducible exact q_notN_int | with_reducible exact q_isNB_int | with_reducible exact q_notNB_int | with_reducible exact q_i_int_int | with_reducible exact q_i_bool_int | with_reducible exact q_i_str_int | with_reducible exact q_i_tuple_int | with_reducible exact q_i_list_int | with_reducible exact q_isN_str | with_reducible exact q_notN_str | with_reducible exact q_isNB_str | with_reducible exact q_notNB_str | with_reducible exact q_i_int_str | with_reducible exact q_i_bool_str | with_reducible exact q_i_str_str | with_reducible exact q_i_tuple_str | with_reducible exact q_i_list_str | with_reducible exact q_isN_lst | with_reducible exact q_notN_lst | with_reducible exact q_isNB_lst | with_reducible exact q_notNB_lst | with_reducible exact q_i_int_lst | with_reducible exact q_i_bool_lst | with_reducible exact q_i_str_lst | with_reducible exact q_i_tuple_lst | with_reducible exact q_i_list_lst | with_reducible exact q_isN_tup | with_reducible exact q_notN_tup | with_reducible exact q_isNB_tup | with_reducible exact q_notNB_tup | with_reducible exact q_i_int_tup | with_reducible exact q_i_bool_tup | with_reducible exact q_i_str_tup | with_reducible exact q_i_tuple_tup | with_reducible exact q_i_list_tup | with_reducible exact q_fld | with_reducible exact q_al0 | with_reducible exact q_al1 | with_reducible exact q_al2 | with_reducible exact q_al3 | with_reducible exact q_al4 | with_reducible exact q_al5 | with_reducible exact q_al6 | with_reducible exact q_al7 | with_reducible exact q_al8 | ((with_reducible show FC.putAll _ _ _ = some _); rfl)) | ((with_reducible apply wp_exP); ((with_reducible show FC.avC _ _ = some _); rfl)) | ((with_reducible apply wp_exbl); first | with_reducible exact q_le | with_reducible exact q_lt | with_reducible exact q_ge | with_reducible exact q_gt | with_reducible exact dEq_int _ _ | with_reducible exact dNe_int _ _)
  | with_reducible refine ifTt ?_ | with_reducible refine ifFf ?_ | with_reducible refine ifNt ?_ | with_reducible refine ifNf ?_
  | with_reducible refine wp_lk1 (by decide) ?_ | with_reducible refine wp_lk2 (by decide) (by decide) ?_ | with_reducible refine wp_lk3 (by decide) (by decide) (by decide) ?_ | ((with_reducible apply wp_avm); rfl)
  | ((with_reducible apply wp_szR); rfl))))
theorem pick_dr {items : List D} (hne : items ≠ []) (hs : items.length ≤ 1000) : Dr 2 b__law_pick [.lst items] (fun v => v ∈ items) := Dr.of fun t xs hp => by
  have hl : 0 < items.length := List.length_pos_iff.mpr hne
  unfold b__law_pick
  and_intros
  refine wpc_dr (draw_dr items.length (by omega) (by omega)) rfl rfl hp ?_
  rintro v xs' hp' ⟨k, rfl, k0, k1⟩
  and_intros
  have hk : k.toNat < items.length := by omega
  refine wp_ex (q_ixE (k := k.toNat) (d := items[k.toNat]) (by omega) (List.getElem?_eq_getElem hk)) ?_
  exact ⟨_, xs', _, rfl, rfl, hp', List.getElem_mem hk⟩
end G22
namespace G22
open PySem PySem.Spec PyProof.Rows L2 FC
local macro_rules | `(tactic| and_intros) => `(tactic| (repeat (first
  | with_reducible refine wp_seq ?_ | with_reducible refine wp_nx ?_ | with_reducible refine wp_rt ?_ | with_reducible refine wp_nil ?_ | with_reducible refine dk_val ?_ | with_reducible refine dk_lst ?_ | with_reducible refine ok_lst ?_ | with_reducible refine dk_ins ?_ | with_reducible refine ok_ins ?_ | with_reducible refine lp_nx ?_ | with_reducible refine lp_rt ?_ | with_reducible refine lp_ct ?_ | with_reducible refine lp_bk ?_ | with_reducible refine wp_bk ?_ | with_reducible refine wp_ctn ?_
  | with_reducible refine wp_if ?_ | with_reducible refine wp_ret ?_ | with_reducible refine wp_set ?_ | with_reducible refine wp_setN ?_ | with_reducible refine wp_retN ?_ | with_reducible refine wp_retNew ?_ | with_reducible refine wp_brk ?_ | with_reducible refine wp_ct ?_
  | with_reducible refine wp_f0 ?_ | with_reducible refine wp_f1 ?_ | with_reducible refine wp_f2 ?_
  | ((with_reducible apply wp_look); rfl) | ((with_reducible apply wp_var); rfl) | ((with_reducible apply wp_lookL); rfl) | ((with_reducible apply wp_lookI); rfl) | ((with_reducible apply wp_vVarO); rfl) | with_reducible refine wp_setP ?_ | with_reducible refine wp_cls ?_ | ((with_reducible apply wp_sup); rfl) | ((with_reducible apply wp_retVar); rfl) | ((with_reducible apply wp_retVarO); rfl)
  | with_reducible refine wp_and ?_ | with_reducible refine wp_tand ?_ | with_reducible refine wp_tor ?_ | with_reducible refine wp_tnot ?_ | with_reducible refine wp_fIf ?_
  | with_reducible refine wp_call ?_ | with_reducible refine wp_nCall ?_ | with_reducible refine wp_mth ?_ | with_reducible refine wp_prop ?_ | ((with_reducible apply wp_vVar); rfl) | with_reducible refine wp_vVal ?_
  | with_reducible refine wp_aNil ?_ | with_reducible refine wp_aVal ?_ | with_reducible refine wp_aNew ?_
  | ((with_reducible apply wp_aVar); rfl) | ((with_reducible apply wp_aVarS); rfl) | ((with_reducible apply wp_aVarW); rfl)
  | ((with_reducible apply wp_frz); rfl) | ((with_reducible apply wp_frzV); rfl)
  | with_reducible refine wp_tup ?_ | with_reducible refine wp_nLst ?_ | with_reducible refine wp_fD ?_ | with_reducible refine wp_iArgs ?_ | with_reducible refine wp_iSeq ?_ | with_reducible refine wp_for ?_
  | with_reducible refine wp_expr ?_ | with_reducible refine wp_makeS ?_ | ((with_reducible apply wp_makeL); rfl) | with_reducible refine wp_aCls ?_ | with_reducible refine wp_addO ?_ | with_reducible refine wp_exI ?_ | with_reducible refine wp_fJ0 ?_ | with_reducible refine wp_fJ1 ?_ | with_reducible refine wp_exS ?_ | with_reducible refine wp_s1 ?_ | with_reducible refine wp_n1 ?_ | with_reducible refine wp_aStar ?_ | with_reducible refine wp_par ?_ | with_reducible refine wp_asg ?_ | with_reducible refine wp_sl2 ?_
  | with_reducible refine wp_chain ?_ | with_reducible refine wp_or ?_ | with_reducible refine wp_exb ?_ | with_reducible refine wp_ex gt_nm ?_ | with_reducible refine wp_ex gt_2 ?_ | with_reducible refine wp_ex gt_2l ?_ | ((with_reducible apply wp_ex); first | with_reducible exact q_rvO | with_reducible exact q_dlL | with_reducible exact q_dlT | with_reducible exact q_strR | with_reducible exact q_isC_non | with_reducible exact q_isC_bl | with_reducible exact q_isC_int | with_reducible exact q_isC_str | with_reducible exact q_isC_lst | with_reducible exact q_isC_tup | with_reducible exact q_isC_ins rfl | with_reducible exact dEq_int _ _ | with_reducible exact dNe_int _ _ | with_reducible exact q_add | with_reducible exact q_sub | with_reducible exact q_lt | with_reducible exact q_le | with_reducible exact q_gt | with_reducible exact q_ge | with_reducible exact q_max2 | with_reducible exact q_min2 | with_reducible exact q_neg | with_reducible exact q_bl | with_reducible exact q_not | with_reducible exact q_trB | with_reducible exact q_trI | with_reducible exact q_trL | with_reducible exact q_trT | with_reducible exact q_lenL | with_reducible exact q_lenT | with_reducible exact q_itL | with_reducible exact q_itT | with_reducible exact q_int | with_reducible exact q_tupL | with_reducible exact q_tupT | with_reducible exact q_lstL | with_reducible exact q_lstT | with_reducible exact q_isN_non | with_reducible exact q_notN_non | with_reducible exact q_isNB_non | with_reducible exact q_notNB_non | with_reducible exact q_i_int_non | with_reducible exact q_i_bool_non | with_reducible exact q_i_str_non | with_reducible exact q_i_tuple_non | with_reducible exact q_i_list_non | with_reducible exact q_isN_bl | with_reducible exact q_notN_bl | with_reducible exact q_isNB_bl | with_reducible exact q_notNB_bl | with_reducible exact q_i_int_bl | with_reducible exact q_i_bool_bl | with_reducible exact q_i_str_bl | with_reducible exact q_i_tuple_bl | with_reducible exact q_i_list_bl | with_reducible exact q_isN_int | with_reducible exact q_notN_int | with_reducible exact q_isNB_int | with_reducible exact q_notNB_int | with_reducible exact q_i_int_int | with_reducible exact q_i_bool_int | with_reducible exact q_i_str_int | with_reducible exact q_i_tuple_int | with_reducible exact q_i_list_int | with_reducible exact q_isN_str | with_reducible exact q_notN_str | with_reducible exact q_isNB_str | with_reducible exact q_notNB_str | with_reducible exact q_i_int_str | with_reducible exact q_i_bool_str | with_reducible exact q_i_str_str | with_reducible exact q_i_tuple_str | with_reducible exact q_i_list_str | with_reducible exact q_isN_lst | with_reducible exact q_notN_lst | with_reducible exact q_isNB_lst | with_reducible exact q_notNB_lst | with_reducible exact q_i_int_lst | with_reducible exact q_i_bool_lst | with_reducible exact q_i_str_lst | with_reducible exact q_i_tuple_lst | with_reducible exact q_i_list_lst | with_reducible exact q_isN_tup | with_reducible exact q_notN_tup | with_reducible exact q_isNB_tup | with_reducible exact q_notNB_tup | with_reducible exact q_i_int_tup | with_reducible exact q_i_bool_tup | with_reducible exact q_i_str_tup | with_reducible exact q_i_tuple_tup | with_reducible exact q_i_list_tup | with_reducible exact q_fld | with_reducible exact q_al0 | with_reducible exact q_al1 | with_reducible exact q_al2 | with_reducible exact q_al3 | with_reducible exact q_al4 | with_reducible exact q_al5 | with_reducible exact q_al6 | with_reducible exact q_al7 | with_reducible exact q_al8 | ((with_reducible show FC.putAll _ _ _ = some _); rfl)) | ((with_reducible apply wp_exP); ((with_reducible show FC.avC _ _ = some _); rfl)) | ((with_reducible apply wp_exbl); first | with_reducible exact q_le | with_reducible exact q_lt | with_reducible exact q_ge | with_reducible exact q_gt | with_reducible exact dEq_int _ _ | with_reducible exact dNe_int _ _)
  | with_reducible refine ifTt ?_ | with_reducible refine ifFf ?_ | with_reducible refine ifNt ?_ | with_reducible refine ifNf ?_
  | with_reducible refine wp_lk1 (by decide) ?_ | with_reducible refine wp_lk2 (by decide) (by decide) ?_ | with_reducible refine wp_lk3 (by decide) (by decide) (by decide) ?_ | ((with_reducible apply wp_avm); rfl)
  | ((with_reducible apply wp_szR); rfl))))
/-! ### limits drawn -/
theorem pairs_dr {many : Int} (h1 : 1 ≤ many) (h2 : many ≤ 6) : Dr 6 b__law_pairs [.int many] (fun v => ∃ ps, Good ps ∧ (ps.length : Int) ≤ many ∧ v = .tup (limsD ps)) := Dr.of fun t xs hp => by
  unfold b__law_pairs
  and_intros
  refine wpc_dr (pick_dr (items := [.int 3, .int 5, .int 9, .int 20]) (by simp) (by simp)) rfl rfl hp ?_
  rintro v xs hp hv
  obtain ⟨great, hg, hg2, rfl⟩ : ∃ great : Int, 1 ≤ great ∧ great ≤ 20 ∧ v = .int great := by
    simp only [List.mem_cons, List.not_mem_nil, or_false] at hv
    rcases hv with h | h | h | h <;> exact ⟨_, by omega, by omega, h⟩
  and_intros
  refine wpc_dr (draw_dr many (by omega) (by omega)) rfl rfl hp ?_
  rintro v xs hp ⟨k, rfl, k0, k1⟩
  and_intros
  refine wp_ex (q_rng1m (by omega)) ?_
  refine wp_forN (fun j g => ∃ (ws : List D) (ps : List (Int × Int)) (s4 s5 : SV), Pen ws ∧ ps.Nodup ∧ (∀ p ∈ ps, In20 p) ∧ ps.length ≤ j ∧ (0 < j → ps ≠ []) ∧ g = [.own t (.lst ws), .val (.int many), .val (.int great), .own none (.lst (limsD ps)), s4, s5]) ⟨xs, [], .none, .none, hp, List.nodup_nil, (fun _ h => nomatch h), Nat.le_refl _, (fun h => absurd h (Nat.lt_irrefl 0)), rfl⟩ ?_ ?_
  · rintro j g d hj hd ⟨ws, ps, s4, s5, hw, nd, hin, hlen, hne, rfl⟩
    rw [rngL_len] at hj
    refine ⟨_, gt_nm, ?_⟩
    unfold L__law_pairs_1
    and_intros
    refine wpc_dr (draw_dr great (by omega) (by omega)) rfl rfl hw ?_
    rintro v us hu ⟨a, rfl, a0, a1⟩
    and_intros
    refine wpc_dr (draw_dr great (by omega) (by omega)) rfl rfl hu ?_
    rintro v vs hv ⟨b, rfl, b0, b1⟩
    and_intros
    refine wp_ex (q_notInP (1 + a, 1 + b) ps) ?_
    and_intros
    refine ifn (fun hm => ?_) (fun hm => ?_)
    · refine wp_expr (wp_app ⟨⟨_, rfl⟩, ?_⟩)
      and_intros
      refine ⟨none, limsD ps, rfl, lt_szN (by rw [limsD_length]; omega), ?_⟩
      and_intros
      refine ⟨vs, ps ++ [(1 + a, 1 + b)], .val d, .val (limD (1 + a, 1 + b)), hv, ?_, ?_, ?_, ?_, ?_⟩
      · exact List.nodup_append.mpr ⟨nd, by simp, by
          intro x hx y hy
          simp only [List.mem_singleton] at hy
          subst hy
          exact fun q => hm (by rw [← q]; exact hx)⟩
      · intro q hq
        rcases List.mem_append.mp hq with h | h
        · exact hin q h
        · rw [List.mem_singleton.mp h]
          exact ⟨by simp; omega, by simp; omega, by simp; omega, by simp; omega⟩
      · rw [List.length_append, List.length_singleton]; omega
      · intro _; simp
      · rw [limsD_append]
        rfl
    · and_intros
      exact ⟨vs, ps, _, _, hv, nd, hin, by omega, fun _ => List.ne_nil_of_mem hm, rfl⟩
  · rintro g ⟨ws, ps, s4, s5, hw, nd, hin, hlen, hne, rfl⟩
    rw [rngL_len] at hlen hne
    and_intros
    exact ⟨_, ws, _, rfl, rfl, hw, ps, ⟨hne (by omega), nd, by omega, hin⟩, by omega, rfl⟩
end G22
namespace G22
open PySem PySem.Spec PyProof.Rows L2 FC
local macro_rules | `(tactic| and_intros) => `(tactic| (repeat (first
  | with_reducible refine wp_seq ?_ | with_reducible refine wp_nx ?_ | with_reducible refine wp_rt ?_ | with_reducible refine wp_nil ?_ | with_reducible refine dk_val ?_ | with_reducible refine dk_lst ?_ | with_reducible refine ok_lst ?_ | with_reducible refine dk_ins ?_ | with_reducible refine ok_ins ?_ | with_reducible refine lp_nx ?_ | with_reducible refine lp_rt ?_ | with_reducible refine lp_ct ?_ | with_reducible refine lp_bk ?_ | with_reducible refine wp_bk ?_ | with_reducible refine wp_ctn ?_
  | with_reducible refine wp_if ?_ | with_reducible refine wp_ret ?_ | with_reducible refine wp_set ?_ | with_reducible refine wp_setN ?_ | with_reducible refine wp_retN ?_ | with_reducible refine wp_retNew ?_ | with_reducible refine wp_brk ?_ | with_reducible refine wp_ct ?_
  | with_reducible refine wp_f0 ?_ | with_reducible refine wp_f1 ?_ | with_reducible refine wp_f2 ?_
  | ((with_reducible apply wp_look); rfl) | ((with_reducible apply wp_var); rfl) | ((with_reducible apply wp_lookL); rfl) | ((with_reducible apply wp_lookI); rfl) | ((with_reducible apply wp_vVarO); rfl) | with_reducible refine wp_setP ?_ | with_reducible refine wp_cls ?_ | ((with_reducible apply wp_sup); rfl) | ((with_reducible apply wp_retVar); rfl) | ((with_reducible apply wp_retVarO); rfl)
  | with_reducible refine wp_and ?_ | with_reducible refine wp_tand ?_ | with_reducible refine wp_tor ?_ | with_reducible refine wp_tnot ?_ | with_reducible refine wp_fIf ?_
  | with_reducible refine wp_call ?_ | with_reducible refine wp_nCall ?_ | with_reducible refine wp_mth ?_ | with_reducible refine wp_prop ?_ | ((with_reducible apply wp_vVar); rfl) | with_reducible refine wp_vVal ?_
  | with_reducible refine wp_aNil ?_ | with_reducible refine wp_aVal ?_ | with_reducible refine wp_aNew ?_
  | ((with_reducible apply wp_aVar); rfl) | ((with_reducible apply wp_aVarS); rfl) | ((with_reducible apply wp_aVarW); rfl)
  | ((with_reducible apply wp_frz); rfl) | ((with_reducible apply wp_frzV); rfl)
  | with_reducible refine wp_tup ?_ | with_reducible refine wp_nLst ?_ | with_reducible refine wp_fD ?_ | with_reducible refine wp_iArgs ?_ | with_reducible refine wp_iSeq ?_ | with_reducible refine wp_for ?_
  | with_reducible refine wp_expr ?_ | with_reducible refine wp_makeS ?_ | ((with_reducible apply wp_makeL); rfl) | with_reducible refine wp_aCls ?_ | with_reducible refine wp_addO ?_ | with_reducible refine wp_exI ?_ | with_reducible refine wp_fJ0 ?_ | with_reducible refine wp_fJ1 ?_ | with_reducible refine wp_exS ?_ | with_reducible refine wp_s1 ?_ | with_reducible refine wp_n1 ?_ | with_reducible refine wp_aStar ?_ | with_reducible refine wp_par ?_ | with_reducible refine wp_asg ?_ | with_reducible refine wp_sl2 ?_
  | with_reducible refine wp_chain ?_ | with_reducible refine wp_or ?_ | with_reducible refine wp_exb ?_ | with_reducible refine wp_ex gt_nm ?_ | with_reducible refine wp_ex gt_2 ?_ | with_reducible refine wp_ex gt_2l ?_ | ((with_reducible apply wp_ex); first | with_reducible exact q_rvO | with_reducible exact q_dlL | with_reducible exact q_dlT | with_reducible exact q_strR | with_reducible exact q_isC_non | with_reducible exact q_isC_bl | with_reducible exact q_isC_int | with_reducible exact q_isC_str | with_reducible exact q_isC_lst | with_reducible exact q_isC_tup | with_reducible exact q_isC_ins rfl | with_reducible exact dEq_int _ _ | with_reducible exact dNe_int _ _ | with_reducible exact q_add | with_reducible exact q_sub | with_reducible exact q_lt | with_reducible exact q_le | with_reducible exact q_gt | with_reducible exact q_ge | with_reducible exact q_max2 | with_reducible exact q_min2 | with_reducible exact q_neg | with_reducible exact q_bl | with_reducible exact q_not | with_reducible exact q_trB | with_reducible exact q_trI | with_reducible exact q_trL | with_reducible exact q_trT | with_reducible exact q_lenL | with_reducible exact q_lenT | with_reducible exact q_itL | with_reducible exact q_itT | with_reducible exact q_int | with_reducible exact q_tupL | with_reducible exact q_tupT | with_reducible exact q_lstL | with_reducible exact q_lstT | with_reducible exact q_isN_non | with_reducible exact q_notN_non | with_reducible exact q_isNB_non | with_reducible exact q_notNB_non | with_reducible exact q_i_int_non | with_reducible exact q_i_bool_non | with_reducible exact q_i_str_non | with_reducible exact q_i_tuple_non | with_reducible exact q_i_list_non | with_reducible exact q_isN_bl | with_reducible exact q_notN_bl | with_reducible exact q_isNB_bl | with_reducible exact q_notNB_bl | with_reducible exact q_i_int_bl | with_reducible exact q_i_bool_bl | with_reducible exact q_i_str_bl | with_reducible exact q_i_tuple_bl | with_reducible exact q_i_list_bl | with_reducible exact q_isN_int | with_reducible exact q_notN_int | with_reducible exact q_isNB_int | with_reducible exact q_notNB_int | with_reducible exact q_i_int_int | with_reducible exact q_i_bool_int | with_reducible exact q_i_str_int | with_reducible exact q_i_tuple_int | with_reducible exact q_i_list_int | with_reducible exact q_isN_str | with_reducible exact q_notN_str | with_reducible exact q_isNB_str | with_reducible exact q_notNB_str | with_reducible exact q_i_int_str | with_reducible exact q_i_bool_str | with_reducible exact q_i_str_str | with_reducible exact q_i_tuple_str | with_reducible exact q_i_list_str | with_reducible exact q_isN_lst | with_reducible exact q_notN_lst | with_reducible exact q_isNB_lst | with_reducible exact q_notNB_lst | with_reducible exact q_i_int_lst | with_reducible exact q_i_bool_lst | with_reducible exact q_i_str_lst | with_reducible exact q_i_tuple_lst | with_reducible exact q_i_list_lst | with_reducible exact q_isN_tup | with_reducible exact q_notN_tup | with_reducible exact q_isNB_tup | with_reducible exact q_notNB_tup | with_reducible exact q_i_int_tup | with_reducible exact q_i_bool_tup | with_reducible exact q_i_str_tup | with_reducible exact q_i_tuple_tup | with_reducible exact q_i_list_tup | with_reducible exact q_fld | with_reducible exact q_al0 | with_reducible exact q_al1 | with_reducible exact q_al2 | with_reducible exact q_al3 | with_reducible exact q_al4 | with_reducible exact q_al5 | with_reducible exact q_al6 | with_reducible exact q_al7 | with_reducible exact q_al8 | ((with_reducible show FC.putAll _ _ _ = some _); rfl)) | ((with_reducible apply wp_exP); ((with_reducible show FC.avC _ _ = some _); rfl)) | ((with_reducible apply wp_exbl); first | with_reducible exact q_le | with_reducible exact q_lt | with_reducible exact q_ge | with_reducible exact q_gt | with_reducible exact dEq_int _ _ | with_reducible exact dNe_int _ _)
  | with_reducible refine ifTt ?_ | with_reducible refine ifFf ?_ | with_reducible refine ifNt ?_ | with_reducible refine ifNf ?_
  | with_reducible refine wp_lk1 (by decide) ?_ | with_reducible refine wp_lk2 (by decide) (by decide) ?_ | with_reducible refine wp_lk3 (by decide) (by decide) (by decide) ?_ | ((with_reducible apply wp_avm); rfl)
  | ((with_reducible apply wp_szR); rfl))))
theorem ixLl {ps : List (Int × Int)} {k : Nat} {p : Int × Int} (h : ps[k]? = some p) : dIx (.lst (limsD ps)) (.int k) = some (limD p) := q_ixE rfl (by unfold limsD; rw [List.getElem?_map, h]; rfl)
/-! ### limits made one by one -/
theorem dirE {ps : List (Int × Int)} {k : Int} {f : F D} {rest : F Fl} {v : D} (hT : (ps.length : Int) = k → Wp (f [.val (.lst (limsD ps))]) (fun d _ => d = v) FC.E0) (hF : ¬ (ps.length : Int) = k → Wp (rest [.val (.lst (limsD ps))]) (fun f _ => f = .ret (.val v)) FC.E0) : Wp (sSeq (sIf (f1 dBl (f2 dEq (f1 dLen (fLook 0)) (f0 (.int k)))) (sRet f) sNil) rest [.val (.lst (limsD ps))]) (fun f _ => f = .ret (.val v)) FC.E0 := by
  and_intros
  rw [limsD_length]
  refine ifd (fun h => ?_) (fun h => ?_)
  · refine wp_ret ((hT h).imp fun d g e => ?_)
    subst e
    rfl
  · and_intros
    exact hF h
theorem mkQ {ps : List (Int × Int)} {ds : List D} {g : Gm} (G : Good ps) (e : ds = limsD ps) : ∃ fs, Mk1 0 2 b_Limits___init__ ds fs ∧ oK (fun d _ => d = lim ps) (.ins 0 fs) g := by
  subst e
  exact ⟨_, init_mk G, ok_ins rfl⟩
theorem dirM1 {p0 : Int × Int} (G : Good [p0]) : Wp (fD (nMakeS 0 2 b_Limits___init__ (aVal (f2 dIx (fLook 0) (f0 (.int 0))) aNil)) [.val (.lst (limsD [p0]))]) (fun d _ => d = lim [p0]) FC.E0 := by
  and_intros
  refine wp_ex (ixLl (k := 0) rfl) ?_
  and_intros
  exact mkQ G rfl
theorem dirM2 {p0 p1 : Int × Int} (G : Good [p0, p1]) : Wp (fD (nMakeS 0 2 b_Limits___init__ (aVal (f2 dIx (fLook 0) (f0 (.int 0))) (aVal (f2 dIx (fLook 0) (f0 (.int 1))) aNil))) [.val (.lst (limsD [p0, p1]))]) (fun d _ => d = lim [p0, p1]) FC.E0 := by
  and_intros
  refine wp_ex (ixLl (k := 0) rfl) ?_
  and_intros
  refine wp_ex (ixLl (k := 1) rfl) ?_
  and_intros
  exact mkQ G rfl
theorem dirM3 {p0 p1 p2 : Int × Int} (G : Good [p0, p1, p2]) : Wp (fD (nMakeS 0 2 b_Limits___init__ (aVal (f2 dIx (fLook 0) (f0 (.int 0))) (aVal (f2 dIx (fLook 0) (f0 (.int 1))) (aVal (f2 dIx (fLook 0) (f0 (.int 2))) aNil)))) [.val (.lst (limsD [p0, p1, p2]))]) (fun d _ => d = lim [p0, p1, p2]) FC.E0 := by
  and_intros
  refine wp_ex (ixLl (k := 0) rfl) ?_
  and_intros
  refine wp_ex (ixLl (k := 1) rfl) ?_
  and_intros
  refine wp_ex (ixLl (k := 2) rfl) ?_
  and_intros
  exact mkQ G rfl
theorem dirM4 {p0 p1 p2 p3 : Int × Int} (G : Good [p0, p1, p2, p3]) : Wp (fD (nMakeS 0 2 b_Limits___init__ (aVal (f2 dIx (fLook 0) (f0 (.int 0))) (aVal (f2 dIx (fLook 0) (f0 (.int 1))) (aVal (f2 dIx (fLook 0) (f0 (.int 2))) (aVal (f2 dIx (fLook 0) (f0 (.int 3))) aNil))))) [.val (.lst (limsD [p0, p1, p2, p3]))]) (fun d _ => d = lim [p0, p1, p2, p3]) FC.E0 := by
  and_intros
  refine wp_ex (ixLl (k := 0) rfl) ?_
  and_intros
  refine wp_ex (ixLl (k := 1) rfl) ?_
  and_intros
  refine wp_ex (ixLl (k := 2) rfl) ?_
  and_intros
  refine wp_ex (ixLl (k := 3) rfl) ?_
  and_intros
  exact mkQ G rfl
theorem dirM5 {p0 p1 p2 p3 p4 : Int × Int} (G : Good [p0, p1, p2, p3, p4]) : Wp (fD (nMakeS 0 2 b_Limits___init__ (aVal (f2 dIx (fLook 0) (f0 (.int 0))) (aVal (f2 dIx (fLook 0) (f0 (.int 1))) (aVal (f2 dIx (fLook 0) (f0 (.int 2))) (aVal (f2 dIx (fLook 0) (f0 (.int 3))) (aVal (f2 dIx (fLook 0) (f0 (.int 4))) aNil)))))) [.val (.lst (limsD [p0, p1, p2, p3, p4]))]) (fun d _ => d = lim [p0, p1, p2, p3, p4]) FC.E0 := by
  and_intros
  refine wp_ex (ixLl (k := 0) rfl) ?_
  and_intros
  refine wp_ex (ixLl (k := 1) rfl) ?_
  and_intros
  refine wp_ex (ixLl (k := 2) rfl) ?_
  and_intros
  refine wp_ex (ixLl (k := 3) rfl) ?_
  and_intros
  refine wp_ex (ixLl (k := 4) rfl) ?_
  and_intros
  exact mkQ G rfl
theorem dirM6 {p0 p1 p2 p3 p4 p5 : Int × Int} (G : Good [p0, p1, p2, p3, p4, p5]) : Wp (fD (nMakeS 0 2 b_Limits___init__ (aVal (f2 dIx (fLook 0) (f0 (.int 0))) (aVal (f2 dIx (fLook 0) (f0 (.int 1))) (aVal (f2 dIx (fLook 0) (f0 (.int 2))) (aVal (f2 dIx (fLook 0) (f0 (.int 3))) (aVal (f2 dIx (fLook 0) (f0 (.int 4))) (aVal (f2 dIx (fLook 0) (f0 (.int 5))) aNil))))))) [.val (.lst (limsD [p0, p1, p2, p3, p4, p5]))]) (fun d _ => d = lim [p0, p1, p2, p3, p4, p5]) FC.E0 := by
  and_intros
  refine wp_ex (ixLl (k := 0) rfl) ?_
  and_intros
  refine wp_ex (ixLl (k := 1) rfl) ?_
  and_intros
  refine wp_ex (ixLl (k := 2) rfl) ?_
  and_intros
  refine wp_ex (ixLl (k := 3) rfl) ?_
  and_intros
  refine wp_ex (ixLl (k := 4) rfl) ?_
  and_intros
  refine wp_ex (ixLl (k := 5) rfl) ?_
  and_intros
  exact mkQ G rfl
theorem direct_rt {ps : List (Int × Int)} (G : Good ps) : Rt 1 b__law_direct [.lst (limsD ps)] (lim ps) := by
  have few := G.few
  have ne := List.length_pos_iff.mpr G.ne
  refine Rt.of ?_
  show Wp (b__law_direct [.val (.lst (limsD ps))]) _ _
  unfold b__law_direct
  refine dirE (fun h => absurd h (by omega)) fun _ => dirE (fun h => ?_) fun _ => dirE (fun h => ?_) fun _ => dirE (fun h => ?_) fun _ => dirE (fun h => ?_) fun _ => dirE (fun h => ?_) fun _ => dirE (fun h => ?_) fun _ => absurd few (by omega)
  · match ps, G, h with
    | [p0], G, _ => exact dirM1 G
  · match ps, G, h with
    | [p0, p1], G, _ => exact dirM2 G
  · match ps, G, h with
    | [p0, p1, p2], G, _ => exact dirM3 G
  · match ps, G, h with
    | [p0, p1, p2, p3], G, _ => exact dirM4 G
  · match ps, G, h with
    | [p0, p1, p2, p3, p4], G, _ => exact dirM5 G
  · match ps, G, h with
    | [p0, p1, p2, p3, p4, p5], G, _ => exact dirM6 G
end G22
namespace G22
open PySem PySem.Spec PyProof.Rows L2 FC
local macro_rules | `(tactic| and_intros) => `(tactic| (repeat (first
  | with_reducible refine wp_seq ?_ | with_reducible refine wp_nx ?_ | with_reducible refine wp_rt ?_ | with_reducible refine wp_nil ?_ | with_reducible refine dk_val ?_ | with_reducible refine dk_lst ?_ | with_reducible refine ok_lst ?_ | with_reducible refine dk_ins ?_ | with_reducible refine ok_ins ?_ | with_reducible refine lp_nx ?_ | with_reducible refine lp_rt ?_ | with_reducible refine lp_ct ?_ | with_reducible refine lp_bk ?_ | with_reducible refine wp_bk ?_ | with_reducible refine wp_ctn ?_
  | with_reducible refine wp_if ?_ | with_reducible refine wp_ret ?_ | with_reducible refine wp_set ?_ | with_reducible refine wp_setN ?_ | with_reducible refine wp_retN ?_ | with_reducible refine wp_retNew ?_ | with_reducible refine wp_brk ?_ | with_reducible refine wp_ct ?_
  | with_reducible refine wp_f0 ?_ | with_reducible refine wp_f1 ?_ | with_reducible refine wp_f2 ?_
  | ((with_reducible apply wp_look); rfl) | ((with_reducible apply wp_var); rfl) | ((with_reducible apply wp_lookL); rfl) | ((with_reducible apply wp_lookI); rfl) | ((with_reducible apply wp_vVarO); rfl) | with_reducible refine wp_setP ?_ | with_reducible refine wp_cls ?_ | ((with_reducible apply wp_sup); rfl) | ((with_reducible apply wp_retVar); rfl) | ((with_reducible apply wp_retVarO); rfl)
  | with_reducible refine wp_and ?_ | with_reducible refine wp_tand ?_ | with_reducible refine wp_tor ?_ | with_reducible refine wp_tnot ?_ | with_reducible refine wp_fIf ?_
  | with_reducible refine wp_call ?_ | with_reducible refine wp_nCall ?_ | with_reducible refine wp_mth ?_ | with_reducible refine wp_prop ?_ | ((with_reducible apply wp_vVar); rfl) | with_reducible refine wp_vVal ?_
  | with_reducible refine wp_aNil ?_ | with_reducible refine wp_aVal ?_ | with_reducible refine wp_aNew ?_
  | ((with_reducible apply wp_aVar); rfl) | ((with_reducible apply wp_aVarS); rfl) | ((with_reducible apply wp_aVarW); rfl)
  | ((with_reducible apply wp_frz); rfl) | ((with_reducible apply wp_frzV); rfl)
  | with_reducible refine wp_tup ?_ | with_reducible refine wp_nLst ?_ | with_reducible refine wp_fD ?_ | with_reducible refine wp_iArgs ?_ | with_reducible refine wp_iSeq ?_ | with_reducible refine wp_for ?_
  | with_reducible refine wp_expr ?_ | with_reducible refine wp_makeS ?_ | ((with_reducible apply wp_makeL); rfl) | with_reducible refine wp_aCls ?_ | with_reducible refine wp_addO ?_ | with_reducible refine wp_exI ?_ | with_reducible refine wp_fJ0 ?_ | with_reducible refine wp_fJ1 ?_ | with_reducible refine wp_exS ?_ | with_reducible refine wp_s1 ?_ | with_reducible refine wp_n1 ?_ | with_reducible refine wp_aStar ?_ | with_reducible refine wp_par ?_ | with_reducible refine wp_asg ?_ | with_reducible refine wp_sl2 ?_
  | with_reducible refine wp_chain ?_ | with_reducible refine wp_or ?_ | with_reducible refine wp_exb ?_ | with_reducible refine wp_ex gt_nm ?_ | with_reducible refine wp_ex gt_2 ?_ | with_reducible refine wp_ex gt_2l ?_ | ((with_reducible apply wp_ex); first | with_reducible exact q_rvO | with_reducible exact q_dlL | with_reducible exact q_dlT | with_reducible exact q_strR | with_reducible exact q_isC_non | with_reducible exact q_isC_bl | with_reducible exact q_isC_int | with_reducible exact q_isC_str | with_reducible exact q_isC_lst | with_reducible exact q_isC_tup | with_reducible exact q_isC_ins rfl | with_reducible exact dEq_int _ _ | with_reducible exact dNe_int _ _ | with_reducible exact q_add | with_reducible exact q_sub | with_reducible exact q_lt | with_reducible exact q_le | with_reducible exact q_gt | with_reducible exact q_ge | with_reducible exact q_max2 | with_reducible exact q_min2 | with_reducible exact q_neg | with_reducible exact q_bl | with_reducible exact q_not | with_reducible exact q_trB | with_reducible exact q_trI | with_reducible exact q_trL | with_reducible exact q_trT | with_reducible exact q_lenL | with_reducible exact q_lenT | with_reducible exact q_itL | with_reducible exact q_itT | with_reducible exact q_int | with_reducible exact q_tupL | with_reducible exact q_tupT | with_reducible exact q_lstL | with_reducible exact q_lstT | with_reducible exact q_isN_non | with_reducible exact q_notN_non | with_reducible exact q_isNB_non | with_reducible exact q_notNB_non | with_reducible exact q_i_int_non | with_reducible exact q_i_bool_non | with_reducible exact q_i_str_non | with_reducible exact q_i_tuple_non | with_reducible exact q_i_list_non | with_reducible exact q_isN_bl | with_reducible exact q_notN_bl | with_reducible exact q_isNB_bl | with_reducible exact q_notNB_bl | with_reducible exact q_i_int_bl | with_reducible exact q_i_bool_bl | with_reducible exact q_i_str_bl | with_reducible exact q_i_tuple_bl | with_reducible exact q_i_list_bl | with_reducible exact q_isN_int | with_reducible exact q_notN_int | with_reducible exact q_isNB_int | with_reducible exact q_notNB_int | with_reducible exact q_i_int_int | with_reducible exact q_i_bool_int | with_reducible exact q_i_str_int | with_reducible exact q_i_tuple_int | with_reducible exact q_i_list_int | with_reducible exact q_isN_str | with_reducible exact q_notN_str | with_reducible exact q_isNB_str | with_reducible exact q_notNB_str | with_reducible exact q_i_int_str | with_reducible exact q_i_bool_str | with_reducible exact q_i_str_str | with_reducible exact q_i_tuple_str | with_reducible exact q_i_list_str | with_reducible exact q_isN_lst | with_reducible exact q_notN_lst | with_reducible exact q_isNB_lst | with_reducible exact q_notNB_lst | with_reducible exact q_i_int_lst | with_reducible exact q_i_bool_lst | with_reducible exact q_i_str_lst | with_reducible exact q_i_tuple_lst | with_reducible exact q_i_list_lst | with_reducible exact q_isN_tup | with_reducible exact q_notN_tup | with_reducible exact q_isNB_tup | with_reducible exact q_notNB_tup | with_reducible exact q_i_int_tup | with_reducible exact q_i_bool_tup | with_reducible exact q_i_str_tup | with_reducible exact q_i_tuple_tup | with_reducible exact q_i_list_tup | with_reducible exact q_fld | with_reducible exact q_al0 | with_reducible exact q_al1 | with_reducible exact q_al2 | with_reducible exact q_al3 | with_reducible exact q_al4 | with_reducible exact q_al5 | with_reducible exact q_al6 | with_reducible exact q_al7 | with_reducible exact q_al8 | ((with_reducible show FC.putAll _ _ _ = some _); rfl)) | ((with_reducible apply wp_exP); ((with_reducible show FC.avC _ _ = some _); rfl)) | ((with_reducible apply wp_exbl); first | with_reducible exact q_le | with_reducible exact q_lt | with_reducible exact q_ge | with_reducible exact q_gt | with_reducible exact dEq_int _ _ | with_reducible exact dNe_int _ _)
  | with_reducible refine ifTt ?_ | with_reducible refine ifFf ?_ | with_reducible refine ifNt ?_ | with_reducible refine ifNf ?_
  | with_reducible refine wp_lk1 (by decide) ?_ | with_reducible refine wp_lk2 (by decide) (by decide) ?_ | with_reducible refine wp_lk3 (by decide) (by decide) (by decide) ?_ | ((with_reducible apply wp_avm); rfl)
  | ((with_reducible apply wp_szR); rfl))))
/-! ### values handed in one by one, refused -/
theorem dirX0 {e : Ex} (h : MkX 0 2 b_Limits___init__ [] e) : Rx 1 b__law_direct [.lst []] e := by
  refine Rx.of ?_
  unfold b__law_direct
  and_intros
  refine ifd (fun _ => ?_) (fun z => absurd (by simp) z)
  refine wp_ret (wp_fD (wp_makeSx (wp_aNil ⟨_, rfl, len_szN (by simp), _, h, rfl⟩)))
theorem dirX1 {a0 : D} {e : Ex} (h : MkX 0 2 b_Limits___init__ [a0] e) : Rx 1 b__law_direct [.lst [a0]] e := by
  refine Rx.of ?_
  unfold b__law_direct
  and_intros
  refine ifd (fun z => absurd z (by simp)) (fun _ => ?_)
  and_intros
  refine ifd (fun _ => ?_) (fun z => absurd (by simp) z)
  refine wp_ret (wp_fD (wp_makeSx ?_))
  and_intros
  refine wp_ex (q_ixE (k := 0) (d := a0) rfl rfl) ?_
  and_intros
  exact ⟨_, h, rfl⟩
theorem dirX2 {a0 a1 : D} {e : Ex} (h : MkX 0 2 b_Limits___init__ [a0, a1] e) : Rx 1 b__law_direct [.lst [a0, a1]] e := by
  refine Rx.of ?_
  unfold b__law_direct
  and_intros
  refine ifd (fun z => absurd z (by simp)) (fun _ => ?_)
  and_intros
  refine ifd (fun z => absurd z (by simp)) (fun _ => ?_)
  and_intros
  refine ifd (fun _ => ?_) (fun z => absurd (by simp) z)
  refine wp_ret (wp_fD (wp_makeSx ?_))
  and_intros
  refine wp_ex (q_ixE (k := 0) (d := a0) rfl rfl) ?_
  and_intros
  refine wp_ex (q_ixE (k := 1) (d := a1) rfl rfl) ?_
  and_intros
  exact ⟨_, h, rfl⟩
theorem dirX3 {a0 a1 a2 : D} {e : Ex} (h : MkX 0 2 b_Limits___init__ [a0, a1, a2] e) : Rx 1 b__law_direct [.lst [a0, a1, a2]] e := by
  refine Rx.of ?_
  unfold b__law_direct
  and_intros
  refine ifd (fun z => absurd z (by simp)) (fun _ => ?_)
  and_intros
  refine ifd (fun z => absurd z (by simp)) (fun _ => ?_)
  and_intros
  refine ifd (fun z => absurd z (by simp)) (fun _ => ?_)
  and_intros
  refine ifd (fun _ => ?_) (fun z => absurd (by simp) z)
  refine wp_ret (wp_fD (wp_makeSx ?_))
  and_intros
  refine wp_ex (q_ixE (k := 0) (d := a0) rfl rfl) ?_
  and_intros
  refine wp_ex (q_ixE (k := 1) (d := a1) rfl rfl) ?_
  and_intros
  refine wp_ex (q_ixE (k := 2) (d := a2) rfl rfl) ?_
  and_intros
  exact ⟨_, h, rfl⟩
theorem dirX4 {a0 a1 a2 a3 : D} {e : Ex} (h : MkX 0 2 b_Limits___init__ [a0, a1, a2, a3] e) : Rx 1 b__law_direct [.lst [a0, a1, a2, a3]] e := by
  refine Rx.of ?_
  unfold b__law_direct
  and_intros
  refine ifd (fun z => absurd z (by simp)) (fun _ => ?_)
  and_intros
  refine ifd (fun z => absurd z (by simp)) (fun _ => ?_)
  and_intros
  refine ifd (fun z => absurd z (by simp)) (fun _ => ?_)
  and_intros
  refine ifd (fun z => absurd z (by simp)) (fun _ => ?_)
  and_intros
  refine ifd (fun _ => ?_) (fun z => absurd (by simp) z)
  refine wp_ret (wp_fD (wp_makeSx ?_))
  and_intros
  refine wp_ex (q_ixE (k := 0) (d := a0) rfl rfl) ?_
  and_intros
  refine wp_ex (q_ixE (k := 1) (d := a1) rfl rfl) ?_
  and_intros
  refine wp_ex (q_ixE (k := 2) (d := a2) rfl rfl) ?_
  and_intros
  refine wp_ex (q_ixE (k := 3) (d := a3) rfl rfl) ?_
  and_intros
  exact ⟨_, h, rfl⟩
theorem dirX5 {a0 a1 a2 a3 a4 : D} {e : Ex} (h : MkX 0 2 b_Limits___init__ [a0, a1, a2, a3, a4] e) : Rx 1 b__law_direct [.lst [a0, a1, a2, a3, a4]] e := by
  refine Rx.of ?_
  unfold b__law_direct
  and_intros
  refine ifd (fun z => absurd z (by simp)) (fun _ => ?_)
  and_intros
  refine ifd (fun z => absurd z (by simp)) (fun _ => ?_)
  and_intros
  refine ifd (fun z => absurd z (by simp)) (fun _ => ?_)
  and_intros
  refine ifd (fun z => absurd z (by simp)) (fun _ => ?_)
  and_intros
  refine ifd (fun z => absurd z (by simp)) (fun _ => ?_)
  and_intros
  refine ifd (fun _ => ?_) (fun z => absurd (by simp) z)
  refine wp_ret (wp_fD (wp_makeSx ?_))
  and_intros
  refine wp_ex (q_ixE (k := 0) (d := a0) rfl rfl) ?_
  and_intros
  refine wp_ex (q_ixE (k := 1) (d := a1) rfl rfl) ?_
  and_intros
  refine wp_ex (q_ixE (k := 2) (d := a2) rfl rfl) ?_
  and_intros
  refine wp_ex (q_ixE (k := 3) (d := a3) rfl rfl) ?_
  and_intros
  refine wp_ex (q_ixE (k := 4) (d := a4) rfl rfl) ?_
  and_intros
  exact ⟨_, h, rfl⟩
theorem dirX6 {a0 a1 a2 a3 a4 a5 : D} {e : Ex} (h : MkX 0 2 b_Limits___init__ [a0, a1, a2, a3, a4, a5] e) : Rx 1 b__law_direct [.lst [a0, a1, a2, a3, a4, a5]] e := by
  refine Rx.of ?_
  unfold b__law_direct
  and_intros
  refine ifd (fun z => absurd z (by simp)) (fun _ => ?_)
  and_intros
  refine ifd (fun z => absurd z (by simp)) (fun _ => ?_)
  and_intros
  refine ifd (fun z => absurd z (by simp)) (fun _ => ?_)
  and_intros
  refine ifd (fun z => absurd z (by simp)) (fun _ => ?_)
  and_intros
  refine ifd (fun z => absurd z (by simp)) (fun _ => ?_)
  and_intros
  refine ifd (fun z => absurd z (by simp)) (fun _ => ?_)
  and_intros
  refine ifd (fun _ => ?_) (fun z => absurd (by simp) z)
  refine wp_ret (wp_fD (wp_makeSx ?_))
  and_intros
  refine wp_ex (q_ixE (k := 0) (d := a0) rfl rfl) ?_
  and_intros
  refine wp_ex (q_ixE (k := 1) (d := a1) rfl rfl) ?_
  and_intros
  refine wp_ex (q_ixE (k := 2) (d := a2) rfl rfl) ?_
  and_intros
  refine wp_ex (q_ixE (k := 3) (d := a3) rfl rfl) ?_
  and_intros
  refine wp_ex (q_ixE (k := 4) (d := a4) rfl rfl) ?_
  and_intros
  refine wp_ex (q_ixE (k := 5) (d := a5) rfl rfl) ?_
  and_intros
  exact ⟨_, h, rfl⟩
theorem dirX7 {a0 a1 a2 a3 a4 a5 a6 : D} {e : Ex} (h : MkX 0 2 b_Limits___init__ [a0, a1, a2, a3, a4, a5, a6] e) : Rx 1 b__law_direct [.lst [a0, a1, a2, a3, a4, a5, a6]] e := by
  refine Rx.of ?_
  unfold b__law_direct
  and_intros
  refine ifd (fun z => absurd z (by simp)) (fun _ => ?_)
  and_intros
  refine ifd (fun z => absurd z (by simp)) (fun _ => ?_)
  and_intros
  refine ifd (fun z => absurd z (by simp)) (fun _ => ?_)
  and_intros
  refine ifd (fun z => absurd z (by simp)) (fun _ => ?_)
  and_intros
  refine ifd (fun z => absurd z (by simp)) (fun _ => ?_)
  and_intros
  refine ifd (fun z => absurd z (by simp)) (fun _ => ?_)
  and_intros
  refine ifd (fun z => absurd z (by simp)) (fun _ => wp_nil (wp_nx ?_))
  refine wp_ret (wp_fD (wp_makeSx ?_))
  and_intros
  refine wp_ex (q_ixE (k := 0) (d := a0) rfl rfl) ?_
  and_intros
  refine wp_ex (q_ixE (k := 1) (d := a1) rfl rfl) ?_
  and_intros
  refine wp_ex (q_ixE (k := 2) (d := a2) rfl rfl) ?_
  and_intros
  refine wp_ex (q_ixE (k := 3) (d := a3) rfl rfl) ?_
  and_intros
  refine wp_ex (q_ixE (k := 4) (d := a4) rfl rfl) ?_
  and_intros
  refine wp_ex (q_ixE (k := 5) (d := a5) rfl rfl) ?_
  and_intros
  refine wp_ex (q_ixE (k := 6) (d := a6) rfl rfl) ?_
  and_intros
  exact ⟨_, h, rfl⟩
theorem direct_x {ds : List D} {e : Ex} (hl : ds.length ≤ 7) (h : MkX 0 2 b_Limits___init__ ds e) : Rx 1 b__law_direct [.lst ds] e := by
  match ds, hl, h with
  | [], _, h => exact dirX0 h
  | [_], _, h => exact dirX1 h
  | [_, _], _, h => exact dirX2 h
  | [_, _, _], _, h => exact dirX3 h
  | [_, _, _, _], _, h => exact dirX4 h
  | [_, _, _, _, _], _, h => exact dirX5 h
  | [_, _, _, _, _, _], _, h => exact dirX6 h
  | [_, _, _, _, _, _, _], _, h => exact dirX7 h
  | _ :: _ :: _ :: _ :: _ :: _ :: _ :: _ :: _, hl, _ => exact absurd hl (by simp)
end G22
namespace G22
open PySem PySem.Spec PyProof.Rows L2 FC
local macro_rules | `(tactic| and_intros) => `(tactic| (repeat (first
  | with_reducible refine wp_seq ?_ | with_reducible refine wp_nx ?_ | with_reducible refine wp_rt ?_ | with_reducible refine wp_nil ?_ | with_reducible refine dk_val ?_ | with_reducible refine dk_lst ?_ | with_reducible refine ok_lst ?_ | with_reducible refine dk_ins ?_ | with_reducible refine ok_ins ?_ | with_reducible refine lp_nx ?_ | with_reducible refine lp_rt ?_ | with_reducible refine lp_ct ?_ | with_reducible refine lp_bk ?_ | with_reducible refine wp_bk ?_ | with_reducible refine wp_ctn ?_
  | with_reducible refine wp_if ?_ | with_reducible refine wp_ret ?_ | with_reducible refine wp_set ?_ | with_reducible refine wp_setN ?_ | with_reducible refine wp_retN ?_ | with_reducible refine wp_retNew ?_ | with_reducible refine wp_brk ?_ | with_reducible refine wp_ct ?_
  | with_reducible refine wp_f0 ?_ | with_reducible refine wp_f1 ?_ | with_reducible refine wp_f2 ?_
  | ((with_reducible apply wp_look); rfl) | ((with_reducible apply wp_var); rfl) | ((with_reducible apply wp_lookL); rfl) | ((with_reducible apply wp_lookI); rfl) | ((with_reducible apply wp_vVarO); rfl) | with_reducible refine wp_setP ?_ | with_reducible refine wp_cls ?_ | ((with_reducible apply wp_sup); rfl) | ((with_reducible apply wp_retVar); rfl) | ((with_reducible apply wp_retVarO); rfl)
  | with_reducible refine wp_and ?_ | with_reducible refine wp_tand ?_ | with_reducible refine wp_tor ?_ | with_reducible refine wp_tnot ?_ | with_reducible refine wp_fIf ?_
  | with_reducible refine wp_call ?_ | with_reducible refine wp_nCall ?_ | with_reducible refine wp_mth ?_ | with_reducible refine wp_prop ?_ | ((with_reducible apply wp_vVar); rfl) | with_reducible refine wp_vVal ?_
  | with_reducible refine wp_aNil ?_ | with_reducible refine wp_aVal ?_ | with_reducible refine wp_aNew ?_
  | ((with_reducible apply wp_aVar); rfl) | ((with_reducible apply wp_aVarS); rfl) | ((with_reducible apply wp_aVarW); rfl)
  | ((with_reducible apply wp_frz); rfl) | ((with_reducible apply wp_frzV); rfl)
  | with_reducible refine wp_tup ?_ | with_reducible refine wp_nLst ?_ | with_reducible refine wp_fD ?_ | with_reducible refine wp_iArgs ?_ | with_reducible refine wp_iSeq ?_ | with_reducible refine wp_for ?_
  | with_reducible refine wp_expr ?_ | with_reducible refine wp_makeS ?_ | ((with_reducible apply wp_makeL); rfl) | with_reducible refine wp_aCls ?_ | with_reducible refine wp_addO ?_ | with_reducible refine wp_exI ?_ | with_reducible refine wp_fJ0 ?_ | with_reducible refine wp_fJ1 ?_ | with_reducible refine wp_exS ?_ | with_reducible refine wp_s1 ?_ | with_reducible refine wp_n1 ?_ | with_reducible refine wp_aStar ?_ | with_reducible refine wp_par ?_ | with_reducible refine wp_asg ?_ | with_reducible refine wp_sl2 ?_
  | with_reducible refine wp_chain ?_ | with_reducible refine wp_or ?_ | with_reducible refine wp_exb ?_ | with_reducible refine wp_ex gt_nm ?_ | with_reducible refine wp_ex gt_2 ?_ | with_reducible refine wp_ex gt_2l ?_ | ((with_reducible apply wp_ex); first | with_reducible exact q_rvO | with_reducible exact q_dlL | with_reducible exact q_dlT | with_reducible exact q_strR | with_reducible exact q_isC_non | with_reducible exact q_isC_bl | with_reducible exact q_isC_int | with_reducible exact q_isC_str | with_reducible exact q_isC_lst | with_reducible exact q_isC_tup | with_reducible exact q_isC_ins rfl | with_reducible exact dEq_int _ _ | with_reducible exact dNe_int _ _ | with_reducible exact q_add | with_reducible exact q_sub | with_reducible exact q_lt | with_reducible exact q_le | with_reducible exact q_gt | with_reducible exact q_ge | with_reducible exact q_max2 | with_reducible exact q_min2 | with_reducible exact q_neg | with_reducible exact q_bl | with_reducible exact q_not | with_reducible exact q_trB | with_reducible exact q_trI | with_reducible exact q_trL | with_reducible exact q_trT | with_reducible exact q_lenL | with_reducible exact q_lenT | with_reducible exact q_itL | with_reducible exact q_itT | with_reducible exact q_int | with_reducible exact q_tupL | with_reducible exact q_tupT | with_reducible exact q_lstL | with_reducible exact q_lstT | with_reducible exact q_isN_non | with_reducible exact q_notN_non | with_reducible exact q_isNB_non | with_reducible exact q_notNB_non | with_reducible exact q_i_int_non | with_reducible exact q_i_bool_non | with_reducible exact q_i_str_non | with_reducible exact q_i_tuple_non | with_reducible exact q_i_list_non | with_reducible exact q_isN_bl | with_reducible exact q_notN_bl | with_reducible exact q_isNB_bl | with_reducible exact q_notNB_bl | with_reducible exact q_i_int_bl | with_reducible exact q_i_bool_bl | with_reducible exact q_i_str_bl | with_reducible exact q_i_tuple_bl | with_reducible exact q_i_list_bl | with_reducible exact q_isN_int | with_reducible exact q_notN_int | with_reducible exact q_isNB_int | with_reducible exact q_notNB_int | with_reducible exact q_i_int_int | with_reducible exact q_i_bool_int | with_reducible exact q_i_str_int | with_reducible exact q_i_tuple_int | with_reducible exact q_i_list_int | with_reducible exact q_isN_str | with_reducible exact q_notN_str | with_reducible exact q_isNB_str | with_reducible exact q_notNB_str | with_reducible exact q_i_int_str | with_reducible exact q_i_bool_str | with_reducible exact q_i_str_str | with_reducible exact q_i_tuple_str | with_reducible exact q_i_list_str | with_reducible exact q_isN_lst | with_reducible exact q_notN_lst | with_reducible exact q_isNB_lst | with_reducible exact q_notNB_lst | with_reducible exact q_i_int_lst | with_reducible exact q_i_bool_lst | with_reducible exact q_i_str_lst | with_reducible exact q_i_tuple_lst | with_reducible exact q_i_list_lst | with_reducible exact q_isN_tup | with_reducible exact q_notN_tup | with_reducible exact q_isNB_tup | with_reducible exact q_notNB_tup | with_reducible exact q_i_int_tup | with_reducible exact q_i_bool_tup | with_reducible exact q_i_str_tup | with_reducible exact q_i_tuple_tup | with_reducible exact q_i_list_tup | with_reducible exact q_fld | with_reducible exact q_al0 | with_reducible exact q_al1 | with_reducible exact q_al2 | with_reducible exact q_al3 | with_reducible exact q_al4 | with_reducible exact q_al5 | with_reducible exact q_al6 | with_reducible exact q_al7 | with_reducible exact q_al8 | ((with_reducible show FC.putAll _ _ _ = some _); rfl)) | ((with_reducible apply wp_exP); ((with_reducible show FC.avC _ _ = some _); rfl)) | ((with_reducible apply wp_exbl); first | with_reducible exact q_le | with_reducible exact q_lt | with_reducible exact q_ge | with_reducible exact q_gt | with_reducible exact dEq_int _ _ | with_reducible exact dNe_int _ _)
  | with_reducible refine ifTt ?_ | with_reducible refine ifFf ?_ | with_reducible refine ifNt ?_ | with_reducible refine ifNf ?_
  | with_reducible refine wp_lk1 (by decide) ?_ | with_reducible refine wp_lk2 (by decide) (by decide) ?_ | with_reducible refine wp_lk3 (by decide) (by decide) (by decide) ?_ | ((with_reducible apply wp_avm); rfl)
  | ((with_reducible apply wp_szR); rfl))))
/-! ### two ints from 1 to 20 -/
theorem ints_of {a b : D} (h : (i20 a && i20 b) = true) : ∃ x y, a = .int x ∧ b = .int y ∧ In20 (x, y) := by
  rw [Bool.and_eq_true] at h
  cases a with
  | int x =>
    cases b with
    | int y =>
      have h1 : 1 ≤ x ∧ x ≤ 20 := of_decide_eq_true h.1
      have h2 : 1 ≤ y ∧ y ≤ 20 := of_decide_eq_true h.2
      exact ⟨x, y, rfl, rfl, h1.1, h1.2, h2.1, h2.2⟩
    | _ => exact absurd h.2 (by simp [i20])
  | _ => exact absurd h.1 (by simp [i20])
end G22
namespace G22
open PySem PySem.Spec PyProof.Rows L2 FC
local macro_rules | `(tactic| and_intros) => `(tactic| (repeat (first
  | with_reducible refine wp_seq ?_ | with_reducible refine wp_nx ?_ | with_reducible refine wp_rt ?_ | with_reducible refine wp_nil ?_ | with_reducible refine dk_val ?_ | with_reducible refine dk_lst ?_ | with_reducible refine ok_lst ?_ | with_reducible refine dk_ins ?_ | with_reducible refine ok_ins ?_ | with_reducible refine lp_nx ?_ | with_reducible refine lp_rt ?_ | with_reducible refine lp_ct ?_ | with_reducible refine lp_bk ?_ | with_reducible refine wp_bk ?_ | with_reducible refine wp_ctn ?_
  | with_reducible refine wp_if ?_ | with_reducible refine wp_ret ?_ | with_reducible refine wp_set ?_ | with_reducible refine wp_setN ?_ | with_reducible refine wp_retN ?_ | with_reducible refine wp_retNew ?_ | with_reducible refine wp_brk ?_ | with_reducible refine wp_ct ?_
  | with_reducible refine wp_f0 ?_ | with_reducible refine wp_f1 ?_ | with_reducible refine wp_f2 ?_
  | ((with_reducible apply wp_look); rfl) | ((with_reducible apply wp_var); rfl) | ((with_reducible apply wp_lookL); rfl) | ((with_reducible apply wp_lookI); rfl) | ((with_reducible apply wp_vVarO); rfl) | with_reducible refine wp_setP ?_ | with_reducible refine wp_cls ?_ | ((with_reducible apply wp_sup); rfl) | ((with_reducible apply wp_retVar); rfl) | ((with_reducible apply wp_retVarO); rfl)
  | with_reducible refine wp_and ?_ | with_reducible refine wp_tand ?_ | with_reducible refine wp_tor ?_ | with_reducible refine wp_tnot ?_ | with_reducible refine wp_fIf ?_
  | with_reducible refine wp_call ?_ | with_reducible refine wp_nCall ?_ | with_reducible refine wp_mth ?_ | with_reducible refine wp_prop ?_ | ((with_reducible apply wp_vVar); rfl) | with_reducible refine wp_vVal ?_
  | with_reducible refine wp_aNil ?_ | with_reducible refine wp_aVal ?_ | with_reducible refine wp_aNew ?_
  | ((with_reducible apply wp_aVar); rfl) | ((with_reducible apply wp_aVarS); rfl) | ((with_reducible apply wp_aVarW); rfl)
  | ((with_reducible apply wp_frz); rfl) | ((with_reducible apply wp_frzV); rfl)
  | with_reducible refine wp_tup ?_ | with_reducible refine wp_nLst ?_ | with_reducible refine wp_fD ?_ | with_reducible refine wp_iArgs ?_ | with_reducible refine wp_iSeq ?_ | with_reducible refine wp_for ?_
  | with_reducible refine wp_expr ?_ | with_reducible refine wp_makeS ?_ | ((with_reducible apply wp_makeL); rfl) | with_reducible refine wp_aCls ?_ | with_reducible refine wp_addO ?_ | with_reducible refine wp_exI ?_ | with_reducible refine wp_fJ0 ?_ | with_reducible refine wp_fJ1 ?_ | with_reducible refine wp_exS ?_ | with_reducible refine wp_s1 ?_ | with_reducible refine wp_n1 ?_ | with_reducible refine wp_aStar ?_ | with_reducible refine wp_par ?_ | with_reducible refine wp_asg ?_ | with_reducible refine wp_sl2 ?_
  | with_reducible refine wp_chain ?_ | with_reducible refine wp_or ?_ | with_reducible refine wp_exb ?_ | with_reducible refine wp_ex gt_nm ?_ | with_reducible refine wp_ex gt_2 ?_ | with_reducible refine wp_ex gt_2l ?_ | ((with_reducible apply wp_ex); first | with_reducible exact q_rvO | with_reducible exact q_dlL | with_reducible exact q_dlT | with_reducible exact q_strR | with_reducible exact q_isC_non | with_reducible exact q_isC_bl | with_reducible exact q_isC_int | with_reducible exact q_isC_str | with_reducible exact q_isC_lst | with_reducible exact q_isC_tup | with_reducible exact q_isC_ins rfl | with_reducible exact dEq_int _ _ | with_reducible exact dNe_int _ _ | with_reducible exact q_add | with_reducible exact q_sub | with_reducible exact q_lt | with_reducible exact q_le | with_reducible exact q_gt | with_reducible exact q_ge | with_reducible exact q_max2 | with_reducible exact q_min2 | with_reducible exact q_neg | with_reducible exact q_bl | with_reducible exact q_not | with_reducible exact q_trB | with_reducible exact q_trI | with_reducible exact q_trL | with_reducible exact q_trT | with_reducible exact q_lenL | with_reducible exact q_lenT | with_reducible exact q_itL | with_reducible exact q_itT | with_reducible exact q_int | with_reducible exact q_tupL | with_reducible exact q_tupT | with_reducible exact q_lstL | with_reducible exact q_lstT | with_reducible exact q_isN_non | with_reducible exact q_notN_non | with_reducible exact q_isNB_non | with_reducible exact q_notNB_non | with_reducible exact q_i_int_non | with_reducible exact q_i_bool_non | with_reducible exact q_i_str_non | with_reducible exact q_i_tuple_non | with_reducible exact q_i_list_non | with_reducible exact q_isN_bl | with_reducible exact q_notN_bl | with_reducible exact q_isNB_bl | with_reducible exact q_notNB_bl | with_reducible exact q_i_int_bl | with_reducible exact q_i_bool_bl | with_reducible exact q_i_str_bl | with_reducible exact q_i_tuple_bl | with_reducible exact q_i_list_bl | with_reducible exact q_isN_int | with_reducible exact q_notN_int | with_reducible exact q_isNB_int | with_reducible exact q_notNB_int | with_reducible exact q_i_int_int | with_reducible exact q_i_bool_int | with_reducible exact q_i_str_int | with_reducible exact q_i_tuple_int | with_reducible exact q_i_list_int | with_reducible exact q_isN_str | with_reducible exact q_notN_str | with_reducible exact q_isNB_str | with_reducible exact q_notNB_str | with_reducible exact q_i_int_str | with_reducible exact q_i_bool_str | with_reducible exact q_i_str_str | with_reducible exact q_i_tuple_str | with_reducible exact q_i_list_str | with_reducible exact q_isN_lst | with_reducible exact q_notN_lst | with_reducible exact q_isNB_lst | with_reducible exact q_notNB_lst | with_reducible exact q_i_int_lst | with_reducible exact q_i_bool_lst | with_reducible exact q_i_str_lst | with_reducible exact q_i_tuple_lst | with_reducible exact q_i_list_lst | with_reducible exact q_isN_tup | with_reducible exact q_notN_tup | with_reducible exact q_isNB_tup | with_reducible exact q_notNB_tup | with_reducible exact q_i_int_tup | with_reducible exact q_i_bool_tup | with_reducible exact q_i_str_tup | with_reducible exact q_i_tuple_tup | with_reducible exact q_i_list_tup | with_reducible exact q_fld | with_reducible exact q_al0 | with_reducible exact q_al1 | with_reducible exact q_al2 | with_reducible exact q_al3 | with_reducible exact q_al4 | with_reducible exact q_al5 | with_reducible exact q_al6 | with_reducible exact q_al7 | with_reducible exact q_al8 | ((with_reducible show FC.putAll _ _ _ = some _); rfl)) | ((with_reducible apply wp_exP); ((with_reducible show FC.avC _ _ = some _); rfl)) | ((with_reducible apply wp_exbl); first | with_reducible exact q_le | with_reducible exact q_lt | with_reducible exact q_ge | with_reducible exact q_gt | with_reducible exact dEq_int _ _ | with_reducible exact dNe_int _ _)
  | with_reducible refine ifTt ?_ | with_reducible refine ifFf ?_ | with_reducible refine ifNt ?_ | with_reducible refine ifNf ?_
  | with_reducible refine wp_lk1 (by decide) ?_ | with_reducible refine wp_lk2 (by decide) (by decide) ?_ | with_reducible refine wp_lk3 (by decide) (by decide) (by decide) ?_ | ((with_reducible apply wp_avm); rfl)
  | ((with_reducible apply wp_szR); rfl))))
/-! ### are they different limits? of any values -/
theorem ded_le : ∀ l : List (List Int), (ded l).length ≤ l.length
  | [] => Nat.le_refl _
  | x :: r => by
    have ih := ded_le r
    simp only [ded]
    split
    · rw [List.length_cons]; omega
    · rw [List.length_cons, List.length_cons]; omega
theorem ded_full : ∀ {l : List (List Int)}, (ded l).length = l.length → l.Nodup
  | [], _ => List.nodup_nil
  | x :: r, h => by
    have le := ded_le r
    simp only [ded] at h
    split at h
    · rw [List.length_cons] at h; omega
    · rename_i hx
      rw [List.length_cons, List.length_cons] at h
      exact List.nodup_cons.mpr ⟨fun z => hx ((ded_mem r x).mpr z), ded_full (by omega)⟩
theorem lenSet_any {qs : List (Int × Int)} (hl : qs.length < 64) : ∃ k : Nat, dLenSet (.tup (limsD qs)) = some (.int k) ∧ ((k : Int) = (qs.length : Int) ↔ qs.Nodup) := by
  refine ⟨(ded (qs.map fun p => [p.1, p.2])).length, ?_, ?_⟩
  · simp only [dLenSet, dItems, Option.bind_some, dTIs_pr, List.length_map]
    rw [if_pos hl]
  · constructor
    · intro h
      have h2 : (ded (qs.map fun p => [p.1, p.2])).length = (qs.map fun p => [p.1, p.2]).length := by rw [List.length_map]; omega
      have nd := ded_full h2
      exact (List.pairwise_map.mp nd).imp fun h e => h (by rw [e])
    · intro h
      rw [ded_of_nodup (nodup_pr h), List.length_map]
theorem isL_lim {d : D} (h : isL d = true) : ∃ p : Int × Int, d = limD p ∧ In20 p := by
  cases d with
  | tup ds =>
    match ds, h with
    | [a, b], h =>
      obtain ⟨x, y, rfl, rfl, i⟩ := ints_of h
      exact ⟨(x, y), rfl, i⟩
  | _ => cases h
theorem lim_isL {p : Int × Int} (h : In20 p) : isL (limD p) = true := by
  show (decide (1 ≤ p.1 ∧ p.1 ≤ 20) && decide (1 ≤ p.2 ∧ p.2 ≤ 20)) = true
  obtain ⟨h1, h2, h3, h4⟩ := h
  rw [decide_eq_true ⟨h1, h2⟩, decide_eq_true ⟨h3, h4⟩]
  rfl
theorem split22 : ∀ ds : List D, (∃ qs : List (Int × Int), ds = limsD qs ∧ ∀ p ∈ qs, In20 p) ∨ ∃ d ∈ ds, isL d = false
  | [] => .inl ⟨[], rfl, fun _ h => nomatch h⟩
  | d :: ds => by
    cases e : isL d with
    | false => exact .inr ⟨d, List.mem_cons_self, e⟩
    | true =>
      obtain ⟨p, rfl, hp⟩ := isL_lim e
      rcases split22 ds with ⟨qs, rfl, hq⟩ | ⟨x, hx, ex⟩
      · exact .inl ⟨p :: qs, rfl, fun z hz => (List.mem_cons.mp hz).elim (fun w => by rw [w]; exact hp) (hq z)⟩
      · exact .inr ⟨x, List.mem_cons_of_mem _ hx, ex⟩
theorem are_nil : Rt 2 b_are_pairs [.tup []] (.bl false) := by
  refine Rt.of ?_
  unfold b_are_pairs
  and_intros
  refine ifd (fun h => absurd h (by simp)) (fun _ => ?_)
  rfl
theorem are_bad {ds : List D} (hl : ds.length ≤ 1000) (hf : ∀ d ∈ ds, parts d = true) (hbad : ∃ d ∈ ds, isL d = false) : Rt 2 b_are_pairs [.tup ds] (.bl false) := by
  obtain ⟨d0, m0, b0⟩ := hbad
  have pos : 0 < ds.length := List.length_pos_of_mem m0
  refine Rt.of ?_
  unfold b_are_pairs
  and_intros
  refine ifd (fun _ => ?_) (fun h => absurd (show (0 : Int) < ds.length by omega) h)
  and_intros
  refine wp_lcA (fun d => .bl (isL d)) ?_
  and_intros
  refine ⟨len_szN (by omega), rfl, fun d hd => ?_, ?_⟩
  · refine ⟨_, gt_nm, ?_⟩
    and_intros
    refine wpc_rt (ispair_any (hf d hd)) rfl ?_
    and_intros
    exact ⟨rfl, wipe1⟩
  · rw [show List.map (fun d => D.bl (isL d)) ds = (ds.map isL).map D.bl by rw [List.map_map]; rfl]
    and_intros
    refine wp_ex (q_all _) ?_
    rw [show ((ds.map isL).all _root_.id) = false by
      rw [List.all_eq_false]
      exact ⟨false, List.mem_map.mpr ⟨d0, m0, b0⟩, by simp⟩]
    and_intros
    rfl
theorem are_all {qs : List (Int × Int)} (ne : qs ≠ []) (hl : qs.length < 64) (hin : ∀ p ∈ qs, In20 p) : Rt 2 b_are_pairs [.tup (limsD qs)] (.bl (decide qs.Nodup)) := by
  have hl2 : (limsD qs).length = qs.length := limsD_length qs
  have pos : 0 < qs.length := List.length_pos_iff.mpr ne
  obtain ⟨k, k1, k2⟩ := lenSet_any hl
  refine Rt.of ?_
  unfold b_are_pairs
  and_intros
  refine ifd (fun _ => ?_) (fun h => absurd (show (0 : Int) < (limsD qs).length by omega) h)
  and_intros
  refine wp_lcA (fun _ => .bl true) ?_
  and_intros
  refine ⟨len_szN (by omega), rfl, fun d hd => ?_, ?_⟩
  · obtain ⟨p, hp, rfl⟩ := List.mem_map.mp hd
    refine ⟨_, gt_nm, ?_⟩
    and_intros
    refine wpc_rt (is_pair_rt p) rfl ?_
    and_intros
    exact ⟨by rw [decide_eq_true (hin p hp)], rfl⟩
  · and_intros
    refine wp_ex (show dAll (.lst (List.map (fun _ => D.bl true) (limsD qs))) = some (.bl true) by
      have e : List.map (fun _ => D.bl true) (limsD qs) = (qs.map fun _ => true).map D.bl := by simp [limsD]
      rw [e, q_all]
      simp) ?_
    and_intros
    refine wp_ex k1 ?_
    and_intros
    rw [hl2]
    rw [decide_eq_decide.mpr k2]
/-! ### limits refused -/
theorem init_no {ds : List D} (h : Rt 2 b_are_pairs [.tup ds] (.bl false)) : MkX 0 2 b_Limits___init__ ds ⟨0, []⟩ := by
  refine MkX.of ?_
  unfold b_Limits___init__
  and_intros
  refine wpc_rt h rfl ?_
  and_intros
  exact wp_raise rfl
theorem fit_7 : tmFit " are more than " 7 6 = true := by decide +kernel
theorem init_many {qs : List (Int × Int)} (h7 : qs.length = 7) (nd : qs.Nodup) (hin : ∀ p ∈ qs, In20 p) : MkX 0 2 b_Limits___init__ (limsD qs) ⟨10, [("limit", .int 6), ("amount", .int 7)]⟩ := by
  have hl2 : (limsD qs).length = 7 := by rw [limsD_length, h7]
  have a := are_all (qs := qs) (fun e => by rw [e] at h7; cases h7) (by omega) hin
  rw [decide_eq_true nd] at a
  refine MkX.of ?_
  unfold b_Limits___init__
  and_intros
  refine wpc_rt a rfl ?_
  and_intros
  rw [hl2]
  refine ifd (fun _ => ?_) (fun z => absurd (by decide) z)
  refine wp_raiseT ?_
  and_intros
  rw [hl2]
  refine ⟨_, rfl, ?_⟩
  and_intros
  exact ⟨_, rfl, fit_7, rfl⟩
end G22
namespace G22
open PySem PySem.Spec PyProof.Rows L2 FC
local macro_rules | `(tactic| and_intros) => `(tactic| (repeat (first
  | with_reducible refine wp_seq ?_ | with_reducible refine wp_nx ?_ | with_reducible refine wp_rt ?_ | with_reducible refine wp_nil ?_ | with_reducible refine dk_val ?_ | with_reducible refine dk_lst ?_ | with_reducible refine ok_lst ?_ | with_reducible refine dk_ins ?_ | with_reducible refine ok_ins ?_ | with_reducible refine lp_nx ?_ | with_reducible refine lp_rt ?_ | with_reducible refine lp_ct ?_ | with_reducible refine lp_bk ?_ | with_reducible refine wp_bk ?_ | with_reducible refine wp_ctn ?_
  | with_reducible refine wp_if ?_ | with_reducible refine wp_ret ?_ | with_reducible refine wp_set ?_ | with_reducible refine wp_setN ?_ | with_reducible refine wp_retN ?_ | with_reducible refine wp_retNew ?_ | with_reducible refine wp_brk ?_ | with_reducible refine wp_ct ?_
  | with_reducible refine wp_f0 ?_ | with_reducible refine wp_f1 ?_ | with_reducible refine wp_f2 ?_
  | ((with_reducible apply wp_look); rfl) | ((with_reducible apply wp_var); rfl) | ((with_reducible apply wp_lookL); rfl) | ((with_reducible apply wp_lookI); rfl) | ((with_reducible apply wp_vVarO); rfl) | with_reducible refine wp_setP ?_ | with_reducible refine wp_cls ?_ | ((with_reducible apply wp_sup); rfl) | ((with_reducible apply wp_retVar); rfl) | ((with_reducible apply wp_retVarO); rfl)
  | with_reducible refine wp_and ?_ | with_reducible refine wp_tand ?_ | with_reducible refine wp_tor ?_ | with_reducible refine wp_tnot ?_ | with_reducible refine wp_fIf ?_
  | with_reducible refine wp_call ?_ | with_reducible refine wp_nCall ?_ | with_reducible refine wp_mth ?_ | with_reducible refine wp_prop ?_ | ((with_reducible apply wp_vVar); rfl) | with_reducible refine wp_vVal ?_
  | with_reducible refine wp_aNil ?_ | with_reducible refine wp_aVal ?_ | with_reducible refine wp_aNew ?_
  | ((with_reducible apply wp_aVar); rfl) | ((with_reducible apply wp_aVarS); rfl) | ((with_reducible apply wp_aVarW); rfl)
  | ((with_reducible apply wp_frz); rfl) | ((with_reducible apply wp_frzV); rfl)
  | with_reducible refine wp_tup ?_ | with_reducible refine wp_nLst ?_ | with_reducible refine wp_fD ?_ | with_reducible refine wp_iArgs ?_ | with_reducible refine wp_iSeq ?_ | with_reducible refine wp_for ?_
  | with_reducible refine wp_expr ?_ | with_reducible refine wp_makeS ?_ | ((with_reducible apply wp_makeL); rfl) | with_reducible refine wp_aCls ?_ | with_reducible refine wp_addO ?_ | with_reducible refine wp_exI ?_ | with_reducible refine wp_fJ0 ?_ | with_reducible refine wp_fJ1 ?_ | with_reducible refine wp_exS ?_ | with_reducible refine wp_s1 ?_ | with_reducible refine wp_n1 ?_ | with_reducible refine wp_aStar ?_ | with_reducible refine wp_par ?_ | with_reducible refine wp_asg ?_ | with_reducible refine wp_sl2 ?_
  | with_reducible refine wp_chain ?_ | with_reducible refine wp_or ?_ | with_reducible refine wp_exb ?_ | with_reducible refine wp_ex gt_nm ?_ | with_reducible refine wp_ex gt_2 ?_ | with_reducible refine wp_ex gt_2l ?_ | ((with_reducible apply wp_ex); first | with_reducible exact q_rvO | with_reducible exact q_dlL | with_reducible exact q_dlT | with_reducible exact q_strR | with_reducible exact q_isC_non | with_reducible exact q_isC_bl | with_reducible exact q_isC_int | with_reducible exact q_isC_str | with_reducible exact q_isC_lst | with_reducible exact q_isC_tup | with_reducible exact q_isC_ins rfl | with_reducible exact dEq_int _ _ | with_reducible exact dNe_int _ _ | with_reducible exact q_add | with_reducible exact q_sub | with_reducible exact q_lt | with_reducible exact q_le | with_reducible exact q_gt | with_reducible exact q_ge | with_reducible exact q_max2 | with_reducible exact q_min2 | with_reducible exact q_neg | with_reducible exact q_bl | with_reducible exact q_not | with_reducible exact q_trB | with_reducible exact q_trI | with_reducible exact q_trL | with_reducible exact q_trT | with_reducible exact q_lenL | with_reducible exact q_lenT | with_reducible exact q_itL | with_reducible exact q_itT | with_reducible exact q_int | with_reducible exact q_tupL | with_reducible exact q_tupT | with_reducible exact q_lstL | with_reducible exact q_lstT | with_reducible exact q_isN_non | with_reducible exact q_notN_non | with_reducible exact q_isNB_non | with_reducible exact q_notNB_non | with_reducible exact q_i_int_non | with_reducible exact q_i_bool_non | with_reducible exact q_i_str_non | with_reducible exact q_i_tuple_non | with_reducible exact q_i_list_non | with_reducible exact q_isN_bl | with_reducible exact q_notN_bl | with_reducible exact q_isNB_bl | with_reducible exact q_notNB_bl | with_reducible exact q_i_int_bl | with_reducible exact q_i_bool_bl | with_reducible exact q_i_str_bl | with_reducible exact q_i_tuple_bl | with_reducible exact q_i_list_bl | with_reducible exact q_isN_int | with_reducible exact q_notN_int | with_reducible exact q_isNB_int | with_reducible exact q_notNB_int | with_reducible exact q_i_int_int | with_reducible exact q_i_bool_int | with_reducible exact q_i_str_int | with_reducible exact q_i_tuple_int | with_reducible exact q_i_list_int | with_reducible exact q_isN_str | with_reducible exact q_notN_str | with_reducible exact q_isNB_str | with_reducible exact q_notNB_str | with_reducible exact q_i_int_str | with_reducible exact q_i_bool_str | with_reducible exact q_i_str_str | with_reducible exact q_i_tuple_str | with_reducible exact q_i_list_str | with_reducible exact q_isN_lst | with_reducible exact q_notN_lst | with_reducible exact q_isNB_lst | with_reducible exact q_notNB_lst | with_reducible exact q_i_int_lst | with_reducible exact q_i_bool_lst | with_reducible exact q_i_str_lst | with_reducible exact q_i_tuple_lst | with_reducible exact q_i_list_lst | with_reducible exact q_isN_tup | with_reducible exact q_notN_tup | with_reducible exact q_isNB_tup | with_reducible exact q_notNB_tup | with_reducible exact q_i_int_tup | with_reducible exact q_i_bool_tup | with_reducible exact q_i_str_tup | with_reducible exact q_i_tuple_tup | with_reducible exact q_i_list_tup | with_reducible exact q_fld | with_reducible exact q_al0 | with_reducible exact q_al1 | with_reducible exact q_al2 | with_reducible exact q_al3 | with_reducible exact q_al4 | with_reducible exact q_al5 | with_reducible exact q_al6 | with_reducible exact q_al7 | with_reducible exact q_al8 | ((with_reducible show FC.putAll _ _ _ = some _); rfl)) | ((with_reducible apply wp_exP); ((with_reducible show FC.avC _ _ = some _); rfl)) | ((with_reducible apply wp_exbl); first | with_reducible exact q_le | with_reducible exact q_lt | with_reducible exact q_ge | with_reducible exact q_gt | with_reducible exact dEq_int _ _ | with_reducible exact dNe_int _ _)
  | with_reducible refine ifTt ?_ | with_reducible refine ifFf ?_ | with_reducible refine ifNt ?_ | with_reducible refine ifNf ?_
  | with_reducible refine wp_lk1 (by decide) ?_ | with_reducible refine wp_lk2 (by decide) (by decide) ?_ | with_reducible refine wp_lk3 (by decide) (by decide) (by decide) ?_ | ((with_reducible apply wp_avm); rfl)
  | ((with_reducible apply wp_szR); rfl))))
/-! ### is it a limit? by the law -/
/-! the same by the law -/
theorem islim_el {d : D} (h : kndA [0, 1] d = true) {s : SV} : Wp (Cn__law_is_limit_1 [s, .val d]) (fun k g => k = !i20 d ∧ g = [s, .val d]) FC.E0 := by
  unfold Cn__law_is_limit_1
  and_intros
  refine wp_ex (isInt_rt h) ?_
  cases e : isIntD d with
  | false =>
    and_intros
    refine ⟨?_, rfl⟩
    cases d with
    | int _ => cases e
    | bl _ => cases e
    | _ => rfl
  | true =>
    and_intros
    refine wp_ex (isBl_rt h) ?_
    cases f : isBlD d with
    | true =>
      and_intros
      refine ⟨?_, rfl⟩
      cases d with
      | bl _ => rfl
      | _ => cases f
    | false =>
      obtain ⟨z, rfl⟩ : ∃ z, d = .int z := by
        cases d with
        | int z => exact ⟨z, rfl⟩
        | bl _ => cases f
        | _ => cases e
      and_intros
      refine ifd (fun h1 => ?_) (fun h1 => ?_)
      · and_intros
        refine ⟨?_, rfl⟩
        simp [i20, h1]
      · and_intros
        refine ⟨?_, rfl⟩
        simp [i20, h1]
theorem onesA_nil (es : List D) : dEq (.lst (es.map fun _ => D.int 1)) (.lst []) = some (.bl es.isEmpty) := by
  have h := dEq_nilL (es.map fun _ => (1 : Int))
  rw [List.map_map, List.isEmpty_map] at h
  exact h
theorem islimA {d : D} (h : parts d = true) : Rt 2 b__law_is_limit [d] (.bl (isL d)) := by
  cases e : isTupD d with
  | false =>
    rw [isL_not e]
    refine Rt.of ?_
    unfold b__law_is_limit
    and_intros
    refine wp_ex (isTup_rt (parts_knd h)) ?_
    rw [e]
    and_intros
    rfl
  | true =>
    cases d with
    | tup ds =>
      by_cases l : ds.length = 2
      · refine Rt.of ?_
        show Wp (b__law_is_limit [.val (.tup ds), .none]) _ _
        unfold b__law_is_limit
        and_intros
        refine wp_ex (isTup_rt rfl) ?_
        rw [show isTupD (.tup ds) = true from rfl]
        and_intros
        refine ifn (fun z => absurd (show ((ds.length : Nat) : Int) = 2 by omega) z) fun _ => ?_
        and_intros
        refine wp_lc (fun d => !i20 d) (fun _ => .int 1) ?_
        and_intros
        refine ⟨len_szN (by omega), rfl, fun d hd => ?_, ?_⟩
        · refine ⟨_, gt_nm, ?_⟩
          refine (islim_el (List.all_eq_true.mp h d hd)).imp ?_
          rintro k g ⟨rfl, rfl⟩
          refine ⟨rfl, fun _ => ?_, fun _ => rfl⟩
          and_intros
          exact ⟨rfl, rfl⟩
        · and_intros
          refine wp_ex (onesA_nil _) ?_
          obtain ⟨a, b, rfl⟩ := two_of l
          refine congrArg (fun b => Fl.ret (RV.val (D.bl b))) ?_
          cases e1 : i20 a <;> cases e2 : i20 b <;> simp [isL, e1, e2]
      · rw [isL_len l]
        refine Rt.of ?_
        unfold b__law_is_limit
        and_intros
        refine wp_ex (isTup_rt rfl) ?_
        rw [show isTupD (.tup ds) = true from rfl]
        and_intros
        refine ifn (fun _ => ?_) (fun z => absurd z (by omega))
        and_intros
        rfl
    | ft _ => cases h
    | _ => cases e
end G22
namespace G22
open PySem PySem.Spec PyProof.Rows L2 FC
local macro_rules | `(tactic| and_intros) => `(tactic| (repeat (first
  | with_reducible refine wp_seq ?_ | with_reducible refine wp_nx ?_ | with_reducible refine wp_rt ?_ | with_reducible refine wp_nil ?_ | with_reducible refine dk_val ?_ | with_reducible refine dk_lst ?_ | with_reducible refine ok_lst ?_ | with_reducible refine dk_ins ?_ | with_reducible refine ok_ins ?_ | with_reducible refine lp_nx ?_ | with_reducible refine lp_rt ?_ | with_reducible refine lp_ct ?_ | with_reducible refine lp_bk ?_ | with_reducible refine wp_bk ?_ | with_reducible refine wp_ctn ?_
  | with_reducible refine wp_if ?_ | with_reducible refine wp_ret ?_ | with_reducible refine wp_set ?_ | with_reducible refine wp_setN ?_ | with_reducible refine wp_retN ?_ | with_reducible refine wp_retNew ?_ | with_reducible refine wp_brk ?_ | with_reducible refine wp_ct ?_
  | with_reducible refine wp_f0 ?_ | with_reducible refine wp_f1 ?_ | with_reducible refine wp_f2 ?_
  | ((with_reducible apply wp_look); rfl) | ((with_reducible apply wp_var); rfl) | ((with_reducible apply wp_lookL); rfl) | ((with_reducible apply wp_lookI); rfl) | ((with_reducible apply wp_vVarO); rfl) | with_reducible refine wp_setP ?_ | with_reducible refine wp_cls ?_ | ((with_reducible apply wp_sup); rfl) | ((with_reducible apply wp_retVar); rfl) | ((with_reducible apply wp_retVarO); rfl)
  | with_reducible refine wp_and ?_ | with_reducible refine wp_tand ?_ | with_reducible refine wp_tor ?_ | with_reducible refine wp_tnot ?_ | with_reducible refine wp_fIf ?_
  | with_reducible refine wp_call ?_ | with_reducible refine wp_nCall ?_ | with_reducible refine wp_mth ?_ | with_reducible refine wp_prop ?_ | ((with_reducible apply wp_vVar); rfl) | with_reducible refine wp_vVal ?_
  | with_reducible refine wp_aNil ?_ | with_reducible refine wp_aVal ?_ | with_reducible refine wp_aNew ?_
  | ((with_reducible apply wp_aVar); rfl) | ((with_reducible apply wp_aVarS); rfl) | ((with_reducible apply wp_aVarW); rfl)
  | ((with_reducible apply wp_frz); rfl) | ((with_reducible apply wp_frzV); rfl)
  | with_reducible refine wp_tup ?_ | with_reducible refine wp_nLst ?_ | with_reducible refine wp_fD ?_ | with_reducible refine wp_iArgs ?_ | with_reducible refine wp_iSeq ?_ | with_reducible refine wp_for ?_
  | with_reducible refine wp_expr ?_ | with_reducible refine wp_makeS ?_ | ((with_reducible apply wp_makeL); rfl) | with_reducible refine wp_aCls ?_ | with_reducible refine wp_addO ?_ | with_reducible refine wp_exI ?_ | with_reducible refine wp_fJ0 ?_ | with_reducible refine wp_fJ1 ?_ | with_reducible refine wp_exS ?_ | with_reducible refine wp_s1 ?_ | with_reducible refine wp_n1 ?_ | with_reducible refine wp_aStar ?_ | with_reducible refine wp_par ?_ | with_reducible refine wp_asg ?_ | with_reducible refine wp_sl2 ?_
  | with_reducible refine wp_chain ?_ | with_reducible refine wp_or ?_ | with_reducible refine wp_exb ?_ | with_reducible refine wp_ex gt_nm ?_ | with_reducible refine wp_ex gt_2 ?_ | with_reducible refine wp_ex gt_2l ?_ | ((with_reducible apply wp_ex); first | with_reducible exact q_rvO | with_reducible exact q_dlL | with_reducible exact q_dlT | with_reducible exact q_strR | with_reducible exact q_isC_non | with_reducible exact q_isC_bl | with_reducible exact q_isC_int | with_reducible exact q_isC_str | with_reducible exact q_isC_lst | with_reducible exact q_isC_tup | with_reducible exact q_isC_ins rfl | with_reducible exact dEq_int _ _ | with_reducible exact dNe_int _ _ | with_reducible exact q_add | with_reducible exact q_sub | with_reducible exact q_lt | with_reducible exact q_le | with_reducible exact q_gt | with_reducible exact q_ge | with_reducible exact q_max2 | with_reducible exact q_min2 | with_reducible exact q_neg | with_reducible exact q_bl | with_reducible exact q_not | with_reducible exact q_trB | with_reducible exact q_trI | with_reducible exact q_trL | with_reducible exact q_trT | with_reducible exact q_lenL | with_reducible exact q_lenT | with_reducible exact q_itL | with_reducible exact q_itT | with_reducible exact q_int | with_reducible exact q_tupL | with_reducible exact q_tupT | with_reducible exact q_lstL | with_reducible exact q_lstT | with_reducible exact q_isN_non | with_reducible exact q_notN_non | with_reducible exact q_isNB_non | with_reducible exact q_notNB_non | with_reducible exact q_i_int_non | with_reducible exact q_i_bool_non | with_reducible exact q_i_str_non | with_reducible exact q_i_tuple_non | with_reducible exact q_i_list_non | with_reducible exact q_isN_bl | with_reducible exact q_notN_bl | with_reducible exact q_isNB_bl | with_reducible exact q_notNB_bl | with_reducible exact q_i_int_bl | with_reducible exact q_i_bool_bl | with_reducible exact q_i_str_bl | with_reducible exact q_i_tuple_bl | with_reducible exact q_i_list_bl | with_reducible exact q_isN_int | with_reducible exact q_notN_int | with_reducible exact q_isNB_int | with_reducible exact q_notNB_int | with_reducible exact q_i_int_int | with_reducible exact q_i_bool_int | with_reducible exact q_i_str_int | with_reducible exact q_i_tuple_int | with_reducible exact q_i_list_int | with_reducible exact q_isN_str | with_reducible exact q_notN_str | with_reducible exact q_isNB_str | with_reducible exact q_notNB_str | with_reducible exact q_i_int_str | with_reducible exact q_i_bool_str | with_reducible exact q_i_str_str | with_reducible exact q_i_tuple_str | with_reducible exact q_i_list_str | with_reducible exact q_isN_lst | with_reducible exact q_notN_lst | with_reducible exact q_isNB_lst | with_reducible exact q_notNB_lst | with_reducible exact q_i_int_lst | with_reducible exact q_i_bool_lst | with_reducible exact q_i_str_lst | with_reducible exact q_i_tuple_lst | with_reducible exact q_i_list_lst | with_reducible exact q_isN_tup | with_reducible exact q_notN_tup | with_reducible exact q_isNB_tup | with_reducible exact q_notNB_tup | with_reducible exact q_i_int_tup | with_reducible exact q_i_bool_tup | with_reducible exact q_i_str_tup | with_reducible exact q_i_tuple_tup | with_reducible exact q_i_list_tup | with_reducible exact q_fld | with_reducible exact q_al0 | with_reducible exact q_al1 | with_reducible exact q_al2 | with_reducible exact q_al3 | with_reducible exact q_al4 | with_reducible exact q_al5 | with_reducible exact q_al6 | with_reducible exact q_al7 | with_reducible exact q_al8 | ((with_reducible show FC.putAll _ _ _ = some _); rfl)) | ((with_reducible apply wp_exP); ((with_reducible show FC.avC _ _ = some _); rfl)) | ((with_reducible apply wp_exbl); first | with_reducible exact q_le | with_reducible exact q_lt | with_reducible exact q_ge | with_reducible exact q_gt | with_reducible exact dEq_int _ _ | with_reducible exact dNe_int _ _)
  | with_reducible refine ifTt ?_ | with_reducible refine ifFf ?_ | with_reducible refine ifNt ?_ | with_reducible refine ifNf ?_
  | with_reducible refine wp_lk1 (by decide) ?_ | with_reducible refine wp_lk2 (by decide) (by decide) ?_ | with_reducible refine wp_lk3 (by decide) (by decide) (by decide) ?_ | ((with_reducible apply wp_avm); rfl)
  | ((with_reducible apply wp_szR); rfl))))
/-! ### rows of values that can be told -/
def okE (d : D) : Bool := parts d && (plD d && match txD rpM 7 d with
  | some t => decide (t.length ≤ 1000)
  | none => false)
theorem okE_parts {d : D} (h : okE d = true) : parts d = true := (He.ba h).1
theorem okE_tx {d : D} (h : okE d = true) : plD d = true ∧ ∃ t, txD rpM 7 d = some t ∧ t.length ≤ 1000 := by
  obtain ⟨h1, h2⟩ := He.ba (He.ba h).2
  refine ⟨h1, ?_⟩
  split at h2
  · rename_i t e
    exact ⟨t, e, of_decide_eq_true h2⟩
  · cases h2
theorem plL_all : ∀ {ds : List D}, (∀ d ∈ ds, okE d = true) → plL ds = true
  | [], _ => rfl
  | d :: ds, h => by
    show (plD d && plL ds) = true
    rw [(okE_tx (h d List.mem_cons_self)).1, plL_all fun x hx => h x (List.mem_cons_of_mem _ hx)]
    rfl
theorem allO_all : ∀ {ds : List D}, (∀ d ∈ ds, okE d = true) → ∃ ts, allO (txD rpM 7) ds = some ts ∧ ts.length = ds.length ∧ ∀ t ∈ ts, t.length ≤ 1000
  | [], _ => ⟨[], rfl, rfl, fun _ h => nomatch h⟩
  | d :: ds, h => by
    obtain ⟨_, t, e, l⟩ := okE_tx (h d List.mem_cons_self)
    obtain ⟨ts, e2, l2, a⟩ := allO_all fun x hx => h x (List.mem_cons_of_mem _ hx)
    refine ⟨t :: ts, ?_, by rw [List.length_cons, List.length_cons, l2], fun x hx => (List.mem_cons.mp hx).elim (fun w => by rw [w]; exact l) (a x)⟩
    simp only [allO, e, e2, Option.bind_some, Option.map_some]
theorem textFrom_le : ∀ (ts : List Str) (k : Nat) (acc : Str), (∀ t ∈ ts, t.length ≤ 1000) → (textFrom k acc ts).length ≤ acc.length + 1002 * ts.length
  | [], _, acc, _ => by show acc.length ≤ _; omega
  | t :: r, k, acc, h => by
    have ih := textFrom_le r (k + 1) (acc ++ (if k > 0 then ", " else "" : String) ++ t) fun x hx => h x (List.mem_cons_of_mem _ hx)
    have e : (acc ++ (if k > 0 then ", " else "" : String) ++ t).length = acc.length + (if k > 0 then 2 else 0) + t.length := by
      rw [strLen_append, strLen_append]
      split <;> rfl
    have ht := h t List.mem_cons_self
    rw [e] at ih
    show (textFrom (k + 1) _ r).length ≤ _
    have d1 : (if k > 0 then 2 else 0 : Nat) ≤ 2 := by split <;> omega
    rw [List.length_cons]
    omega
theorem row_told {ds : List D} (h : ∀ d ∈ ds, okE d = true) (hl : ds.length ≤ 100) : ∃ y, dReprA rpM (.lst ds) = some (.str y) := by
  obtain ⟨ts, e, l, a⟩ := allO_all h
  have b := textFrom_le ts 0 "[" a
  refine ⟨listText ts, ?_⟩
  unfold dReprA
  rw [if_pos (show plD (.lst ds) = true from plL_all h)]
  simp only [txD, e, Option.map_some, Option.bind_some]
  rw [if_pos (len_szN (by
    unfold listText
    rw [strLen_append]
    have e1 : (("[" : String) : Str).length = 1 := by decide
    have e2 : (("]" : String) : Str).length = 1 := by decide
    omega))]
theorem lim_okE {p : Int × Int} (h : In20 p) : okE (limD p) = true := by
  have all : ∀ a b : Fin 20, okE (limD (((a : Nat) : Int) + 1, ((b : Nat) : Int) + 1)) = true := by decide +kernel
  obtain ⟨x, y⟩ := p
  obtain ⟨h1, h2, h3, h4⟩ := h
  simp only at h1 h2 h3 h4
  have e := all ⟨(x - 1).toNat, by omega⟩ ⟨(y - 1).toNat, by omega⟩
  rw [show (((⟨(x - 1).toNat, by omega⟩ : Fin 20) : Nat) : Int) + 1 = x by show ((x - 1).toNat : Int) + 1 = x; omega, show (((⟨(y - 1).toNat, by omega⟩ : Fin 20) : Nat) : Int) + 1 = y by show ((y - 1).toNat : Int) + 1 = y; omega] at e
  exact e
/-! ### the law's own look -/
theorem islim_rt {p : Int × Int} (h : In20 p) : Rt 2 b__law_is_limit [limD p] (.bl true) := by
  have := islimA (d := limD p) rfl
  rwa [lim_isL h] at this
theorem cnt_pr {qs : List (Int × Int)} (p : Int × Int) : dCnt (.lst (limsD qs)) (limD p) = some (.int (qs.count p : Nat)) := by
  have h := (prYs_lay qs).2
  simp only [dCnt, limsD_data, limD_data]
  rw [if_pos (by omega)]
  congr 3
  rw [List.countP_map, List.count]
  refine List.countP_congr fun q _ => ?_
  simp only [Function.comp_apply, limY_eqv, decide_eq_true_eq, beq_iff_eq]
def dupC (qs : List (Int × Int)) : D → Bool
  | .tup [.int a, .int b] => decide (1 < qs.count (a, b))
  | _ => false
theorem dup_nil {qs : List (Int × Int)} : ((limsD qs).filter (dupC qs)).isEmpty = decide qs.Nodup := by
  by_cases h : qs.Nodup
  · rw [decide_eq_true h]
    have e : (limsD qs).filter (dupC qs) = [] := List.filter_eq_nil_iff.mpr fun d hd => by
      obtain ⟨p, _, rfl⟩ := List.mem_map.mp hd
      have : qs.count (p.1, p.2) ≤ 1 := List.nodup_iff_count.mp h p
      simp only [dupC, limD, decide_eq_true_eq]
      omega
    rw [e]
    rfl
  · rw [decide_eq_false h]
    have : ∃ p, 1 < qs.count p := Classical.byContradiction fun z => h (List.nodup_iff_count.mpr fun p => Nat.le_of_not_lt fun y => z ⟨p, y⟩)
    obtain ⟨p, hp⟩ := this
    have hm : p ∈ qs := List.count_pos_iff.mp (by omega)
    have : limD p ∈ (limsD qs).filter (dupC qs) := List.mem_filter.mpr ⟨List.mem_map.mpr ⟨p, hm, rfl⟩, by simp only [dupC, limD, decide_eq_true_eq]; exact hp⟩
    cases e : (limsD qs).filter (dupC qs) with
    | nil => rw [e] at this; cases this
    | cons _ _ => rfl
theorem arelim_rt {qs : List (Int × Int)} (hin : ∀ p ∈ qs, In20 p) (hl : qs.length ≤ 100) : Rt 2 b__law_are_limits [.lst (limsD qs)] (.bl (decide (qs ≠ [] ∧ qs.Nodup))) := by
  have hl2 : (limsD qs).length = qs.length := limsD_length qs
  refine Rt.of ?_
  unfold b__law_are_limits
  and_intros
  rw [hl2]
  refine ifd (fun z => ?_) fun z => ?_
  · have e : qs = [] := List.length_eq_zero_iff.mp (by omega)
    subst e
    and_intros
    rfl
  have ne : qs ≠ [] := fun e => z (by rw [e]; rfl)
  and_intros
  refine wp_lc (fun _ => false) (fun _ => .int 1) ?_
  and_intros
  refine ⟨len_szN (by omega), rfl, fun d hd => ?_, ?_⟩
  · obtain ⟨p, hp, rfl⟩ := List.mem_map.mp hd
    refine ⟨_, gt_nm, ?_⟩
    unfold Cn__law_are_limits_1
    and_intros
    refine wpc_rt (islim_rt (hin p hp)) rfl ?_
    and_intros
    exact ⟨rfl, (fun w => absurd w (by decide)), fun _ => wipe1⟩
  · rw [show List.map (fun _ => D.int 1) (List.filter (fun _ => false) (limsD qs)) = ([] : List Int).map D.int by rw [List.filter_eq_nil_iff.mpr fun _ _ => by simp]; rfl]
    and_intros
    refine wp_ex (dNe_nilL []) ?_
    refine ⟨_, rfl, (fun w => absurd w (by decide)), fun _ => ?_⟩
    and_intros
    refine wp_lc (dupC qs) (fun _ => .int 1) ?_
    and_intros
    refine ⟨len_szN (by omega), rfl, fun d hd => ?_, ?_⟩
    · obtain ⟨p, hp, rfl⟩ := List.mem_map.mp hd
      refine ⟨_, gt_nm, ?_⟩
      unfold Cn__law_are_limits_2
      and_intros
      refine wp_cnt ?_
      and_intros
      refine ⟨_, rfl, ?_⟩
      and_intros
      refine ⟨_, cnt_pr p, ?_⟩
      and_intros
      refine ⟨?_, fun _ => ?_, fun _ => wipe1⟩
      · simp only [dupC, limD]
        have e : qs.count (p.1, p.2) = qs.count p := rfl
        exact decide_eq_decide.mpr (by omega)
      · and_intros
        exact ⟨rfl, wipe1⟩
    · rw [show List.map (fun _ => D.int 1) (List.filter (dupC qs) (limsD qs)) = ((List.filter (dupC qs) (limsD qs)).map fun _ => (1 : Int)).map D.int by rw [List.map_map]; rfl]
      and_intros
      refine wp_ex (dEq_nilL _) ?_
      rw [List.isEmpty_map, dup_nil]
      simp [ne]
theorem onesA_ne (es : List D) : dNe (.lst (es.map fun _ => D.int 1)) (.lst []) = some (.bl !es.isEmpty) := by
  have h := dNe_nilL (es.map fun _ => (1 : Int))
  rw [List.map_map, List.isEmpty_map] at h
  exact h
theorem arelim_bad {es : List D} (hl : es.length ≤ 1000) (hf : ∀ e ∈ es, parts e = true) (hbad : ∃ e ∈ es, isL e = false) : Rt 2 b__law_are_limits [.lst es] (.bl false) := by
  obtain ⟨e0, m0, b0⟩ := hbad
  have pos : 0 < es.length := List.length_pos_of_mem m0
  refine Rt.of ?_
  unfold b__law_are_limits
  and_intros
  refine ifd (fun z => absurd z (by omega)) fun _ => ?_
  and_intros
  refine wp_lc (fun d => !isL d) (fun _ => .int 1) ?_
  and_intros
  refine ⟨len_szN (by omega), rfl, fun d hd => ?_, ?_⟩
  · refine ⟨_, gt_nm, ?_⟩
    unfold Cn__law_are_limits_1
    and_intros
    refine wpc_rt (islimA (hf d hd)) rfl ?_
    and_intros
    refine ⟨rfl, fun _ => ?_, fun _ => wipe1⟩
    and_intros
    exact ⟨rfl, wipe1⟩
  · and_intros
    refine wp_ex (onesA_ne _) ?_
    have : ((es.filter fun d => !isL d)).isEmpty = false := by
      have : e0 ∈ es.filter fun d => !isL d := List.mem_filter.mpr ⟨m0, by rw [b0]; rfl⟩
      cases e : es.filter fun d => !isL d with
      | nil => rw [e] at this; cases this
      | cons _ _ => rfl
    rw [this]
    refine ⟨_, rfl, fun _ => ?_, (fun w => absurd w (by decide))⟩
    and_intros
    rfl
end G22
namespace G22
open PySem PySem.Spec PyProof.Rows L2 FC
local macro_rules | `(tactic| and_intros) => `(tactic| (repeat (first
  | with_reducible refine wp_seq ?_ | with_reducible refine wp_nx ?_ | with_reducible refine wp_rt ?_ | with_reducible refine wp_nil ?_ | with_reducible refine dk_val ?_ | with_reducible refine dk_lst ?_ | with_reducible refine ok_lst ?_ | with_reducible refine dk_ins ?_ | with_reducible refine ok_ins ?_ | with_reducible refine lp_nx ?_ | with_reducible refine lp_rt ?_ | with_reducible refine lp_ct ?_ | with_reducible refine lp_bk ?_ | with_reducible refine wp_bk ?_ | with_reducible refine wp_ctn ?_
  | with_reducible refine wp_if ?_ | with_reducible refine wp_ret ?_ | with_reducible refine wp_set ?_ | with_reducible refine wp_setN ?_ | with_reducible refine wp_retN ?_ | with_reducible refine wp_retNew ?_ | with_reducible refine wp_brk ?_ | with_reducible refine wp_ct ?_
  | with_reducible refine wp_f0 ?_ | with_reducible refine wp_f1 ?_ | with_reducible refine wp_f2 ?_
  | ((with_reducible apply wp_look); rfl) | ((with_reducible apply wp_var); rfl) | ((with_reducible apply wp_lookL); rfl) | ((with_reducible apply wp_lookI); rfl) | ((with_reducible apply wp_vVarO); rfl) | with_reducible refine wp_setP ?_ | with_reducible refine wp_cls ?_ | ((with_reducible apply wp_sup); rfl) | ((with_reducible apply wp_retVar); rfl) | ((with_reducible apply wp_retVarO); rfl)
  | with_reducible refine wp_and ?_ | with_reducible refine wp_tand ?_ | with_reducible refine wp_tor ?_ | with_reducible refine wp_tnot ?_ | with_reducible refine wp_fIf ?_
  | with_reducible refine wp_call ?_ | with_reducible refine wp_nCall ?_ | with_reducible refine wp_mth ?_ | with_reducible refine wp_prop ?_ | ((with_reducible apply wp_vVar); rfl) | with_reducible refine wp_vVal ?_
  | with_reducible refine wp_aNil ?_ | with_reducible refine wp_aVal ?_ | with_reducible refine wp_aNew ?_
  | ((with_reducible apply wp_aVar); rfl) | ((with_reducible apply wp_aVarS); rfl) | ((with_reducible apply wp_aVarW); rfl)
  | ((with_reducible apply wp_frz); rfl) | ((with_reducible apply wp_frzV); rfl)
  | with_reducible refine wp_tup ?_ | with_reducible refine wp_nLst ?_ | with_reducible refine wp_fD ?_ | with_reducible refine wp_iArgs ?_ | with_reducible refine wp_iSeq ?_ | with_reducible refine wp_for ?_
  | with_reducible refine wp_expr ?_ | with_reducible refine wp_makeS ?_ | ((with_reducible apply wp_makeL); rfl) | with_reducible refine wp_aCls ?_ | with_reducible refine wp_addO ?_ | with_reducible refine wp_exI ?_ | with_reducible refine wp_fJ0 ?_ | with_reducible refine wp_fJ1 ?_ | with_reducible refine wp_exS ?_ | with_reducible refine wp_s1 ?_ | with_reducible refine wp_n1 ?_ | with_reducible refine wp_aStar ?_ | with_reducible refine wp_par ?_ | with_reducible refine wp_asg ?_ | with_reducible refine wp_sl2 ?_
  | with_reducible refine wp_chain ?_ | with_reducible refine wp_or ?_ | with_reducible refine wp_exb ?_ | with_reducible refine wp_ex gt_nm ?_ | with_reducible refine wp_ex gt_2 ?_ | with_reducible refine wp_ex gt_2l ?_ | ((with_reducible apply wp_ex); first | with_reducible exact q_rvO | with_reducible exact q_dlL | with_reducible exact q_dlT | with_reducible exact q_strR | with_reducible exact q_isC_non | with_reducible exact q_isC_bl | with_reducible exact q_isC_int | with_reducible exact q_isC_str | with_reducible exact q_isC_lst | with_reducible exact q_isC_tup | with_reducible exact q_isC_ins rfl | with_reducible exact dEq_int _ _ | with_reducible exact dNe_int _ _ | with_reducible exact q_add | with_reducible exact q_sub | with_reducible exact q_lt | with_reducible exact q_le | with_reducible exact q_gt | with_reducible exact q_ge | with_reducible exact q_max2 | with_reducible exact q_min2 | with_reducible exact q_neg | with_reducible exact q_bl | with_reducible exact q_not | with_reducible exact q_trB | with_reducible exact q_trI | with_reducible exact q_trL | with_reducible exact q_trT | with_reducible exact q_lenL | with_reducible exact q_lenT | with_reducible exact q_itL | with_reducible exact q_itT | with_reducible exact q_int | with_reducible exact q_tupL | with_reducible exact q_tupT | with_reducible exact q_lstL | with_reducible exact q_lstT | with_reducible exact q_isN_non | with_reducible exact q_notN_non | with_reducible exact q_isNB_non | with_reducible exact q_notNB_non | with_reducible exact q_i_int_non | with_reducible exact q_i_bool_non | with_reducible exact q_i_str_non | with_reducible exact q_i_tuple_non | with_reducible exact q_i_list_non | with_reducible exact q_isN_bl | with_reducible exact q_notN_bl | with_reducible exact q_isNB_bl | with_reducible exact q_notNB_bl | with_reducible exact q_i_int_bl | with_reducible exact q_i_bool_bl | with_reducible exact q_i_str_bl | with_reducible exact q_i_tuple_bl | with_reducible exact q_i_list_bl | with_reducible exact q_isN_int | with_reducible exact q_notN_int | with_reducible exact q_isNB_int | with_reducible exact q_notNB_int | with_reducible exact q_i_int_int | with_reducible exact q_i_bool_int | with_reducible exact q_i_str_int | with_reducible exact q_i_tuple_int | with_reducible exact q_i_list_int | with_reducible exact q_isN_str | with_reducible exact q_notN_str | with_reducible exact q_isNB_str | with_reducible exact q_notNB_str | with_reducible exact q_i_int_str | with_reducible exact q_i_bool_str | with_reducible exact q_i_str_str | with_reducible exact q_i_tuple_str | with_reducible exact q_i_list_str | with_reducible exact q_isN_lst | with_reducible exact q_notN_lst | with_reducible exact q_isNB_lst | with_reducible exact q_notNB_lst | with_reducible exact q_i_int_lst | with_reducible exact q_i_bool_lst | with_reducible exact q_i_str_lst | with_reducible exact q_i_tuple_lst | with_reducible exact q_i_list_lst | with_reducible exact q_isN_tup | with_reducible exact q_notN_tup | with_reducible exact q_isNB_tup | with_reducible exact q_notNB_tup | with_reducible exact q_i_int_tup | with_reducible exact q_i_bool_tup | with_reducible exact q_i_str_tup | with_reducible exact q_i_tuple_tup | with_reducible exact q_i_list_tup | with_reducible exact q_fld | with_reducible exact q_al0 | with_reducible exact q_al1 | with_reducible exact q_al2 | with_reducible exact q_al3 | with_reducible exact q_al4 | with_reducible exact q_al5 | with_reducible exact q_al6 | with_reducible exact q_al7 | with_reducible exact q_al8 | ((with_reducible show FC.putAll _ _ _ = some _); rfl)) | ((with_reducible apply wp_exP); ((with_reducible show FC.avC _ _ = some _); rfl)) | ((with_reducible apply wp_exbl); first | with_reducible exact q_le | with_reducible exact q_lt | with_reducible exact q_ge | with_reducible exact q_gt | with_reducible exact dEq_int _ _ | with_reducible exact dNe_int _ _)
  | with_reducible refine ifTt ?_ | with_reducible refine ifFf ?_ | with_reducible refine ifNt ?_ | with_reducible refine ifNf ?_
  | with_reducible refine wp_lk1 (by decide) ?_ | with_reducible refine wp_lk2 (by decide) (by decide) ?_ | with_reducible refine wp_lk3 (by decide) (by decide) (by decide) ?_ | ((with_reducible apply wp_avm); rfl)
  | ((with_reducible apply wp_szR); rfl))))
/-! ### what limits tell of themselves -/
theorem len_rt (ps : List (Int × Int)) : Rt 1 b_Limits___len__ [lim ps] (.int ps.length) := by
  refine Rt.of ?_
  unfold b_Limits___len__
  and_intros
  rw [limsD_length]
theorem get_rt {ps : List (Int × Int)} {k : Nat} (hk : k < ps.length) : Rt 2 b_Limits___getitem__ [lim ps, .int k] (limD ps[k]) := by
  have hl : (limsD ps).length = ps.length := limsD_length ps
  refine Rt.of ?_
  unfold b_Limits___getitem__
  and_intros
  refine wpc_rt (is_between_rt k 0 _) rfl ?_
  and_intros
  refine ifn (fun h => absurd (by omega) h) (fun _ => ?_)
  and_intros
  refine wp_ex (q_ixTE (k := k) (d := limD ps[k]) rfl (by unfold limsD; rw [List.getElem?_map, List.getElem?_eq_getElem hk]; rfl)) ?_
  and_intros
  rfl
theorem repr_rt {ps : List (Int × Int)} (hl : ps.length ≤ 1000) : Rt 1 b_Limits___repr__ [lim ps] (.str (nameS ps.length)) := by
  have hl2 : (limsD ps).length = ps.length := limsD_length ps
  refine Rt.of ?_
  unfold b_Limits___repr__
  and_intros
  refine ⟨len_szN (by decide), ?_⟩
  and_intros
  rw [hl2]
  refine wp_ex (q_fmtI (log_small (by omega))) ?_
  have nl := numS_len (i := (ps.length : Int)) (by omega)
  have e1 : (("Limits(" : String) : Str).length = 7 := by decide
  have e2 : ((" limits)" : String) : Str).length = 8 := by decide
  have e0 : Str.empty.length = 0 := rfl
  and_intros
  refine ⟨len_szN (by simp only [strLen_add]; omega), ?_⟩
  and_intros
  refine ⟨len_szN (by simp only [strLen_add]; omega), ?_⟩
  and_intros
  rw [empty_app]
  rfl
def lineF : D → D | .tup [.int a, .int b] => .str (lineS (a, b)) | _ => .non
theorem lineF_map (ps : List (Int × Int)) : (limsD ps).map lineF = (ps.map lineS).map D.str := by simp [limsD, limD, lineF, List.map_map, Function.comp_def]
theorem text_rt {ps : List (Int × Int)} (h : ∀ p ∈ ps, In20 p) (hl : ps.length ≤ 1000) : Rt 3 b_Limits_text [lim ps] (.str (limText ps)) := by
  have hl2 : (limsD ps).length = ps.length := limsD_length ps
  refine Rt.of ?_
  unfold b_Limits_text
  and_intros
  refine wp_lcA lineF ?_
  and_intros
  refine ⟨len_szN (by omega), rfl, fun d hd => ?_, ?_⟩
  · obtain ⟨p, hp, rfl⟩ := List.mem_map.mp hd
    obtain ⟨h1, h2, h3, h4⟩ := h p hp
    have n1 := numS_len (i := p.1) (by omega)
    have n2 := numS_len (i := p.2) (by omega)
    have e1 : (("at most " : String) : Str).length = 8 := by decide
    have e2 : ((" in " : String) : Str).length = 4 := by decide
    have e3 : (("\n" : String) : Str).length = 1 := by decide
    have e0 : Str.empty.length = 0 := rfl
    refine ⟨_, gt_2l, ?_⟩
    unfold El_Limits_text_1
    and_intros
    refine ⟨len_szN (by decide), ?_⟩
    and_intros
    refine wp_ex (q_fmtI (log_small (by omega))) ?_
    and_intros
    refine ⟨len_szN (by simp only [strLen_add]; omega), ?_⟩
    and_intros
    refine ⟨len_szN (by simp only [strLen_add]; omega), ?_⟩
    and_intros
    refine wp_ex (q_fmtI (log_small (by omega))) ?_
    and_intros
    refine ⟨len_szN (by simp only [strLen_add]; omega), ?_⟩
    and_intros
    refine ⟨len_szN (by simp only [strLen_add]; omega), ?_⟩
    and_intros
    refine ⟨?_, rfl⟩
    rw [empty_app]
    rfl
  · rw [lineF_map]
    and_intros
    have := lines_sum h
    refine wp_ex (q_joinL (by
      have e : (("" : String) : Str).length = 0 := by decide
      rw [e]
      omega)) ?_
    and_intros
    rfl
theorem law_text_rt {ps : List (Int × Int)} (h : ∀ p ∈ ps, In20 p) (hl : ps.length ≤ 1000) : Rt 3 b__law_text [.tup (limsD ps)] (.str (limText ps)) := by
  have hl2 : (limsD ps).length = ps.length := limsD_length ps
  refine Rt.of ?_
  unfold b__law_text
  and_intros
  refine wp_lcA lineF ?_
  and_intros
  refine ⟨len_szN (by omega), rfl, fun d hd => ?_, ?_⟩
  · obtain ⟨p, hp, rfl⟩ := List.mem_map.mp hd
    obtain ⟨h1, h2, h3, h4⟩ := h p hp
    have n1 := numS_len (i := p.1) (by omega)
    have n2 := numS_len (i := p.2) (by omega)
    have e1 : (("at most " : String) : Str).length = 8 := by decide
    have e2 : ((" in " : String) : Str).length = 4 := by decide
    have e3 : (("\n" : String) : Str).length = 1 := by decide
    refine ⟨_, gt_2l, ?_⟩
    unfold El__law_text_1
    and_intros
    refine wp_ex (q_strI (log_small (by omega))) ?_
    refine wp_ex (q_addS (len_szN (by omega))) ?_
    and_intros
    refine wp_ex (q_addS (len_szN (by simp only [strLen_add]; omega))) ?_
    and_intros
    refine wp_ex (q_strI (log_small (by omega))) ?_
    refine wp_ex (q_addS (len_szN (by simp only [strLen_add]; omega))) ?_
    and_intros
    refine wp_ex (q_addS (len_szN (by simp only [strLen_add]; omega))) ?_
    exact ⟨rfl, rfl⟩
  · rw [lineF_map]
    and_intros
    have := lines_sum h
    refine wp_ex (q_joinL (by
      have e : (("" : String) : Str).length = 0 := by decide
      rw [e]
      omega)) ?_
    and_intros
    rfl
theorem seen_rt {ps : List (Int × Int)} (h : ∀ p ∈ ps, In20 p) (hl : ps.length ≤ 1000) : Rt 3 b__law_seen [lim ps] (seenD ps) := by
  refine Rt.of ?_
  unfold b__law_seen
  and_intros
  refine wp_lcA (fun d => match d with | .int i => (limsD ps).getD i.toNat .non | _ => .non) ?_
  and_intros
  refine wpc_rt (len_rt ps) rfl ?_
  and_intros
  refine wp_ex (q_lenR (by omega)) ?_
  and_intros
  refine wp_ex (q_rng1 rfl (by omega)) ?_
  refine ⟨len_szN (by rw [rngL_len]; omega), rfl, fun d hd => ?_, ?_⟩
  · obtain ⟨i, hi, rfl⟩ := mem_rng0 hd
    refine ⟨_, gt_nm, ?_⟩
    unfold El__law_seen_1
    and_intros
    refine wpc_rt (get_rt hi) rfl ?_
    and_intros
    refine ⟨?_, rfl⟩
    simp only [Int.toNat_natCast, limsD]
    rw [List.getD_eq_getElem?_getD, List.getElem?_map, List.getElem?_eq_getElem hi]
    rfl
  · have e : List.map (fun d => match d with | .int i => (limsD ps).getD i.toNat .non | _ => .non) (rngL 0 1 ps.length) = limsD ps := by
      refine List.ext_getElem? fun k => ?_
      rw [List.getElem?_map]
      by_cases hk : k < ps.length
      · have e1 : (rngL 0 1 ps.length)[k]? = some (.int k) := by simp [rngL, hk]
        rw [e1]
        have hk2 : k < (limsD ps).length := by rw [limsD_length]; exact hk
        simp [List.getElem?_eq_getElem hk2]
      · have e1 : (rngL 0 1 ps.length)[k]? = none := by rw [List.getElem?_eq_none]; rw [rngL_len]; omega
        rw [e1, List.getElem?_eq_none (by rw [limsD_length]; omega)]
        rfl
    rw [e]
    and_intros
    refine wpc_rt (pairs_rt ps) rfl ?_
    and_intros
    refine wpc_rt (len_rt ps) rfl ?_
    and_intros
    refine wp_ex (q_lenR (by omega)) ?_
    and_intros
    refine wpc_rt (repr_rt hl) rfl ?_
    and_intros
    refine wpc_rt (text_rt h hl) rfl ?_
    and_intros
    rfl
theorem due_rt {ps : List (Int × Int)} (h : ∀ p ∈ ps, In20 p) (hl : ps.length ≤ 1000) : Rt 1 b__law_due [.tup (limsD ps)] (seenD ps) := by
  have hl2 : (limsD ps).length = ps.length := limsD_length ps
  refine Rt.of ?_
  unfold b__law_due
  and_intros
  have nl := numS_len (i := (ps.length : Int)) (by omega)
  have e1 : (("Limits(" : String) : Str).length = 7 := by decide
  have e2 : ((" limits)" : String) : Str).length = 8 := by decide
  rw [hl2]
  refine wp_ex (q_strI (log_small (by omega))) ?_
  refine wp_ex (q_addS (len_szN (by omega))) ?_
  and_intros
  refine wp_ex (q_addS (len_szN (by simp only [strLen_add]; omega))) ?_
  and_intros
  refine wpc_rt (law_text_rt h hl) rfl ?_
  and_intros
  rfl
end G22
namespace G22
open PySem PySem.Spec PyProof.Rows L2 FC
local macro_rules | `(tactic| and_intros) => `(tactic| (repeat (first
  | with_reducible refine wp_seq ?_ | with_reducible refine wp_nx ?_ | with_reducible refine wp_rt ?_ | with_reducible refine wp_nil ?_ | with_reducible refine dk_val ?_ | with_reducible refine dk_lst ?_ | with_reducible refine ok_lst ?_ | with_reducible refine dk_ins ?_ | with_reducible refine ok_ins ?_ | with_reducible refine lp_nx ?_ | with_reducible refine lp_rt ?_ | with_reducible refine lp_ct ?_ | with_reducible refine lp_bk ?_ | with_reducible refine wp_bk ?_ | with_reducible refine wp_ctn ?_
  | with_reducible refine wp_if ?_ | with_reducible refine wp_ret ?_ | with_reducible refine wp_set ?_ | with_reducible refine wp_setN ?_ | with_reducible refine wp_retN ?_ | with_reducible refine wp_retNew ?_ | with_reducible refine wp_brk ?_ | with_reducible refine wp_ct ?_
  | with_reducible refine wp_f0 ?_ | with_reducible refine wp_f1 ?_ | with_reducible refine wp_f2 ?_
  | ((with_reducible apply wp_look); rfl) | ((with_reducible apply wp_var); rfl) | ((with_reducible apply wp_lookL); rfl) | ((with_reducible apply wp_lookI); rfl) | ((with_reducible apply wp_vVarO); rfl) | with_reducible refine wp_setP ?_ | with_reducible refine wp_cls ?_ | ((with_reducible apply wp_sup); rfl) | ((with_reducible apply wp_retVar); rfl) | ((with_reducible apply wp_retVarO); rfl)
  | with_reducible refine wp_and ?_ | with_reducible refine wp_tand ?_ | with_reducible refine wp_tor ?_ | with_reducible refine wp_tnot ?_ | with_reducible refine wp_fIf ?_
  | with_reducible refine wp_call ?_ | with_reducible refine wp_nCall ?_ | with_reducible refine wp_mth ?_ | with_reducible refine wp_prop ?_ | ((with_reducible apply wp_vVar); rfl) | with_reducible refine wp_vVal ?_
  | with_reducible refine wp_aNil ?_ | with_reducible refine wp_aVal ?_ | with_reducible refine wp_aNew ?_
  | ((with_reducible apply wp_aVar); rfl) | ((with_reducible apply wp_aVarS); rfl) | ((with_reducible apply wp_aVarW); rfl)
  | ((with_reducible apply wp_frz); rfl) | ((with_reducible apply wp_frzV); rfl)
  | with_reducible refine wp_tup ?_ | with_reducible refine wp_nLst ?_ | with_reducible refine wp_fD ?_ | with_reducible refine wp_iArgs ?_ | with_reducible refine wp_iSeq ?_ | with_reducible refine wp_for ?_
  | with_reducible refine wp_expr ?_ | with_reducible refine wp_makeS ?_ | ((with_reducible apply wp_makeL); rfl) | with_reducible refine wp_aCls ?_ | with_reducible refine wp_addO ?_ | with_reducible refine wp_exI ?_ | with_reducible refine wp_fJ0 ?_ | with_reducible refine wp_fJ1 ?_ | with_reducible refine wp_exS ?_ | with_reducible refine wp_s1 ?_ | with_reducible refine wp_n1 ?_ | with_reducible refine wp_aStar ?_ | with_reducible refine wp_par ?_ | with_reducible refine wp_asg ?_ | with_reducible refine wp_sl2 ?_
  | with_reducible refine wp_chain ?_ | with_reducible refine wp_or ?_ | with_reducible refine wp_exb ?_ | with_reducible refine wp_ex gt_nm ?_ | with_reducible refine wp_ex gt_2 ?_ | with_reducible refine wp_ex gt_2l ?_ | ((with_reducible apply wp_ex); first | with_reducible exact q_rvO | with_reducible exact q_dlL | with_reducible exact q_dlT | with_reducible exact q_strR | with_reducible exact q_isC_non | with_reducible exact q_isC_bl | with_reducible exact q_isC_int | with_reducible exact q_isC_str | with_reducible exact q_isC_lst | with_reducible exact q_isC_tup | with_reducible exact q_isC_ins rfl | with_reducible exact dEq_int _ _ | with_reducible exact dNe_int _ _ | with_reducible exact q_add | with_reducible exact q_sub | with_reducible exact q_lt | with_reducible exact q_le | with_reducible exact q_gt | with_reducible exact q_ge | with_reducible exact q_max2 | with_reducible exact q_min2 | with_reducible exact q_neg | with_reducible exact q_bl | with_reducible exact q_not | with_reducible exact q_trB | with_reducible exact q_trI | with_reducible exact q_trL | with_reducible exact q_trT | with_reducible exact q_lenL | with_reducible exact q_lenT | with_reducible exact q_itL | with_reducible exact q_itT | with_reducible exact q_int | with_reducible exact q_tupL | with_reducible exact q_tupT | with_reducible exact q_lstL | with_reducible exact q_lstT | with_reducible exact q_isN_non | with_reducible exact q_notN_non | with_reducible exact q_isNB_non | with_reducible exact q_notNB_non | with_reducible exact q_i_int_non | with_reducible exact q_i_bool_non | with_reducible exact q_i_str_non | with_reducible exact q_i_tuple_non | with_reducible exact q_i_list_non | with_reducible exact q_isN_bl | with_reducible exact q_notN_bl | with_reducible exact q_isNB_bl | with_reducible exact q_notNB_bl | with_reducible exact q_i_int_bl | with_reducible exact q_i_bool_bl | with_reducible exact q_i_str_bl | with_reducible exact q_i_tuple_bl | with_reducible exact q_i_list_bl | with_reducible exact q_isN_int | with_reducible exact q_notN_int | with_reducible exact q_isNB_int | with_reducible exact q_notNB_int | with_reducible exact q_i_int_int | with_reducible exact q_i_bool_int | with_reducible exact q_i_str_int | with_reducible exact q_i_tuple_int | with_reducible exact q_i_list_int | with_reducible exact q_isN_str | with_reducible exact q_notN_str | with_reducible exact q_isNB_str | with_reducible exact q_notNB_str | with_reducible exact q_i_int_str | with_reducible exact q_i_bool_str | with_reducible exact q_i_str_str | with_reducible exact q_i_tuple_str | with_reducible exact q_i_list_str | with_reducible exact q_isN_lst | with_reducible exact q_notN_lst | with_reducible exact q_isNB_lst | with_reducible exact q_notNB_lst | with_reducible exact q_i_int_lst | with_reducible exact q_i_bool_lst | with_reducible exact q_i_str_lst | with_reducible exact q_i_tuple_lst | with_reducible exact q_i_list_lst | with_reducible exact q_isN_tup | with_reducible exact q_notN_tup | with_reducible exact q_isNB_tup | with_reducible exact q_notNB_tup | with_reducible exact q_i_int_tup | with_reducible exact q_i_bool_tup | with_reducible exact q_i_str_tup | with_reducible exact q_i_tuple_tup | with_reducible exact q_i_list_tup | with_reducible exact q_fld | with_reducible exact q_al0 | with_reducible exact q_al1 | with_reducible exact q_al2 | with_reducible exact q_al3 | with_reducible exact q_al4 | with_reducible exact q_al5 | with_reducible exact q_al6 | with_reducible exact q_al7 | with_reducible exact q_al8 | ((with_reducible show FC.putAll _ _ _ = some _); rfl)) | ((with_reducible apply wp_exP); ((with_reducible show FC.avC _ _ = some _); rfl)) | ((with_reducible apply wp_exbl); first | with_reducible exact q_le | with_reducible exact q_lt | with_reducible exact q_ge | with_reducible exact q_gt | with_reducible exact dEq_int _ _ | with_reducible exact dNe_int _ _)
  | with_reducible refine ifTt ?_ | with_reducible refine ifFf ?_ | with_reducible refine ifNt ?_ | with_reducible refine ifNf ?_
  | with_reducible refine wp_lk1 (by decide) ?_ | with_reducible refine wp_lk2 (by decide) (by decide) ?_ | with_reducible refine wp_lk3 (by decide) (by decide) (by decide) ?_ | ((with_reducible apply wp_avm); rfl)
  | ((with_reducible apply wp_szR); rfl))))
/-! ### what is said -/
theorem kw_lim : kwOf 13 b__law_kind 3 0 = some ("limit" : Str) := by kernel_rfl
theorem say_lim : ((kwOf 13 b__law_kind 3 0).bind fun w => sayX "many" "! many " "! " w []) = some ("! limit" : Str) := by
  rw [kw_lim]
  decide +kernel
theorem kw_many : kwOf 13 b__law_kind 3 10 = some ("many" : Str) := by kernel_rfl
def many7 : Str := ("! many " : Str) ++ (PyData.tuple [.int 7, .int 6]).shown
theorem two7 : dRepr (.tup [.int 7, .int 6]) = some (.str (PyData.tuple [.int 7, .int 6]).shown) :=
  dRepr_fine (p := .tuple [.int 7, .int 6]) (by simp only [D.data, D.dataL, Option.map_some]) ⟨tfine_int (by omega), tfine_int (by omega), trivial⟩ (by simp [PyData.depth, PyData.depthAll]) (by simp only [tcost, tcostL]; omega)
theorem len7 : (PyData.tuple [.int 7, .int 6]).shown.length = 6 := by decide +kernel
theorem say_many : ((kwOf 13 b__law_kind 3 10).bind fun w => sayX "many" "! many " "! " w [("limit", .int 6), ("amount", .int 7)]) = some many7 := by
  rw [kw_many]
  decide +kernel
abbrev saidF : F D := fSaidX (kwOf 13 b__law_kind 3) (sayX "many" "! many " "! ") (fCall 3 b__law_seen (aVal (fCall 1 b__law_direct (aVar 0 aNil)) aNil))
theorem said_good {ps : List (Int × Int)} (G : Good ps) {a b c e : SV} {Q : D → Gm → Prop} {E : Ex → Gm → Prop} (q : Q (.str (seenY ps).shown) [.val (.lst (limsD ps)), a, b, c, e]) : Wp (saidF [.val (.lst (limsD ps)), a, b, c, e]) Q E := by
  have few := G.few
  obtain ⟨f1, f2, f3⟩ := seen_fine G.ins (by omega)
  refine wp_saidX ?_
  and_intros
  refine wpc_rt (direct_rt G) rfl ?_
  and_intros
  refine wpc_rt (seen_rt G.ins (by omega)) rfl ?_
  exact dk_val ⟨_, dRepr_fine (seen_data ps) f1 (by omega) (by omega), q⟩
theorem said_x {ds : List D} {x : Ex} {z : Str} (hl : ds.length ≤ 7) (h : MkX 0 2 b_Limits___init__ ds x) (hz : ((kwOf 13 b__law_kind 3 x.c).bind fun w => sayX "many" "! many " "! " w x.fs) = some z) {a b c e : SV} {Q : D → Gm → Prop} {E : Ex → Gm → Prop} (q : Q (.str z) [.val (.lst ds), a, b, c, e]) : Wp (saidF [.val (.lst ds), a, b, c, e]) Q E := by
  refine wp_saidX ?_
  and_intros
  exact wpc_rx (direct_x hl h) rfl ⟨_, hz, q⟩
theorem dEq_twoS (x : Str) : dEq (.lst [.str x, .str x]) (.lst [.str x, .str x]) = some (.bl true) := by
  have e : dEq (.lst [.str x, .str x]) (.lst [.str x, .str x]) = if min (PyData.list [.str x, .str x]).depth (PyData.list [.str x, .str x]).depth ≤ 64 then some (.bl (PyData.eqv (.list [.str x, .str x]) (.list [.str x, .str x]))) else none := by simp only [dEq, D.data, D.dataL, Option.map_some]
  rw [e, if_pos (by simp [PyData.depth, PyData.depthAll])]
  simp [PyData.eqv, PyData.eqvAll]
/-- the end of the law's step -/
theorem end22 {ds : List D} {y t : Str} (hr : dReprA rpM (.lst ds) = some (.str t)) (hs : ∀ (b e : SV) (Q : D → Gm → Prop) (E : Ex → Gm → Prop), Q (.str y) [.val (.lst ds), .val (.str y), b, .none, e] → Wp (saidF [.val (.lst ds), .val (.str y), b, .none, e]) Q E) :
    Wp (sSeq (sSet 2 (f1 (dReprA rpM) (fVar 0))) (sSeq (sSetNew 3 (nLc (iArgs dRng1 (aVal (f0 (.int 2)) aNil)) (gNm 4) tTrue El__law_is_right_1 [4])) (sFrz 3 (sRet (vAnd (f2 dEq (fLook 3) (fD (nLst (aVar 1 (aVar 1 aNil))))) (f2 dEq (f1 (dReprA rpM) (fVar 0)) (fLook 2)))))) [.val (.lst ds), .val (.str y), .none, .none, .none]) (fun f _ => f = .ret (.val (.bl true))) FC.E0 := by
  and_intros
  refine wp_ex hr ?_
  and_intros
  refine wp_lcA (fun _ => .str y) ?_
  and_intros
  refine wp_ex (q_rng1 (n := 2) rfl (by omega)) ?_
  refine ⟨len_szN (by rw [rngL_len]; omega), rfl, fun d hd => ?_, ?_⟩
  · refine ⟨_, gt_nm, ?_⟩
    unfold El__law_is_right_1
    exact hs _ _ _ _ ⟨rfl, rfl⟩
  · and_intros
    refine wp_ex (dEq_twoS y) ?_
    and_intros
    refine wp_ex hr ?_
    and_intros
    refine wp_ex (dEq_str _ _) ?_
    rw [decide_eq_true rfl]
theorem right_rt {ds : List D} (hl : ds.length ≤ 7) (h : ∀ d ∈ ds, okE d = true) : Rt 5 b__law_is_right [.lst ds] (.bl true) := by
  obtain ⟨t, ht⟩ := row_told h (by omega)
  have hp : ∀ d ∈ ds, parts d = true := fun d hd => okE_parts (h d hd)
  refine Rt.of ?_
  show Wp (b__law_is_right [.val (.lst ds), .none, .none, .none, .none]) _ _
  unfold b__law_is_right
  have no : Rt 2 b__law_are_limits [.lst ds] (.bl false) → Rt 2 b_are_pairs [.tup ds] (.bl false) → Wp (sSeq (sSet 1 (f0 (.str "! limit"))) (sSeq (sIf (f1 dTruth (fCall 2 b__law_are_limits (aVar 0 aNil))) (sSet 1 (fIf (f1 dBl (f2 dGt (f1 dLen (fLook 0)) (f0 (.int 6)))) (f2 dAdd (f0 (.str "! many ")) (f1 dRepr (fTup (aVal (f1 dLen (fLook 0)) (aVal (f0 (.int 6)) aNil))))) (f1 dRepr (fCall 1 b__law_due (aVal (f1 dTuple (fLook 0)) aNil))))) sNil) (sSeq (sSet 2 (f1 (dReprA rpM) (fVar 0))) (sSeq (sSetNew 3 (nLc (iArgs dRng1 (aVal (f0 (.int 2)) aNil)) (gNm 4) tTrue El__law_is_right_1 [4])) (sFrz 3 (sRet (vAnd (f2 dEq (fLook 3) (fD (nLst (aVar 1 (aVar 1 aNil))))) (f2 dEq (f1 (dReprA rpM) (fVar 0)) (fLook 2)))))))) [.val (.lst ds), .none, .none, .none, .none]) (fun f _ => f = .ret (.val (.bl true))) FC.E0 := fun h1 h2 => by
    refine wp_seq (wp_set (wp_f0 (wp_nx (wp_seq (wp_if ?_)))))
    and_intros
    refine wpc_rt h1 rfl ?_
    refine dk_val ⟨_, rfl, (fun w => absurd w (by decide)), fun _ => wp_nil (wp_nx ?_)⟩
    exact end22 ht fun b e Q E q => said_x hl (init_no h2) say_lim q
  rcases split22 ds with ⟨qs, rfl, hin⟩ | bad
  · have hq : qs.length ≤ 7 := by rw [limsD_length] at hl; exact hl
    by_cases ne : qs = []
    · subst ne
      have a := arelim_rt (qs := []) hin (by simp)
      rw [decide_eq_false (fun z => z.1 rfl)] at a
      exact no a are_nil
    by_cases nd : qs.Nodup
    · have a := arelim_rt hin (by omega)
      rw [decide_eq_true ⟨ne, nd⟩] at a
      refine wp_seq (wp_set (wp_f0 (wp_nx (wp_seq (wp_if ?_)))))
      and_intros
      refine wpc_rt a rfl ?_
      refine dk_val ⟨_, rfl, fun _ => ?_, (fun w => absurd w (by decide))⟩
      and_intros
      rw [limsD_length]
      refine ifd (fun big => ?_) (fun small => ?_)
      · have h7 : qs.length = 7 := by omega
        and_intros
        rw [limsD_length, h7]
        refine wp_ex two7 ?_
        refine wp_ex (q_addS (len_szN (by
          rw [len7, show ("! many " : Str).length = 7 from by decide]
          omega))) ?_
        exact end22 ht fun b e Q E q => said_x hl (init_many h7 nd hin) say_many q
      · have G : Good qs := { ne := ne, few := by omega, nd := nd, ins := hin }
        have few := G.few
        obtain ⟨f1, f2, f3⟩ := seen_fine G.ins (by omega)
        and_intros
        refine wpc_rt (due_rt G.ins (by omega)) rfl ?_
        and_intros
        refine wp_ex (dRepr_fine (seen_data qs) f1 (by omega) (by omega)) ?_
        exact end22 ht fun b e Q E q => said_good G q
    · have a := arelim_rt hin (by omega)
      rw [decide_eq_false (fun z => nd z.2)] at a
      have b := are_all ne (by omega) hin
      rw [decide_eq_false nd] at b
      exact no a b
  · exact no (arelim_bad (by omega) hp bad) (are_bad (by omega) hp bad)
end G22
namespace G22
open PySem PySem.Spec PyProof.Rows L2 FC
local macro_rules | `(tactic| and_intros) => `(tactic| (repeat (first
  | with_reducible refine wp_seq ?_ | with_reducible refine wp_nx ?_ | with_reducible refine wp_rt ?_ | with_reducible refine wp_nil ?_ | with_reducible refine dk_val ?_ | with_reducible refine dk_lst ?_ | with_reducible refine ok_lst ?_ | with_reducible refine dk_ins ?_ | with_reducible refine ok_ins ?_ | with_reducible refine lp_nx ?_ | with_reducible refine lp_rt ?_ | with_reducible refine lp_ct ?_ | with_reducible refine lp_bk ?_ | with_reducible refine wp_bk ?_ | with_reducible refine wp_ctn ?_
  | with_reducible refine wp_if ?_ | with_reducible refine wp_ret ?_ | with_reducible refine wp_set ?_ | with_reducible refine wp_setN ?_ | with_reducible refine wp_retN ?_ | with_reducible refine wp_retNew ?_ | with_reducible refine wp_brk ?_ | with_reducible refine wp_ct ?_
  | with_reducible refine wp_f0 ?_ | with_reducible refine wp_f1 ?_ | with_reducible refine wp_f2 ?_
  | ((with_reducible apply wp_look); rfl) | ((with_reducible apply wp_var); rfl) | ((with_reducible apply wp_lookL); rfl) | ((with_reducible apply wp_lookI); rfl) | ((with_reducible apply wp_vVarO); rfl) | with_reducible refine wp_setP ?_ | with_reducible refine wp_cls ?_ | ((with_reducible apply wp_sup); rfl) | ((with_reducible apply wp_retVar); rfl) | ((with_reducible apply wp_retVarO); rfl)
  | with_reducible refine wp_and ?_ | with_reducible refine wp_tand ?_ | with_reducible refine wp_tor ?_ | with_reducible refine wp_tnot ?_ | with_reducible refine wp_fIf ?_
  | with_reducible refine wp_call ?_ | with_reducible refine wp_nCall ?_ | with_reducible refine wp_mth ?_ | with_reducible refine wp_prop ?_ | ((with_reducible apply wp_vVar); rfl) | with_reducible refine wp_vVal ?_
  | with_reducible refine wp_aNil ?_ | with_reducible refine wp_aVal ?_ | with_reducible refine wp_aNew ?_
  | ((with_reducible apply wp_aVar); rfl) | ((with_reducible apply wp_aVarS); rfl) | ((with_reducible apply wp_aVarW); rfl)
  | ((with_reducible apply wp_frz); rfl) | ((with_reducible apply wp_frzV); rfl)
  | with_reducible refine wp_tup ?_ | with_reducible refine wp_nLst ?_ | with_reducible refine wp_fD ?_ | with_reducible refine wp_iArgs ?_ | with_reducible refine wp_iSeq ?_ | with_reducible refine wp_for ?_
  | with_reducible refine wp_expr ?_ | with_reducible refine wp_makeS ?_ | ((with_reducible apply wp_makeL); rfl) | with_reducible refine wp_aCls ?_ | with_reducible refine wp_addO ?_ | with_reducible refine wp_exI ?_ | with_reducible refine wp_fJ0 ?_ | with_reducible refine wp_fJ1 ?_ | with_reducible refine wp_exS ?_ | with_reducible refine wp_s1 ?_ | with_reducible refine wp_n1 ?_ | with_reducible refine wp_aStar ?_ | with_reducible refine wp_par ?_ | with_reducible refine wp_asg ?_ | with_reducible refine wp_sl2 ?_
  | with_reducible refine wp_chain ?_ | with_reducible refine wp_or ?_ | with_reducible refine wp_exb ?_ | with_reducible refine wp_ex gt_nm ?_ | with_reducible refine wp_ex gt_2 ?_ | with_reducible refine wp_ex gt_2l ?_ | ((with_reducible apply wp_ex); first | with_reducible exact q_rvO | with_reducible exact q_dlL | with_reducible exact q_dlT | with_reducible exact q_strR | with_reducible exact q_isC_non | with_reducible exact q_isC_bl | with_reducible exact q_isC_int | with_reducible exact q_isC_str | with_reducible exact q_isC_lst | with_reducible exact q_isC_tup | with_reducible exact q_isC_ins rfl | with_reducible exact dEq_int _ _ | with_reducible exact dNe_int _ _ | with_reducible exact q_add | with_reducible exact q_sub | with_reducible exact q_lt | with_reducible exact q_le | with_reducible exact q_gt | with_reducible exact q_ge | with_reducible exact q_max2 | with_reducible exact q_min2 | with_reducible exact q_neg | with_reducible exact q_bl | with_reducible exact q_not | with_reducible exact q_trB | with_reducible exact q_trI | with_reducible exact q_trL | with_reducible exact q_trT | with_reducible exact q_lenL | with_reducible exact q_lenT | with_reducible exact q_itL | with_reducible exact q_itT | with_reducible exact q_int | with_reducible exact q_tupL | with_reducible exact q_tupT | with_reducible exact q_lstL | with_reducible exact q_lstT | with_reducible exact q_isN_non | with_reducible exact q_notN_non | with_reducible exact q_isNB_non | with_reducible exact q_notNB_non | with_reducible exact q_i_int_non | with_reducible exact q_i_bool_non | with_reducible exact q_i_str_non | with_reducible exact q_i_tuple_non | with_reducible exact q_i_list_non | with_reducible exact q_isN_bl | with_reducible exact q_notN_bl | with_reducible exact q_isNB_bl | with_reducible exact q_notNB_bl | with_reducible exact q_i_int_bl | with_reducible exact q_i_bool_bl | with_reducible exact q_i_str_bl | with_reducible exact q_i_tuple_bl | with_reducible exact q_i_list_bl | with_reducible exact q_isN_int | with_reducible exact q_notN_int | with_reducible exact q_isNB_int | with_reducible exact q_notNB_int | with_reducible exact q_i_int_int | with_reducible exact q_i_bool_int | with_reducible exact q_i_str_int | with_reducible exact q_i_tuple_int | with_reducible exact q_i_list_int | with_reducible exact q_isN_str | with_reducible exact q_notN_str | with_reducible exact q_isNB_str | with_reducible exact q_notNB_str | with_reducible exact q_i_int_str | with_reducible exact q_i_bool_str | with_reducible exact q_i_str_str | with_reducible exact q_i_tuple_str | with_reducible exact q_i_list_str | with_reducible exact q_isN_lst | with_reducible exact q_notN_lst | with_reducible exact q_isNB_lst | with_reducible exact q_notNB_lst | with_reducible exact q_i_int_lst | with_reducible exact q_i_bool_lst | with_reducible exact q_i_str_lst | with_reducible exact q_i_tuple_lst | with_reducible exact q_i_list_lst | with_reducible exact q_isN_tup | with_reducible exact q_notN_tup | with_reducible exact q_isNB_tup | with_reducible exact q_notNB_tup | with_reducible exact q_i_int_tup | with_reducible exact q_i_bool_tup | with_reducible exact q_i_str_tup | with_reducible exact q_i_tuple_tup | with_reducible exact q_i_list_tup | with_reducible exact q_fld | with_reducible exact q_al0 | with_reducible exact q_al1 | with_reducible exact q_al2 | with_reducible exact q_al3 | with_reducible exact q_al4 | with_reducible exact q_al5 | with_reducible exact q_al6 | with_reducible exact q_al7 | with_reducible exact q_al8 | ((with_reducible show FC.putAll _ _ _ = some _); rfl)) | ((with_reducible apply wp_exP); ((with_reducible show FC.avC _ _ = some _); rfl)) | ((with_reducible apply wp_exbl); first | with_reducible exact q_le | with_reducible exact q_lt | with_reducible exact q_ge | with_reducible exact q_gt | with_reducible exact dEq_int _ _ | with_reducible exact dNe_int _ _)
  | with_reducible refine ifTt ?_ | with_reducible refine ifFf ?_ | with_reducible refine ifNt ?_ | with_reducible refine ifNf ?_
  | with_reducible refine wp_lk1 (by decide) ?_ | with_reducible refine wp_lk2 (by decide) (by decide) ?_ | with_reducible refine wp_lk3 (by decide) (by decide) (by decide) ?_ | ((with_reducible apply wp_avm); rfl)
  | ((with_reducible apply wp_szR); rfl))))
def okL (n m : Nat) (p : D → Bool) : FC.R Fl → Bool
  | .ok (.ret (.val (.lst xs))) _ => (xs.drop n).all p && decide (xs.length ≤ m)
  | _ => false
theorem okL_rt {N n m : Nat} {p : D → Bool} {b : F Fl} (h : okL n m p (b (padG N [])) = true) : ∃ xs, Rt N b [] (.lst xs) ∧ (∀ d ∈ xs.drop n, p d = true) ∧ xs.length ≤ m := by
  unfold okL at h
  split at h
  · rename_i xs g e
    obtain ⟨h1, h2⟩ := He.ba h
    exact ⟨xs, ⟨⟨g, e⟩⟩, fun d hd => List.all_eq_true.mp h1 d hd, of_decide_eq_true h2⟩
  · cases h
end G22
namespace G22
open PySem PySem.Spec PyProof.Rows L2 FC
local macro_rules | `(tactic| and_intros) => `(tactic| (repeat (first
  | with_reducible refine wp_seq ?_ | with_reducible refine wp_nx ?_ | with_reducible refine wp_rt ?_ | with_reducible refine wp_nil ?_ | with_reducible refine dk_val ?_ | with_reducible refine dk_lst ?_ | with_reducible refine ok_lst ?_ | with_reducible refine dk_ins ?_ | with_reducible refine ok_ins ?_ | with_reducible refine lp_nx ?_ | with_reducible refine lp_rt ?_ | with_reducible refine lp_ct ?_ | with_reducible refine lp_bk ?_ | with_reducible refine wp_bk ?_ | with_reducible refine wp_ctn ?_
  | with_reducible refine wp_if ?_ | with_reducible refine wp_ret ?_ | with_reducible refine wp_set ?_ | with_reducible refine wp_setN ?_ | with_reducible refine wp_retN ?_ | with_reducible refine wp_retNew ?_ | with_reducible refine wp_brk ?_ | with_reducible refine wp_ct ?_
  | with_reducible refine wp_f0 ?_ | with_reducible refine wp_f1 ?_ | with_reducible refine wp_f2 ?_
  | ((with_reducible apply wp_look); rfl) | ((with_reducible apply wp_var); rfl) | ((with_reducible apply wp_lookL); rfl) | ((with_reducible apply wp_lookI); rfl) | ((with_reducible apply wp_vVarO); rfl) | with_reducible refine wp_setP ?_ | with_reducible refine wp_cls ?_ | ((with_reducible apply wp_sup); rfl) | ((with_reducible apply wp_retVar); rfl) | ((with_reducible apply wp_retVarO); rfl)
  | with_reducible refine wp_and ?_ | with_reducible refine wp_tand ?_ | with_reducible refine wp_tor ?_ | with_reducible refine wp_tnot ?_ | with_reducible refine wp_fIf ?_
  | with_reducible refine wp_call ?_ | with_reducible refine wp_nCall ?_ | with_reducible refine wp_mth ?_ | with_reducible refine wp_prop ?_ | ((with_reducible apply wp_vVar); rfl) | with_reducible refine wp_vVal ?_
  | with_reducible refine wp_aNil ?_ | with_reducible refine wp_aVal ?_ | with_reducible refine wp_aNew ?_
  | ((with_reducible apply wp_aVar); rfl) | ((with_reducible apply wp_aVarS); rfl) | ((with_reducible apply wp_aVarW); rfl)
  | ((with_reducible apply wp_frz); rfl) | ((with_reducible apply wp_frzV); rfl)
  | with_reducible refine wp_tup ?_ | with_reducible refine wp_nLst ?_ | with_reducible refine wp_fD ?_ | with_reducible refine wp_iArgs ?_ | with_reducible refine wp_iSeq ?_ | with_reducible refine wp_for ?_
  | with_reducible refine wp_expr ?_ | with_reducible refine wp_makeS ?_ | ((with_reducible apply wp_makeL); rfl) | with_reducible refine wp_aCls ?_ | with_reducible refine wp_addO ?_ | with_reducible refine wp_exI ?_ | with_reducible refine wp_fJ0 ?_ | with_reducible refine wp_fJ1 ?_ | with_reducible refine wp_exS ?_ | with_reducible refine wp_s1 ?_ | with_reducible refine wp_n1 ?_ | with_reducible refine wp_aStar ?_ | with_reducible refine wp_par ?_ | with_reducible refine wp_asg ?_ | with_reducible refine wp_sl2 ?_
  | with_reducible refine wp_chain ?_ | with_reducible refine wp_or ?_ | with_reducible refine wp_exb ?_ | with_reducible refine wp_ex gt_nm ?_ | with_reducible refine wp_ex gt_2 ?_ | with_reducible refine wp_ex gt_2l ?_ | ((with_reducible apply wp_ex); first | with_reducible exact q_rvO | with_reducible exact q_dlL | with_reducible exact q_dlT | with_reducible exact q_strR | with_reducible exact q_isC_non | with_reducible exact q_isC_bl | with_reducible exact q_isC_int | with_reducible exact q_isC_str | with_reducible exact q_isC_lst | with_reducible exact q_isC_tup | with_reducible exact q_isC_ins rfl | with_reducible exact dEq_int _ _ | with_reducible exact dNe_int _ _ | with_reducible exact q_add | with_reducible exact q_sub | with_reducible exact q_lt | with_reducible exact q_le | with_reducible exact q_gt | with_reducible exact q_ge | with_reducible exact q_max2 | with_reducible exact q_min2 | with_reducible exact q_neg | with_reducible exact q_bl | with_reducible exact q_not | with_reducible exact q_trB | with_reducible exact q_trI | with_reducible exact q_trL | with_reducible exact q_trT | with_reducible exact q_lenL | with_reducible exact q_lenT | with_reducible exact q_itL | with_reducible exact q_itT | with_reducible exact q_int | with_reducible exact q_tupL | with_reducible exact q_tupT | with_reducible exact q_lstL | with_reducible exact q_lstT | with_reducible exact q_isN_non | with_reducible exact q_notN_non | with_reducible exact q_isNB_non | with_reducible exact q_notNB_non | with_reducible exact q_i_int_non | with_reducible exact q_i_bool_non | with_reducible exact q_i_str_non | with_reducible exact q_i_tuple_non | with_reducible exact q_i_list_non | with_reducible exact q_isN_bl | with_reducible exact q_notN_bl | with_reducible exact q_isNB_bl | with_reducible exact q_notNB_bl | with_reducible exact q_i_int_bl | with_reducible exact q_i_bool_bl | with_reducible exact q_i_str_bl | with_reducible exact q_i_tuple_bl | with_reducible exact q_i_list_bl | with_reducible exact q_isN_int | with_reducible exact q_notN_int | with_reducible exact q_isNB_int | with_reducible exact q_notNB_int | with_reducible exact q_i_int_int | with_reducible exact q_i_bool_int | with_reducible exact q_i_str_int | with_reducible exact q_i_tuple_int | with_reducible exact q_i_list_int | with_reducible exact q_isN_str | with_reducible exact q_notN_str | with_reducible exact q_isNB_str | with_reducible exact q_notNB_str | with_reducible exact q_i_int_str | with_reducible exact q_i_bool_str | with_reducible exact q_i_str_str | with_reducible exact q_i_tuple_str | with_reducible exact q_i_list_str | with_reducible exact q_isN_lst | with_reducible exact q_notN_lst | with_reducible exact q_isNB_lst | with_reducible exact q_notNB_lst | with_reducible exact q_i_int_lst | with_reducible exact q_i_bool_lst | with_reducible exact q_i_str_lst | with_reducible exact q_i_tuple_lst | with_reducible exact q_i_list_lst | with_reducible exact q_isN_tup | with_reducible exact q_notN_tup | with_reducible exact q_isNB_tup | with_reducible exact q_notNB_tup | with_reducible exact q_i_int_tup | with_reducible exact q_i_bool_tup | with_reducible exact q_i_str_tup | with_reducible exact q_i_tuple_tup | with_reducible exact q_i_list_tup | with_reducible exact q_fld | with_reducible exact q_al0 | with_reducible exact q_al1 | with_reducible exact q_al2 | with_reducible exact q_al3 | with_reducible exact q_al4 | with_reducible exact q_al5 | with_reducible exact q_al6 | with_reducible exact q_al7 | with_reducible exact q_al8 | ((with_reducible show FC.putAll _ _ _ = some _); rfl)) | ((with_reducible apply wp_exP); ((with_reducible show FC.avC _ _ = some _); rfl)) | ((with_reducible apply wp_exbl); first | with_reducible exact q_le | with_reducible exact q_lt | with_reducible exact q_ge | with_reducible exact q_gt | with_reducible exact dEq_int _ _ | with_reducible exact dNe_int _ _)
  | with_reducible refine ifTt ?_ | with_reducible refine ifFf ?_ | with_reducible refine ifNt ?_ | with_reducible refine ifNf ?_
  | with_reducible refine wp_lk1 (by decide) ?_ | with_reducible refine wp_lk2 (by decide) (by decide) ?_ | with_reducible refine wp_lk3 (by decide) (by decide) (by decide) ?_ | ((with_reducible apply wp_avm); rfl)
  | ((with_reducible apply wp_szR); rfl))))
/-! ### the law -/
theorem q_slHl2 {xs : List D} {i : Int} {k : Nat} (h : i = k) : ((dInt (.int i)).bind fun i => dSl (.lst xs) none (some i)) = some (.lst (xs.take k)) := by
  have e := q_slHt2 (xs := xs) h
  simp only [dInt, Option.bind_some, dSl, Option.some.injEq, D.lst.injEq, D.tup.injEq] at e ⊢
  exact e
theorem cut_one {xs : List D} (s : Nat) : dSl (.lst xs) (some (s : Int)) (some ((s : Int) + 1)) = some (.lst ((xs.drop s).take 1)) := by
  have e : (s : Int) + 1 = ((s + 1 : Nat) : Int) := by omega
  rw [e]
  simp only [dSl, FC.cutD, HT.sIx_nat]
  congr 2
  by_cases c : s ≤ xs.length
  · rw [Nat.min_eq_left c]
    by_cases c2 : s + 1 ≤ xs.length
    · rw [Nat.min_eq_left c2, Nat.add_sub_cancel_left]
    · rw [Nat.min_eq_right (by omega), List.take_of_length_le (by rw [List.length_drop]; omega), List.take_of_length_le (by rw [List.length_drop]; omega)]
  · rw [List.drop_of_length_le (by omega), List.drop_of_length_le (by omega), List.take_nil, List.take_nil]
def RowE (d : D) : Prop := ∃ ds, d = .lst ds ∧ ds.length ≤ 7 ∧ ∀ x ∈ ds, okE x = true
theorem odds_rt : ∃ xs, Rt 1 b__law_odds [] (.lst xs) ∧ (∀ d ∈ xs.drop 0, okE d = true) ∧ xs.length ≤ 100 := okL_rt (by decide +kernel)
theorem objs_rt : ∃ xs, Rt 1 b__law_objects [] (.lst xs) ∧ (∀ d ∈ xs.drop 0, okE d = true) ∧ xs.length ≤ 100 := okL_rt (by decide +kernel)
theorem seven_dr : Dr 2 b__law_seven [] (fun v => ∃ qs, qs.length = 7 ∧ (∀ p ∈ qs, In20 p) ∧ v = .lst (limsD qs)) := Dr.of fun t xs hp => by
  show Wp (b__law_seven [.own t (.lst xs), .none]) _ _
  unfold b__law_seven
  and_intros
  refine wp_lcI (fun k acc g => ∃ (xs : List D) (qs : List (Int × Int)), Pen xs ∧ acc = limsD qs ∧ qs.length = k ∧ (∀ p ∈ qs, In20 p) ∧ g = [.own t (.lst xs), .none]) ?_
  and_intros
  refine wp_ex (q_rng1 (n := 7) rfl (by omega)) ?_
  refine ⟨len_szN (by rw [rngL_len]; omega), rfl, ⟨xs, [], hp, rfl, rfl, (fun _ h => nomatch h), rfl⟩, ?_, ?_⟩
  · rintro k acc d _ hd ⟨xs, qs, hp, rfl, hl, hin, rfl⟩
    have kb2 : k < 7 := (rngL_get hd).1
    have ed := (rngL_get hd).2
    rw [Int.mul_one, Int.zero_add] at ed
    subst ed
    refine ⟨_, gt_nm, ?_⟩
    unfold El__law_seven_1
    and_intros
    refine wp_ex (q_mulTL (by omega)) ?_
    and_intros
    refine wpc_dr (draw_dr 3 (by omega) (by omega)) rfl rfl hp ?_
    rintro v xs hp ⟨a, rfl, a0, a1⟩
    and_intros
    refine wp_ex (q_mod (by omega)) ?_
    and_intros
    have m0 := Int.emod_nonneg (3 * (k : Int) + a) (b := 20) (by omega)
    have m1 := Int.emod_lt_of_pos (3 * (k : Int) + a) (b := 20) (by omega)
    refine ⟨xs, qs ++ [(1 + (3 * (k : Int) + a) % 20, 1 + (k : Int))], hp, ?_, by simp [hl], fun p hp => ?_, rfl⟩
    · rw [limsD_append]
      rfl
    · rcases List.mem_append.mp hp with h | h
      · exact hin p h
      · rw [List.mem_singleton.mp h]
        exact ⟨by show 1 ≤ 1 + (3 * (k : Int) + a) % 20; omega, by show 1 + (3 * (k : Int) + a) % 20 ≤ 20; omega, by show 1 ≤ 1 + (k : Int); omega, by show 1 + (k : Int) ≤ 20; omega⟩
  · rintro acc g ⟨xs, qs, hp, rfl, hl, hin, rfl⟩
    rw [rngL_len] at hl
    and_intros
    exact ⟨_, xs, _, rfl, rfl, hp, qs, hl, hin, rfl⟩
theorem lims_okE {ps : List (Int × Int)} (h : ∀ p ∈ ps, In20 p) : ∀ x ∈ limsD ps, okE x = true := fun x hx => by
  obtain ⟨p, hp, rfl⟩ := List.mem_map.mp hx
  exact lim_okE (h p hp)
theorem okA {a b : List D} (ha : ∀ x ∈ a, okE x = true) (hb : ∀ x ∈ b, okE x = true) : ∀ x ∈ a ++ b, okE x = true := fun x hx => (List.mem_append.mp hx).elim (ha x) (hb x)
theorem okT {a : List D} (k : Nat) (ha : ∀ x ∈ a, okE x = true) : ∀ x ∈ a.take k, okE x = true := fun x hx => ha x (List.mem_of_mem_take hx)
theorem okDr {a : List D} (k : Nat) (ha : ∀ x ∈ a, okE x = true) : ∀ x ∈ a.drop k, okE x = true := fun x hx => ha x (List.mem_of_mem_drop hx)
theorem ok1 {d : D} (h : okE d = true) : ∀ x ∈ [d], okE x = true := fun x hx => by rw [List.mem_singleton.mp hx]; exact h
/-- one value put in three places -/
theorem thing_wp {sv c pn lp : SV} {A B rows : List D} {d : D} {k : Nat} {s9 : SV} (hA : ∀ x ∈ A, okE x = true) (hB : ∀ x ∈ B, okE x = true) (lB : B.length = 7) (hd : okE d = true) (hk : k < 6) (hr : ∀ r ∈ rows, RowE r) (lr : rows.length ≤ 900) {P : Gm → Prop} {Q : Fl → Gm → Prop} {E : Ex → Gm → Prop}
    (q : ∀ rows2 : List D, (∀ r ∈ rows2, RowE r) → rows2.length = rows.length + 3 → P [sv, c, pn, lp, .val (.lst A), .val (.lst B), .val (.int k), .val (.lst rows2), .val d, s9]) :
    Wp (L_law_1 [sv, c, pn, lp, .val (.lst A), .val (.lst B), .val (.int k), .val (.lst rows), .val d, s9]) (lpK P Q) E := by
  unfold L_law_1 fSlH fSlL
  and_intros
  refine wp_ex (q_slHl2 (k := k) rfl) ?_
  and_intros
  refine wp_ex (q_addL (len_szN (by simp; omega))) ?_
  and_intros
  refine wp_ex (q_slLl (k := k + 1) (by omega)) ?_
  refine wp_ex (q_addL (len_szN (by simp; omega))) ?_
  and_intros
  refine wp_ex (q_slHl2 (k := 4) rfl) ?_
  and_intros
  refine wp_ex (q_addL (len_szN (by simp; omega))) ?_
  and_intros
  refine wp_ex (q_addL (len_szN (by simp; omega))) ?_
  and_intros
  refine q _ (fun r hr2 => ?_) (by simp)
  rcases List.mem_append.mp hr2 with h | h
  · exact hr r h
  · simp only [List.mem_cons, List.not_mem_nil, or_false] at h
    rcases h with h | h | h
    · exact ⟨_, h, by simp; omega, okA (okA (okT _ hB) (ok1 hd)) (okDr _ hB)⟩
    · exact ⟨_, h, by simp, ok1 hd⟩
    · exact ⟨_, h, by simp; omega, okA (okT _ hA) (ok1 hd)⟩
theorem plain (ns : List Int) (hl : ns.length ≤ 63) (hb : ∀ z ∈ ns, Builtin.Int.intBits z ≤ 1048576) : ∀ sv, SvScript ns sv → ∃ g, b_law (padG N_law.length [sv]) = .ok (.ret (.val (.bl true))) g := by
  intro sv h
  have w : Wp (b_law [sv, .none, .none, .none, .none, .none, .none, .none, .none, .none]) (fun f _ => f = .ret (.val (.bl true))) FC.E0 := by
    unfold b_law
    refine wp_seq (wp_for (wp_cells cell_ok hl h rfl fun zs => ?_))
    refine wp_forI (fun ds g => ∃ (zs : List Int) (s1 s2 s3 s4 s5 s6 s7 s8 : SV), ds = zs.map D.int ∧ g = [sv, s1, s2, s3, s4, s5, s6, s7, s8, .none]) ⟨zs, _, _, _, _, _, _, _, _, rfl, rfl⟩ ?_ ?_
    · rintro d ds g ⟨zs, s1, s2, s3, s4, s5, s6, s7, s8, e, rfl⟩
      cases zs with
      | nil => cases e
      | cons z zs =>
        cases e
        refine ⟨_, gt_nm, ?_⟩
        unfold L_law_3
        and_intros
        refine wpc_pen fun xs hp => ?_
        and_intros
        refine wp_ex (q_rng1 (n := 4) rfl (by omega)) ?_
        refine wp_forI (fun _ g => ∃ (xs : List D) (s3 s4 s5 s6 s7 s8 : SV), Pen xs ∧ g = [sv, .val (.int z), .own none (.lst xs), s3, s4, s5, s6, s7, s8, .none]) ⟨xs, _, _, _, _, _, _, hp, rfl⟩ ?_ ?_
        · rintro d _ g ⟨xs, s3, s4, s5, s6, s7, s8, hp, rfl⟩
          refine ⟨_, gt_nm, ?_⟩
          unfold L_law_2 fSlH
          and_intros
          refine wpc_dr (pairs_dr (many := 6) (by omega) (by omega)) rfl rfl hp ?_
          rintro v xs hp ⟨ps, G, hl3, rfl⟩
          and_intros
          refine wpc_dr seven_dr rfl rfl hp ?_
          rintro v xs hp ⟨qs, h7, hin, rfl⟩
          and_intros
          refine wpc_dr (draw_dr 6 (by omega) (by omega)) rfl rfl hp ?_
          rintro v xs hp ⟨k, rfl, k0, k1⟩
          obtain ⟨k, rfl⟩ : ∃ n : Nat, k = n := ⟨k.toNat, by omega⟩
          have hA := lims_okE G.ins
          have hB := lims_okE hin
          have lA : (limsD ps).length ≤ 6 := by rw [limsD_length]; exact G.few
          have lB : (limsD qs).length = 7 := by rw [limsD_length, h7]
          generalize limsD ps = A at *
          generalize limsD qs = B at *
          and_intros
          refine wp_ex (q_slHl2 (k := 6) rfl) ?_
          and_intros
          refine wp_ex (q_slHl2 (k := 5) rfl) ?_
          and_intros
          refine wp_ex (q_slHl2 (k := 1) rfl) ?_
          refine wp_ex (q_addL (len_szN (by simp; omega))) ?_
          and_intros
          refine wp_ex (q_slHl2 (k := 6) rfl) ?_
          and_intros
          refine wp_ex (cut_one k) ?_
          refine wp_ex (q_addL (len_szN (by simp; omega))) ?_
          and_intros
          refine wp_ex (q_slHl2 (k := 6) rfl) ?_
          and_intros
          refine wp_ex (q_addL (len_szN (by simp; omega))) ?_
          and_intros
          refine wp_ex (q_addL (len_szN (by simp))) ?_
          and_intros
          obtain ⟨od, o1, o2, o3⟩ := odds_rt
          obtain ⟨ob, b1, b2, b3⟩ := objs_rt
          rw [List.drop_zero] at o2 b2
          refine wpc_rt o1 rfl ?_
          and_intros
          refine wpc_rt b1 rfl ?_
          and_intros
          refine wp_ex (q_addL (len_szN (by omega))) ?_
          have r20 : okE (.tup [.int 20, .int 20]) = true := lim_okE (p := (20, 20)) ⟨by omega, by omega, by omega, by omega⟩
          refine wp_ex (show dItems (.lst (od ++ ob)) = some (od ++ ob) from rfl) ?_
          refine wp_forI (fun ds g => (∀ v ∈ ds, okE v = true) ∧ ∃ (rows : List D) (s8 : SV), (∀ r ∈ rows, RowE r) ∧ rows.length + 3 * ds.length ≤ 900 ∧ g = [sv, .val (.int z), .own none (.lst xs), .val d, .val (.lst A), .val (.lst B), .val (.int k), .val (.lst rows), s8, .none]) ⟨okA o2 b2, _, _, ?_, ?_, rfl⟩ ?_ ?_
          · intro r hr
            simp only [List.mem_cons, List.not_mem_nil, or_false, List.cons_append, List.nil_append] at hr
            rcases hr with h | h | h | h | h | h
            · exact ⟨_, h, by omega, hA⟩
            · exact ⟨_, h, by omega, hB⟩
            · exact ⟨_, h, by simp; omega, okT _ hB⟩
            · exact ⟨_, h, by simp; omega, okA (okT _ hA) (okT _ hA)⟩
            · exact ⟨_, h, by simp; omega, okA (okT _ hB) (okT _ (okDr _ hB))⟩
            · exact ⟨_, h, by simp; omega, okA (okT _ hA) (ok1 r20)⟩
          · simp
            omega
          · rintro v ds g ⟨hv, rows, s8, hr, lr, rfl⟩
            rw [List.length_cons] at lr
            refine ⟨_, gt_nm, ?_⟩
            exact thing_wp hA hB lB (hv v List.mem_cons_self) (by omega) hr (by omega) fun rows2 h2 l2 => ⟨fun x hx => hv x (List.mem_cons_of_mem _ hx), rows2, _, h2, by omega, rfl⟩
          · rintro g ⟨_, rows, s8, hr, lr, rfl⟩
            and_intros
            refine wp_lc (fun _ => false) (fun _ => .int 1) ?_
            and_intros
            refine ⟨len_szN (by omega), rfl, fun d hd => ?_, ?_⟩
            · obtain ⟨ds, rfl, l7, hk⟩ := hr d hd
              refine ⟨_, gt_nm, ?_⟩
              unfold Cn_law_1
              and_intros
              refine wpc_rt (right_rt l7 hk) rfl ?_
              and_intros
              exact ⟨rfl, (fun w => absurd w (by decide)), fun _ => wipe1⟩
            · rw [show List.map (fun _ => D.int 1) (List.filter (fun _ => false) rows) = ([] : List Int).map D.int by rw [List.filter_eq_nil_iff.mpr fun _ _ => by simp]; rfl]
              and_intros
              refine wp_ex (dNe_nilL []) ?_
              refine wp_ex (show dBl (.bl (!([] : List Int).isEmpty)) = some false from rfl) ?_
              and_intros
              refine wpc_rt (right_rt (ds := []) (by simp) (fun _ h => nomatch h)) rfl ?_
              and_intros
              exact ⟨xs, _, _, _, _, _, _, hp, rfl⟩
        · rintro g ⟨xs, s3, s4, s5, s6, s7, s8, hp, rfl⟩
          exact lp_nx ⟨zs, _, _, _, _, _, _, _, _, rfl, rfl⟩
    · rintro g ⟨zs, s1, s2, s3, s4, s5, s6, s7, s8, _, rfl⟩
      and_intros
      rfl
  obtain ⟨f, g, e, rfl⟩ := w.out
  exact ⟨g, e⟩
end G22
open PySem PySem.W PySem.Calls PyProof.Rows
theorem PySem.Challenge.cw_burstlimits_k22_limits_refused_holds : PySem.Challenge.rw_burstlimits_k22_limits_refused.Holds := by
  w_on; o_law
  refine HandSHeadRun.head_any (r := OpenLaw.row PySem.Challenge.rw_burstlimits_k22_limits_refused) (q := view (OpenLaw.row PySem.Challenge.rw_burstlimits_k22_limits_refused).prog [60]) (H := G22.hk) (ob := G22.ob) (M := 9000) (loose := G22.loose) (d := HandSHeadRun.topDef (OpenLaw.row PySem.Challenge.rw_burstlimits_k22_limits_refused).prog 60) (kwd := []) G22.ob_eq
    (by kernel_rfl) (fun s => by kernel_rfl) G22.run (by kernel_rfl) (by kernel_rfl) (by kernel_rfl) (by rfl) (by first | assumption | decide +kernel) (by decide +kernel) ⟨rfl, rfl, rfl, rfl, rfl, by decide +kernel⟩ ?hw ?hc
  case hw => w_witness2
  case hc =>
    refine FC.walk_G (l := PySem.Challenge.rw_burstlimits_k22_limits_refused) (n := 63) (k := 62) rfl (by decide) (by kernel_rfl) ⟨⟨rfl, by decide, by decide⟩, ⟨fun _ => ⟨_, rfl⟩, fun _ => rfl⟩⟩ ?F
    intro w mg fa h Y G hmg0
    obtain ⟨K, KX, c, tz⟩ := Y
    have S : FC.Sy G22.fb G22.fn [] K mg h := ⟨⟨h, KX, G⟩, c, (fun _ z => nomatch z), List.nodup_nil⟩
    have hmg : mg ("law" : PySem.Str) = some (.ref fa) := by
      have e : (HandSHeadRun.topDef (OpenLaw.row PySem.Challenge.rw_burstlimits_k22_limits_refused).prog 60).name = ("law" : PySem.Str) := by kernel_rfl
      rw [← e]
      exact hmg0
    have e := hmg.symm.trans (S.glo 94)
    cases e
    exact ⟨K, KX, FC.lawG_of (C := G22.Cc K) rfl rfl tz (by decide) (fun base kb nb tb => @G22.ok_law _ _ _ _ _ ⟨by kernel_rfl, by kernel_rfl⟩ ⟨⟨base, kb, nb⟩, c, tb, tz.nd⟩) G22.plain⟩
