import PyProof.Rows.All
import Wide.All
import OpenK.AllK
import Wide.FinOn
import HandS.HeadHook3
import HandS.HeadEnd
import HandS.Head0
import HandS.Head1
import HandS.Head2
import HandS.ForMost
import HandS.Flow
import HandS.ExcOwn
import HandS.Defaults
import HandS.WordsExc
import HandS.Star
import HandS.Strs
import HandS.Property
import KE.OsMirror
import PyProof.DictCalls
import HandS.More
import HandS.Conv
import HandS.OwnEq
import HandS.ClsMeth
import HandS.MethStar
import HandS.MakeKwOnly
import KE.KOpsOwn
import HandS.IsInst
import HandS.Style
import HandS.TupAny
import HandS.HeadHook2
import HandS.Deep
import KE.KStateDown
import HandS.HeadWalk
import PySem.Challenge.RW_promisesowned_k76_whole_rounds
set_option Elab.async false
set_option linter.all false
set_option maxRecDepth 100000
set_option maxHeartbeats 0
/-! Hy: the head's facts: a Hook over defs found by any path, facts as tests, tables. -/
namespace Ly
open PySem PySem.Spec PyProof.Rows L2
open He (ga ma eqO eqO_ok ba FnW Dv dflB kwdB dflB_ok kwdB_ok)
/-- one def: where its function object is, and what the text says of it -/
structure DefY where
  adr : PySem.W.Frag → Addr
  name : Str
  qual : Str
  params : Arguments
  body : List Stmt
  scope : Scope
  dfl : List Dv := []
  kwd : List (Str × Dv) := []
def fnY (K : PySem.W.Frag) (a : Addr) : FnW := match K.lookup a with
  | some ⟨_, _, .func fd, _⟩ => some (fd.name, fd.qualname, fd.params, fd.body, fd.scope, fd.globals, fd.closure, fd.builtins)
  | _ => none
def DefY.val (d : DefY) : FnW := some (d.name, d.qual, d.params, .stmts d.body, d.scope, mainGlobals, [], builtinsNs)
def DefY.dvs (K : PySem.W.Frag) (d : DefY) : List V := d.dfl.map (Dv.v K)
def DefY.kws (K : PySem.W.Frag) (d : DefY) : List (Str × V) := d.kwd.map fun q => (q.1, q.2.v K)
def DefY.ok (K : PySem.W.Frag) (d : DefY) : Bool := match K.lookup (d.adr K) with
  | some ⟨_, _, .func fd, _⟩ => PySem.W.codeIn K fd.code d.qual && (dflB K fd.defaults (d.dvs K) && kwdB K fd.kwdefaults (d.kws K))
  | _ => false
theorem DefY.funD {K : PySem.W.Frag} {d : DefY} (e : fnY K (d.adr K) = d.val) (c2 : d.ok K = true) : ∃ fd, FunD K d.name d.qual d.params d.body d.scope (d.dvs K) (d.kws K) (d.adr K) fd := by
  unfold DefY.ok at c2
  unfold fnY at e
  cases q : K.lookup (d.adr K) with
  | none =>
    rw [q] at c2
    cases c2
  | some o =>
    obtain ⟨oc, od, dt, osl⟩ := o
    rw [q] at c2 e
    cases dt with
    | func fd =>
      obtain ⟨n1, n2, n3, n4, n5, n6, n7, n8, n9, n10, n11, n12, n13, n14, n15⟩ := fd
      have e2 : (some (n1, n2, n3, n4, n5, n6, n7, n15) : FnW) = some (d.name, d.qual, d.params, .stmts d.body, d.scope, mainGlobals, [], builtinsNs) := e
      simp only [Option.some.injEq, Prod.mk.injEq] at e2
      obtain ⟨h1, h2, h3, h4, h5, h6, h7, h8⟩ := e2
      subst h1 h2 h3 h4 h5 h6 h7 h8
      have c3 : (PySem.W.codeIn K n13 d.qual && (dflB K n8 (d.dvs K) && kwdB K n9 (d.kws K))) = true := c2
      obtain ⟨k1, k2⟩ := ba c3
      obtain ⟨k3, k4⟩ := ba k2
      have kp : PySem.W.keepIn K (.ref (d.adr K)) = true := by
        unfold PySem.W.keepIn
        dsimp only
        rw [q]
      exact ⟨_, ⟨oc, od, n8, n9, n10, n11, n12, n13, n14, osl, rfl, q, k1, dflB_ok k3, kwdB_ok k4⟩, kp⟩
    | _ => cases c2
abbrev FaY : Type := PySem.W.Frag → Bool
/-! ### facts -/
def propG (K : PySem.W.Frag) (C f : Str) : Addr := match PySem.W.recIn K (ma K (ga K C) f) "property" with
  | some (.ref g :: _) => g
  | _ => 0
def fProp (C f : Str) : FaY := fun K => eqO (PySem.W.findIn K (.ref (ga K C)) f) (some (some (.ref (ma K (ga K C) f)))) && (eqO (PySem.W.specialIn K (.ref (ma K (ga K C) f)) "__get__") (some (some (.builtin "property.__get__"))) && (decide (PySem.W.takesIn K (.ref (ma K (ga K C) f)) = some true) && (match PySem.W.recIn K (ma K (ga K C) f) "property" with
  | some (.ref _ :: _) => true
  | _ => false)))
theorem fProp_ok {K : PySem.W.Frag} {C f : Str} (c : fProp C f K = true) : PropOf K (ga K C) f (ma K (ga K C) f) (propG K C f) := by
  obtain ⟨c1, c⟩ := ba c
  obtain ⟨c2, c⟩ := ba c
  obtain ⟨c3, c4⟩ := ba c
  refine ⟨eqO_ok c1, eqO_ok c2, of_decide_eq_true c3, ?_⟩
  unfold propG
  cases e : PySem.W.recIn K (ma K (ga K C) f) "property" with
  | none => rw [e] at c4; cases c4
  | some l =>
    rw [e] at c4
    cases l with
    | nil => cases c4
    | cons x r =>
      cases x with
      | ref g => exact ⟨r, rfl⟩
      | _ => cases c4
def clsG (K : PySem.W.Frag) (C f : Str) : Addr := match PySem.W.recIn K (ma K (ga K C) f) "classmethod" with
  | some (.ref g :: _) => g
  | _ => 0
def fRead (C : Str) : FaY := fun K => PySem.W.readsIn K (ga K C) (.type "type") && eqO (PySem.W.specialIn K (.ref (ga K C)) "__getattribute__") (some (some (.builtin "type.__getattribute__")))
theorem fRead_ok {K : PySem.W.Frag} {C : Str} (c : fRead C K = true) : ClX.CRead K (ga K C) (.type "type") := by
  obtain ⟨c1, c2⟩ := ba c
  exact ⟨c1, eqO_ok c2⟩
def fCMet (C f : Str) : FaY := fun K => (match PySem.W.findCls K (.ref (ga K C)) (.type "type") f with
  | some (.get (.builtin x) (.ref p) .none (.ref q)) => decide (x = "classmethod.__get__") && (decide (p = ma K (ga K C) f) && decide (q = ga K C))
  | _ => false) && ((match PySem.W.recIn K (ma K (ga K C) f) "classmethod" with
  | some (.ref _ :: _) => true
  | _ => false) && PySem.W.fnIn K (clsG K C f))
theorem fCMet_ok {K : PySem.W.Frag} {C f : Str} (c : fCMet C f K = true) : ClX.CMet K (ga K C) (.type "type") f (ma K (ga K C) f) (clsG K C f) := by
  obtain ⟨c1, c⟩ := ba c
  obtain ⟨c2, c3⟩ := ba c
  refine ⟨?_, ?_, c3⟩
  · split at c1
    · rename_i x p q e
      obtain ⟨a1, a⟩ := ba c1
      obtain ⟨a2, a3⟩ := ba a
      rw [e, of_decide_eq_true a1, of_decide_eq_true a2, of_decide_eq_true a3]
    · cases c1
  · unfold clsG
    cases e : PySem.W.recIn K (ma K (ga K C) f) "classmethod" with
    | none => rw [e] at c2; cases c2
    | some l =>
      rw [e] at c2
      cases l with
      | nil => cases c2
      | cons x r =>
        cases x with
        | ref g => exact ⟨r, rfl⟩
        | _ => cases c2
def fVal (C f : Str) (i : Int) : FaY := fun K => match PySem.W.findCls K (.ref (ga K C)) (.type "type") f with
  | some (.val (.int j _)) => decide (j = i)
  | _ => false
theorem fVal_ok {K : PySem.W.Frag} {C f : Str} {i : Int} (r : fRead C K = true) (c : fVal C f i K = true) : ∃ mc u, ClX.CRead K (ga K C) mc ∧ ClX.CVal K (ga K C) mc f (.int i) u := by
  unfold fVal at c
  split at c
  · rename_i j t e
    have ej := of_decide_eq_true c
    subst ej
    exact ⟨_, _, fRead_ok r, e, ⟨t, rfl⟩⟩
  · cases c
def fCon (C f : Str) (i : Int) : FaY := fun K => He.conB K C f (.int i)
theorem fCon_ok {K : PySem.W.Frag} {C f : Str} {i : Int} (c : fCon C f i K = true) (hc : PySem.W.copiedNames.contains f = false) : ∃ u, Con K (ga K C) f (.int i) u := He.conB_ok c hc
def fOwn (C : Str) : FaY := fun K => eqO (PySem.W.findIn K (.ref (ga K C)) "__class__") (some (some (.builtin "object.__class__"))) && (eqO (PySem.W.specialIn K (.builtin "object.__class__") "__get__") (some (some (.builtin "getset_descriptor.__get__"))) && (decide (PySem.W.takesIn K (.builtin "object.__class__") = some true) && decide (PySem.W.mroIn K (ga K C) (.type "object") = some true)))
def fKit (C : Str) : FaY := fun K => decide (PySem.W.kitOne K (.ref (ga K C)) (.ref (ga K C)) = some true)
theorem fKit_ok {K : PySem.W.Frag} {C : Str} (c : fKit C K = true) : PySem.W.kitOne K (.ref (ga K C)) (.ref (ga K C)) = some true := of_decide_eq_true c
def fBin (C : Str) (op : Operator) : FaY := fun K => PySem.W.selfFirst K (ga K C) && (eqO (PySem.W.findIn K (.ref (ga K C)) (dunderR op.info.2)) (some none) && ((PySem.W.findIn K (.type "int") (PySem.dunder op.info.2)).isSome && ((PySem.W.findIn K (.type "int") (dunderR op.info.2)).isSome && decide (PySem.W.subIn K (.type "int") (.ref (ga K C)) = some false))))
def fTup (x : Str) (zs : List Str) : FaY := fun K => He.tupB K x (zs.map Dv.str) && (match K.lookup (ga K x) with
  | some ⟨.type c, none, _, _⟩ => decide (c = "tuple")
  | _ => false)
theorem fTup_ok {K : PySem.W.Frag} {x : Str} {zs : List Str} (c : fTup x zs K = true) : (∀ H, SqT K H (ga K x) (zs.map V.str)) ∧ ∃ o, K.lookup (ga K x) = some o ∧ o.cls = .type "tuple" ∧ o.dict = none := by
  obtain ⟨c1, c2⟩ := ba c
  refine ⟨fun H => ?_, ?_⟩
  · have h := He.tupB_ok c1 H
    rw [List.map_map] at h
    exact h
  · cases e : K.lookup (ga K x) with
    | none => rw [e] at c2; cases c2
    | some o =>
      obtain ⟨oc, od, dt, osl⟩ := o
      rw [e] at c2
      cases oc with
      | type n =>
        cases od with
        | none => exact ⟨_, rfl, congrArg Value.type (of_decide_eq_true c2), rfl⟩
        | some d => cases c2
      | _ => cases c2
def fB (C m : Str) : FaY := fun K => (He.Fa.meth C m).ok K && (eqO (PySem.W.specialIn K (.ref (ma K (ga K C) m)) "__get__") (some (some (.builtin "function.__get__"))) && (decide (PySem.W.takesIn K (.ref (ma K (ga K C) m)) = some false) && PySem.W.fnIn K (ma K (ga K C) m)))
theorem fB_ok {K : PySem.W.Frag} {C m : Str} (c : fB C m K = true) (hc : PySem.W.copiedNames.contains m = false) : BMeth K (ga K C) m (ma K (ga K C) m) := by
  obtain ⟨c1, c⟩ := ba c
  obtain ⟨c2, c⟩ := ba c
  obtain ⟨c3, c4⟩ := ba c
  exact ⟨He.meth_ok c1, eqO_ok c2, of_decide_eq_true c3, hc, c4⟩
def fSeq (C : Str) : FaY := fun K => PySem.W.noSeq K (ga K C)
/-- a written dict's entry -/
def fNs (x k : Str) (i : Int) : FaY := fun K => match PySem.W.nsIn K (ga K x) k with
  | some (some (.int j _)) => decide (j = i)
  | _ => false
theorem fNs_ok {K : PySem.W.Frag} {x k : Str} {i : Int} (c : fNs x k i K = true) : ∃ t, PySem.W.nsIn K (ga K x) k = some (some (.int i t)) := by
  unfold fNs at c
  split at c
  · rename_i j t e
    have ej := of_decide_eq_true c
    subst ej
    exact ⟨t, e⟩
  · cases c
def fNo (x k : Str) : FaY := fun K => eqO (PySem.W.nsIn K (ga K x) k) (some none)
def yref : Value → List Addr
  | .ref a => [a]
  | _ => []
/-- what a def, a class, a record names -/
def ykids (o : Obj) : List Addr := match o.data with
  | .func fd => yref fd.code ++ (yref fd.defaults ++ yref fd.kwdefaults)
  | .cls cd => [cd.ns]
  | .fields vs => vs.toList.flatMap yref
  | _ => []
def yvals (o : Obj) : List Addr := match o.data with
  | .dict es _ => es.toList.flatMap fun e => yref e.val
  | _ => []
def ycode (o : Obj) : List Addr := match o.data with
  | .func fd => yref fd.code
  | _ => []
def ystep (g : Addr → Option Obj) (f : Obj → List Addr) (as : List Addr) : List Addr := as.flatMap fun a => match g a with
  | some o => f o
  | none => []
/-- the objects looked at: the globals, their code and namespaces, the methods, their code, the getters', their code -/
def yL1 (g : Addr → Option Obj) : List Addr := ystep g yvals [mainGlobals]
def yL2 (g : Addr → Option Obj) : List Addr := ystep g ykids (yL1 g)
def yL3 (g : Addr → Option Obj) : List Addr := ystep g yvals (yL2 g)
def yL4 (g : Addr → Option Obj) : List Addr := ystep g ykids (yL3 g)
def yL5 (g : Addr → Option Obj) : List Addr := ystep g ycode (yL4 g)
def yclose (g : Addr → Option Obj) : List Addr := mainGlobals :: cStatics :: (yL1 g ++ (yL2 g ++ (yL3 g ++ (yL4 g ++ yL5 g))))
/-- the ones at these places (ascending) -/
def ypick : List Nat → Nat → List Addr → List Addr
  | p :: ps, i, a :: as => match Nat.beq i p with
    | true => a :: ypick ps (i + 1) as
    | false => ypick (p :: ps) (i + 1) as
  | _, _, _ => []
/-! ### the Hook -/
abbrev AlY : Type := (Bool × List FnW) × List (Option (List (Option (Str × Int))))
def obsY (fa : List FaY) (fn : List DefY) (ts : List He.Tab) (K : PySem.W.Frag) : AlY := (((fa.all fun f => f K) && fn.all fun d => d.ok K, fn.map fun d => fnY K (d.adr K)), ts.map fun t => He.dicW K (t.1 K))
def valY (fn : List DefY) (ts : List He.Tab) (w : World) : AlY := ((true, fn.map DefY.val), ts.map fun t => some (He.keysIn w.params t.2))
def SaysY (fa : List FaY) (fn : List DefY) (ts : List He.Tab) (w : World) (K : PySem.W.Frag) : Prop := obsY fa fn ts K = valY fn ts w
def obsYG (cl : (Addr → Option Obj) → List Addr) (fa : List FaY) (fn : List DefY) (ts : List He.Tab) (g : Addr → Option Obj) : AlY := obsY fa fn ts (He.frG g (cl g))
def hookY (cl : (Addr → Option Obj) → List Addr) (fa : List FaY) (fn : List DefY) (ts : List He.Tab) : PySem.W.Hook where
  α := AlY
  obs := fun s => obsYG cl fa fn ts s.heap.get?
  val := fun w => valY fn ts w
  says := fun w h => ∃ K : PySem.W.Frag, K.In h ∧ SaysY fa fn ts w K
  of := fun _ _ e => ⟨_, He.frG_in, e⟩
  keeps := fun _ _ _ ⟨K, hK, c⟩ k => ⟨K, PySem.W.Frag.In.keeps hK k, c⟩
theorem obsYG_eq {cl : (Addr → Option Obj) → List Addr} {fa : List FaY} {fn : List DefY} {ts : List He.Tab} {g : Addr → Option Obj} {s : Shared} (h : ∀ a, g a = s.heap.get? a) : obsYG cl fa fn ts g = (hookY cl fa fn ts).obs s := by
  have e : g = s.heap.get? := funext h
  rw [e] <;> rfl
section
variable {fa : List FaY} {fn : List DefY} {ts : List He.Tab} {w : World} {K : PySem.W.Frag}
theorem SaysY.fact (c : SaysY fa fn ts w K) (i : Nat) {f : FaY} (h : fa[i]? = some f) : f K = true := by
  have c1 := (ba (show ((fa.all fun f => f K) && fn.all fun d => d.ok K) = true from congrArg (fun z : AlY => z.1.1) c)).1
  exact List.all_eq_true.mp c1 f (List.mem_of_getElem? h)
theorem SaysY.def_ (c : SaysY fa fn ts w K) (i : Nat) {d : DefY} (h : fn[i]? = some d) : ∃ fd, FunD K d.name d.qual d.params d.body d.scope (d.dvs K) (d.kws K) (d.adr K) fd := by
  have c2 := (ba (show ((fa.all fun f => f K) && fn.all fun d => d.ok K) = true from congrArg (fun z : AlY => z.1.1) c)).2
  have e : fn.map (fun d => fnY K (d.adr K)) = fn.map DefY.val := congrArg (fun z : AlY => z.1.2) c
  have e2 : (fn.map fun d => fnY K (d.adr K))[i]? = (fn.map DefY.val)[i]? := by rw [e]
  rw [List.getElem?_map, List.getElem?_map, h] at e2
  exact DefY.funD (Option.some.inj e2) (List.all_eq_true.mp c2 d (List.mem_of_getElem? h))
theorem SaysY.tab (c : SaysY fa fn ts w K) (i : Nat) {t : He.Tab} (h : ts[i]? = some t) : ∃ es n, KDict K w (t.1 K) es n := by
  have e : ts.map (fun t => He.dicW K (t.1 K)) = ts.map fun t => some (He.keysIn w.params t.2) := congrArg (fun z : AlY => z.2) c
  have e2 : (ts.map fun t => He.dicW K (t.1 K))[i]? = (ts.map fun t => some (He.keysIn w.params t.2))[i]? := by rw [e]
  rw [List.getElem?_map, List.getElem?_map, h] at e2
  exact He.dicW_ok (Option.some.inj e2)
end
end Ly
namespace Ly
open PySem PySem.Spec PyProof.Rows L2
open He (ga ma eqO eqO_ok ba FnW Dv)
/-! ### the run's equation by three runs -/
abbrev AlB : Type := Bool × List (Option (List (Option (Str × Int))))
abbrev AlC : Type := Bool × List FnW
def obsB (fa : List FaY) (ts : List He.Tab) (K : PySem.W.Frag) : AlB := (fa.all fun f => f K, ts.map fun t => He.dicW K (t.1 K))
def obsC (fn : List DefY) (K : PySem.W.Frag) : AlC := (fn.all fun d => d.ok K, fn.map fun d => fnY K (d.adr K))
theorem join3 {σ α β γ : Type} {o : Option σ} {f : σ → α} {g : σ → β} {h : σ → γ} {a : α} {b : β} {c : γ} (h1 : o.map f = some a) (h2 : o.map g = some b) (h3 : o.map h = some c) : ∃ s, o = some s ∧ f s = a ∧ g s = b ∧ h s = c := by
  cases o with
  | none => cases h1
  | some s => exact ⟨s, rfl, Option.some.inj h1, Option.some.inj h2, Option.some.inj h3⟩
theorem runEq3 {r : PySem.W.OpenRow} {q : Program} {cl : (Addr → Option Obj) → List Addr} {fa : List FaY} {fn : List DefY} {ts : List He.Tab} {M : Nat} {loose : List Str} {w : World}
    (hA : ∀ os : OsState, (HandSHeadRun.endF (HandSHeadRun.stepQ (HandSHeadRun.denQ HandSHeadRun.tabQ) r.prog w) M r.prog w os).map (fun s => (HandSHeadRun.looksF r.prog (PySem.W.boot_heap w.params) s.abs, HandSHeadRun.seenQ q loose (importedModules r.prog.main.body) (fun s => PySem.W.xlAt q [] s && PySem.W.recOk r.toRowW.records s) s.abs)) = some (true, PySem.W.openGood q loose))
    (hB : ∀ os : OsState, (HandSHeadRun.endF (HandSHeadRun.stepQ (HandSHeadRun.denQ HandSHeadRun.tabQ) r.prog w) M r.prog w os).map (fun s => obsB fa ts (He.frG (HandSHeadRun.getT s) (cl (HandSHeadRun.getT s)))) = some (true, ts.map fun t => some (He.keysIn w.params t.2)))
    (hC : ∀ os : OsState, (HandSHeadRun.endF (HandSHeadRun.stepQ (HandSHeadRun.denQ HandSHeadRun.tabQ) r.prog w) M r.prog w os).map (fun s => obsC fn (He.frG (HandSHeadRun.getT s) (cl (HandSHeadRun.getT s)))) = some (true, fn.map DefY.val)) :
    HandSHeadRun.RunEq r q (hookY cl fa fn ts) (fun s => obsYG cl fa fn ts (HandSHeadRun.getT s)) M loose w := by
  intro os
  obtain ⟨s, e, a, b, c⟩ := join3 (hA os) (hB os) (hC os)
  rw [e]
  obtain ⟨a1, a2⟩ := Prod.mk.inj a
  obtain ⟨b1, b2⟩ := Prod.mk.inj b
  obtain ⟨c1, c2⟩ := Prod.mk.inj c
  show some (_, _, obsYG cl fa fn ts (HandSHeadRun.getT s)) = some (true, PySem.W.openGood q loose, valY fn ts w)
  rw [a1, a2]
  unfold obsYG obsY valY
  rw [b1, b2, c1, c2]
  rfl
end Ly
namespace K76
open PySem PySem.Spec PyProof.Rows L2 Ly
def clsB (s : Stmt) : List Stmt := match s with
  | .ClassDef _ _ _ body .. => body
  | _ => []
abbrev body0 : List Stmt := PySem.Challenge.pw_promisesowned_k76_whole_rounds.main.body
abbrev top (i : Nat) : Stmt := body0.getD i (.Pass ⟨0, 0, 0, 0⟩)
abbrev s_is_over : Stmt := top 19
abbrev s_delays : Stmt := top 23
abbrev s_task_delays : Stmt := top 24
abbrev s_end_in_rounds : Stmt := top 25
abbrev s_capped : Stmt := top 33
abbrev s_fits_side : Stmt := top 34
abbrev s_Kin___init__ : Stmt := (clsB (top 35)).getD 1 (.Pass ⟨0, 0, 0, 0⟩)
abbrev s_Kin___lt__ : Stmt := (clsB (top 35)).getD 9 (.Pass ⟨0, 0, 0, 0⟩)
abbrev s_Kin___mod__ : Stmt := (clsB (top 35)).getD 13 (.Pass ⟨0, 0, 0, 0⟩)
abbrev s_Kin_is_self : Stmt := (clsB (top 35)).getD 5 (.Pass ⟨0, 0, 0, 0⟩)
abbrev s_Kin_measure : Stmt := (clsB (top 35)).getD 7 (.Pass ⟨0, 0, 0, 0⟩)
abbrev s_demand_reach : Stmt := top 41
abbrev s_all_cells : Stmt := top 42
abbrev s_let_parts : Stmt := top 46
abbrev s_Rule___init__ : Stmt := (clsB (top 47)).getD 1 (.Pass ⟨0, 0, 0, 0⟩)
abbrev s_Rule_lets : Stmt := (clsB (top 47)).getD 4 (.Pass ⟨0, 0, 0, 0⟩)
abbrev s_Rule_put : Stmt := (clsB (top 47)).getD 9 (.Pass ⟨0, 0, 0, 0⟩)
abbrev s_Rule_twin : Stmt := (clsB (top 47)).getD 11 (.Pass ⟨0, 0, 0, 0⟩)
abbrev s_Rule___call__ : Stmt := (clsB (top 47)).getD 15 (.Pass ⟨0, 0, 0, 0⟩)
abbrev s_Rule___getitem__ : Stmt := (clsB (top 47)).getD 16 (.Pass ⟨0, 0, 0, 0⟩)
abbrev s_Rule___setitem__ : Stmt := (clsB (top 47)).getD 18 (.Pass ⟨0, 0, 0, 0⟩)
abbrev s_Hands___init__ : Stmt := (clsB (top 53)).getD 0 (.Pass ⟨0, 0, 0, 0⟩)
abbrev s_Hands_every : Stmt := (clsB (top 53)).getD 1 (.Pass ⟨0, 0, 0, 0⟩)
abbrev s_Family___init__ : Stmt := (clsB (top 55)).getD 1 (.Pass ⟨0, 0, 0, 0⟩)
abbrev s_Family_demand : Stmt := (clsB (top 55)).getD 4 (.Pass ⟨0, 0, 0, 0⟩)
abbrev s_Family_bear : Stmt := (clsB (top 55)).getD 5 (.Pass ⟨0, 0, 0, 0⟩)
abbrev s_Family_kinship : Stmt := (clsB (top 55)).getD 19 (.Pass ⟨0, 0, 0, 0⟩)
abbrev s_State___init__ : Stmt := (clsB (top 57)).getD 0 (.Pass ⟨0, 0, 0, 0⟩)
abbrev s_State_add : Stmt := (clsB (top 57)).getD 2 (.Pass ⟨0, 0, 0, 0⟩)
abbrev s_Runtime___init__ : Stmt := (clsB (top 59)).getD 0 (.Pass ⟨0, 0, 0, 0⟩)
abbrev s_Runtime___len__ : Stmt := (clsB (top 59)).getD 4 (.Pass ⟨0, 0, 0, 0⟩)
abbrev s_Runtime_demand : Stmt := (clsB (top 59)).getD 6 (.Pass ⟨0, 0, 0, 0⟩)
abbrev s_Runtime_demand_running : Stmt := (clsB (top 59)).getD 7 (.Pass ⟨0, 0, 0, 0⟩)
abbrev s_Runtime_in_phase : Stmt := (clsB (top 59)).getD 8 (.Pass ⟨0, 0, 0, 0⟩)
abbrev s_Runtime_running : Stmt := (clsB (top 59)).getD 9 (.Pass ⟨0, 0, 0, 0⟩)
abbrev s_Runtime_phase : Stmt := (clsB (top 59)).getD 13 (.Pass ⟨0, 0, 0, 0⟩)
abbrev s_Runtime_targets : Stmt := (clsB (top 59)).getD 14 (.Pass ⟨0, 0, 0, 0⟩)
abbrev s_Runtime_bear : Stmt := (clsB (top 59)).getD 19 (.Pass ⟨0, 0, 0, 0⟩)
abbrev s_Runtime_wait : Stmt := (clsB (top 59)).getD 20 (.Pass ⟨0, 0, 0, 0⟩)
abbrev s_Runtime_end : Stmt := (clsB (top 59)).getD 21 (.Pass ⟨0, 0, 0, 0⟩)
abbrev s_Runtime___call__ : Stmt := (clsB (top 59)).getD 22 (.Pass ⟨0, 0, 0, 0⟩)
abbrev s__law_start : Stmt := top 61
abbrev s__law_draw : Stmt := top 62
abbrev s__law_is_number : Stmt := top 63
abbrev s__law_same : Stmt := top 64
abbrev s__law_sides : Stmt := top 65
abbrev s__law_capped : Stmt := top 66
abbrev s__law_kin : Stmt := top 67
abbrev s__law_line : Stmt := top 68
abbrev s__law_parts_of : Stmt := top 69
abbrev s__law_cells : Stmt := top 70
abbrev s__law_rule : Stmt := top 71
abbrev s__law_lets : Stmt := top 72
abbrev s__law_flags : Stmt := top 73
abbrev s__law_hands : Stmt := top 74
abbrev s__law_held : Stmt := top 75
abbrev s__law_holds : Stmt := top 76
abbrev s__law_grip : Stmt := top 77
abbrev s__law_hall : Stmt := top 78
abbrev s__law_bears : Stmt := top 79
abbrev s__law_over : Stmt := top 80
abbrev s__law_begins : Stmt := top 81
abbrev s__law_ending : Stmt := top 82
abbrev s__law_running : Stmt := top 83
abbrev s__law_good_targets : Stmt := top 84
abbrev s__law_stands : Stmt := top 85
abbrev s__law_world : Stmt := top 86
abbrev s__law_stage : Stmt := top 87
abbrev s__law_effect : Stmt := top 88
abbrev s__law_next_deed : Stmt := top 89
abbrev s__law_played : Stmt := top 90
abbrev s__law_copied : Stmt := top 91
abbrev s__law_rounds : Stmt := top 92
abbrev s__law_delays : Stmt := top 93
abbrev s_law : Stmt := top 94
def y_is_over : DefY := ⟨fun K => He.ga K "is_over", "is_over", "is_over", defArgs s_is_over, defBody s_is_over, defScope s_is_over, [], []⟩
def y_delays : DefY := ⟨fun K => He.ga K "delays", "delays", "delays", defArgs s_delays, defBody s_delays, defScope s_delays, [], []⟩
def y_task_delays : DefY := ⟨fun K => He.ga K "task_delays", "task_delays", "task_delays", defArgs s_task_delays, defBody s_task_delays, defScope s_task_delays, [], []⟩
def y_end_in_rounds : DefY := ⟨fun K => He.ga K "end_in_rounds", "end_in_rounds", "end_in_rounds", defArgs s_end_in_rounds, defBody s_end_in_rounds, defScope s_end_in_rounds, [], []⟩
def y_capped : DefY := ⟨fun K => He.ga K "capped", "capped", "capped", defArgs s_capped, defBody s_capped, defScope s_capped, [], []⟩
def y_fits_side : DefY := ⟨fun K => He.ga K "fits_side", "fits_side", "fits_side", defArgs s_fits_side, defBody s_fits_side, defScope s_fits_side, [], []⟩
def y_Kin___init__ : DefY := ⟨fun K => He.ma K (He.ga K "Kin") "__init__", "__init__", "Kin.__init__", defArgs s_Kin___init__, defBody s_Kin___init__, defScope s_Kin___init__, [], []⟩
def y_Kin___lt__ : DefY := ⟨fun K => He.ma K (He.ga K "Kin") "__lt__", "__lt__", "Kin.__lt__", defArgs s_Kin___lt__, defBody s_Kin___lt__, defScope s_Kin___lt__, [], []⟩
def y_Kin___mod__ : DefY := ⟨fun K => He.ma K (He.ga K "Kin") "__mod__", "__mod__", "Kin.__mod__", defArgs s_Kin___mod__, defBody s_Kin___mod__, defScope s_Kin___mod__, [], []⟩
def y_Kin_is_self : DefY := ⟨fun K => propG K "Kin" "is_self", "is_self", "Kin.is_self", defArgs s_Kin_is_self, defBody s_Kin_is_self, defScope s_Kin_is_self, [], []⟩
def y_Kin_measure : DefY := ⟨fun K => He.ma K (He.ga K "Kin") "measure", "measure", "Kin.measure", defArgs s_Kin_measure, defBody s_Kin_measure, defScope s_Kin_measure, [], []⟩
def y_demand_reach : DefY := ⟨fun K => He.ga K "demand_reach", "demand_reach", "demand_reach", defArgs s_demand_reach, defBody s_demand_reach, defScope s_demand_reach, [], []⟩
def y_all_cells : DefY := ⟨fun K => He.ga K "all_cells", "all_cells", "all_cells", defArgs s_all_cells, defBody s_all_cells, defScope s_all_cells, [], []⟩
def y_let_parts : DefY := ⟨fun K => He.ga K "let_parts", "let_parts", "let_parts", defArgs s_let_parts, defBody s_let_parts, defScope s_let_parts, [], []⟩
def y_Rule___init__ : DefY := ⟨fun K => He.ma K (He.ga K "Rule") "__init__", "__init__", "Rule.__init__", defArgs s_Rule___init__, defBody s_Rule___init__, defScope s_Rule___init__, [], []⟩
def y_Rule_lets : DefY := ⟨fun K => He.ma K (He.ga K "Rule") "lets", "lets", "Rule.lets", defArgs s_Rule_lets, defBody s_Rule_lets, defScope s_Rule_lets, [], []⟩
def y_Rule_put : DefY := ⟨fun K => He.ma K (He.ga K "Rule") "put", "put", "Rule.put", defArgs s_Rule_put, defBody s_Rule_put, defScope s_Rule_put, [], []⟩
def y_Rule_twin : DefY := ⟨fun K => He.ma K (He.ga K "Rule") "twin", "twin", "Rule.twin", defArgs s_Rule_twin, defBody s_Rule_twin, defScope s_Rule_twin, [], []⟩
def y_Rule___call__ : DefY := ⟨fun K => He.ma K (He.ga K "Rule") "__call__", "__call__", "Rule.__call__", defArgs s_Rule___call__, defBody s_Rule___call__, defScope s_Rule___call__, [], []⟩
def y_Rule___getitem__ : DefY := ⟨fun K => He.ma K (He.ga K "Rule") "__getitem__", "__getitem__", "Rule.__getitem__", defArgs s_Rule___getitem__, defBody s_Rule___getitem__, defScope s_Rule___getitem__, [], []⟩
def y_Rule___setitem__ : DefY := ⟨fun K => He.ma K (He.ga K "Rule") "__setitem__", "__setitem__", "Rule.__setitem__", defArgs s_Rule___setitem__, defBody s_Rule___setitem__, defScope s_Rule___setitem__, [], []⟩
def y_Hands___init__ : DefY := ⟨fun K => He.ma K (He.ga K "Hands") "__init__", "__init__", "Hands.__init__", defArgs s_Hands___init__, defBody s_Hands___init__, defScope s_Hands___init__, [], [("keeps", .bl true), ("greets", .bl false), ("inherits", .bl true), ("told", .bl false)]⟩
def y_Hands_every : DefY := ⟨fun K => clsG K "Hands" "every", "every", "Hands.every", defArgs s_Hands_every, defBody s_Hands_every, defScope s_Hands_every, [], []⟩
def y_Family___init__ : DefY := ⟨fun K => He.ma K (He.ga K "Family") "__init__", "__init__", "Family.__init__", defArgs s_Family___init__, defBody s_Family___init__, defScope s_Family___init__, [], []⟩
def y_Family_demand : DefY := ⟨fun K => He.ma K (He.ga K "Family") "demand", "demand", "Family.demand", defArgs s_Family_demand, defBody s_Family_demand, defScope s_Family_demand, [], []⟩
def y_Family_bear : DefY := ⟨fun K => He.ma K (He.ga K "Family") "bear", "bear", "Family.bear", defArgs s_Family_bear, defBody s_Family_bear, defScope s_Family_bear, [], []⟩
def y_Family_kinship : DefY := ⟨fun K => He.ma K (He.ga K "Family") "kinship", "kinship", "Family.kinship", defArgs s_Family_kinship, defBody s_Family_kinship, defScope s_Family_kinship, [], []⟩
def y_State___init__ : DefY := ⟨fun K => He.ma K (He.ga K "State") "__init__", "__init__", "State.__init__", defArgs s_State___init__, defBody s_State___init__, defScope s_State___init__, [], []⟩
def y_State_add : DefY := ⟨fun K => He.ma K (He.ga K "State") "add", "add", "State.add", defArgs s_State_add, defBody s_State_add, defScope s_State_add, [], []⟩
def y_Runtime___init__ : DefY := ⟨fun K => He.ma K (He.ga K "Runtime") "__init__", "__init__", "Runtime.__init__", defArgs s_Runtime___init__, defBody s_Runtime___init__, defScope s_Runtime___init__, [], [("hands", .non), ("limit", .int 100)]⟩
def y_Runtime___len__ : DefY := ⟨fun K => He.ma K (He.ga K "Runtime") "__len__", "__len__", "Runtime.__len__", defArgs s_Runtime___len__, defBody s_Runtime___len__, defScope s_Runtime___len__, [], []⟩
def y_Runtime_demand : DefY := ⟨fun K => He.ma K (He.ga K "Runtime") "demand", "demand", "Runtime.demand", defArgs s_Runtime_demand, defBody s_Runtime_demand, defScope s_Runtime_demand, [], []⟩
def y_Runtime_demand_running : DefY := ⟨fun K => He.ma K (He.ga K "Runtime") "demand_running", "demand_running", "Runtime.demand_running", defArgs s_Runtime_demand_running, defBody s_Runtime_demand_running, defScope s_Runtime_demand_running, [], []⟩
def y_Runtime_in_phase : DefY := ⟨fun K => He.ma K (He.ga K "Runtime") "in_phase", "in_phase", "Runtime.in_phase", defArgs s_Runtime_in_phase, defBody s_Runtime_in_phase, defScope s_Runtime_in_phase, [], []⟩
def y_Runtime_running : DefY := ⟨fun K => propG K "Runtime" "running", "running", "Runtime.running", defArgs s_Runtime_running, defBody s_Runtime_running, defScope s_Runtime_running, [], []⟩
def y_Runtime_phase : DefY := ⟨fun K => He.ma K (He.ga K "Runtime") "phase", "phase", "Runtime.phase", defArgs s_Runtime_phase, defBody s_Runtime_phase, defScope s_Runtime_phase, [], []⟩
def y_Runtime_targets : DefY := ⟨fun K => He.ma K (He.ga K "Runtime") "targets", "targets", "Runtime.targets", defArgs s_Runtime_targets, defBody s_Runtime_targets, defScope s_Runtime_targets, [], []⟩
def y_Runtime_bear : DefY := ⟨fun K => He.ma K (He.ga K "Runtime") "bear", "bear", "Runtime.bear", defArgs s_Runtime_bear, defBody s_Runtime_bear, defScope s_Runtime_bear, [], []⟩
def y_Runtime_wait : DefY := ⟨fun K => He.ma K (He.ga K "Runtime") "wait", "wait", "Runtime.wait", defArgs s_Runtime_wait, defBody s_Runtime_wait, defScope s_Runtime_wait, [], [("any_of", .bl false)]⟩
def y_Runtime_end : DefY := ⟨fun K => He.ma K (He.ga K "Runtime") "end", "end", "Runtime.end", defArgs s_Runtime_end, defBody s_Runtime_end, defScope s_Runtime_end, [], []⟩
def y_Runtime___call__ : DefY := ⟨fun K => He.ma K (He.ga K "Runtime") "__call__", "__call__", "Runtime.__call__", defArgs s_Runtime___call__, defBody s_Runtime___call__, defScope s_Runtime___call__, [], []⟩
def y__law_start : DefY := ⟨fun K => He.ga K "_law_start", "_law_start", "_law_start", defArgs s__law_start, defBody s__law_start, defScope s__law_start, [], []⟩
def y__law_draw : DefY := ⟨fun K => He.ga K "_law_draw", "_law_draw", "_law_draw", defArgs s__law_draw, defBody s__law_draw, defScope s__law_draw, [], []⟩
def y__law_is_number : DefY := ⟨fun K => He.ga K "_law_is_number", "_law_is_number", "_law_is_number", defArgs s__law_is_number, defBody s__law_is_number, defScope s__law_is_number, [], []⟩
def y__law_same : DefY := ⟨fun K => He.ga K "_law_same", "_law_same", "_law_same", defArgs s__law_same, defBody s__law_same, defScope s__law_same, [], []⟩
def y__law_sides : DefY := ⟨fun K => He.ga K "_law_sides", "_law_sides", "_law_sides", defArgs s__law_sides, defBody s__law_sides, defScope s__law_sides, [], []⟩
def y__law_capped : DefY := ⟨fun K => He.ga K "_law_capped", "_law_capped", "_law_capped", defArgs s__law_capped, defBody s__law_capped, defScope s__law_capped, [], []⟩
def y__law_kin : DefY := ⟨fun K => He.ga K "_law_kin", "_law_kin", "_law_kin", defArgs s__law_kin, defBody s__law_kin, defScope s__law_kin, [], []⟩
def y__law_line : DefY := ⟨fun K => He.ga K "_law_line", "_law_line", "_law_line", defArgs s__law_line, defBody s__law_line, defScope s__law_line, [], []⟩
def y__law_parts_of : DefY := ⟨fun K => He.ga K "_law_parts_of", "_law_parts_of", "_law_parts_of", defArgs s__law_parts_of, defBody s__law_parts_of, defScope s__law_parts_of, [], []⟩
def y__law_cells : DefY := ⟨fun K => He.ga K "_law_cells", "_law_cells", "_law_cells", defArgs s__law_cells, defBody s__law_cells, defScope s__law_cells, [], []⟩
def y__law_rule : DefY := ⟨fun K => He.ga K "_law_rule", "_law_rule", "_law_rule", defArgs s__law_rule, defBody s__law_rule, defScope s__law_rule, [], []⟩
def y__law_lets : DefY := ⟨fun K => He.ga K "_law_lets", "_law_lets", "_law_lets", defArgs s__law_lets, defBody s__law_lets, defScope s__law_lets, [], []⟩
def y__law_flags : DefY := ⟨fun K => He.ga K "_law_flags", "_law_flags", "_law_flags", defArgs s__law_flags, defBody s__law_flags, defScope s__law_flags, [], []⟩
def y__law_hands : DefY := ⟨fun K => He.ga K "_law_hands", "_law_hands", "_law_hands", defArgs s__law_hands, defBody s__law_hands, defScope s__law_hands, [], []⟩
def y__law_held : DefY := ⟨fun K => He.ga K "_law_held", "_law_held", "_law_held", defArgs s__law_held, defBody s__law_held, defScope s__law_held, [], []⟩
def y__law_holds : DefY := ⟨fun K => He.ga K "_law_holds", "_law_holds", "_law_holds", defArgs s__law_holds, defBody s__law_holds, defScope s__law_holds, [], []⟩
def y__law_grip : DefY := ⟨fun K => He.ga K "_law_grip", "_law_grip", "_law_grip", defArgs s__law_grip, defBody s__law_grip, defScope s__law_grip, [], []⟩
def y__law_hall : DefY := ⟨fun K => He.ga K "_law_hall", "_law_hall", "_law_hall", defArgs s__law_hall, defBody s__law_hall, defScope s__law_hall, [], []⟩
def y__law_bears : DefY := ⟨fun K => He.ga K "_law_bears", "_law_bears", "_law_bears", defArgs s__law_bears, defBody s__law_bears, defScope s__law_bears, [], []⟩
def y__law_over : DefY := ⟨fun K => He.ga K "_law_over", "_law_over", "_law_over", defArgs s__law_over, defBody s__law_over, defScope s__law_over, [], []⟩
def y__law_begins : DefY := ⟨fun K => He.ga K "_law_begins", "_law_begins", "_law_begins", defArgs s__law_begins, defBody s__law_begins, defScope s__law_begins, [], []⟩
def y__law_ending : DefY := ⟨fun K => He.ga K "_law_ending", "_law_ending", "_law_ending", defArgs s__law_ending, defBody s__law_ending, defScope s__law_ending, [], []⟩
def y__law_running : DefY := ⟨fun K => He.ga K "_law_running", "_law_running", "_law_running", defArgs s__law_running, defBody s__law_running, defScope s__law_running, [], []⟩
def y__law_good_targets : DefY := ⟨fun K => He.ga K "_law_good_targets", "_law_good_targets", "_law_good_targets", defArgs s__law_good_targets, defBody s__law_good_targets, defScope s__law_good_targets, [], []⟩
def y__law_stands : DefY := ⟨fun K => He.ga K "_law_stands", "_law_stands", "_law_stands", defArgs s__law_stands, defBody s__law_stands, defScope s__law_stands, [], []⟩
def y__law_world : DefY := ⟨fun K => He.ga K "_law_world", "_law_world", "_law_world", defArgs s__law_world, defBody s__law_world, defScope s__law_world, [], []⟩
def y__law_stage : DefY := ⟨fun K => He.ga K "_law_stage", "_law_stage", "_law_stage", defArgs s__law_stage, defBody s__law_stage, defScope s__law_stage, [], []⟩
def y__law_effect : DefY := ⟨fun K => He.ga K "_law_effect", "_law_effect", "_law_effect", defArgs s__law_effect, defBody s__law_effect, defScope s__law_effect, [], []⟩
def y__law_next_deed : DefY := ⟨fun K => He.ga K "_law_next_deed", "_law_next_deed", "_law_next_deed", defArgs s__law_next_deed, defBody s__law_next_deed, defScope s__law_next_deed, [], []⟩
def y__law_played : DefY := ⟨fun K => He.ga K "_law_played", "_law_played", "_law_played", defArgs s__law_played, defBody s__law_played, defScope s__law_played, [], []⟩
def y__law_copied : DefY := ⟨fun K => He.ga K "_law_copied", "_law_copied", "_law_copied", defArgs s__law_copied, defBody s__law_copied, defScope s__law_copied, [], []⟩
def y__law_rounds : DefY := ⟨fun K => He.ga K "_law_rounds", "_law_rounds", "_law_rounds", defArgs s__law_rounds, defBody s__law_rounds, defScope s__law_rounds, [], []⟩
def y__law_delays : DefY := ⟨fun K => He.ga K "_law_delays", "_law_delays", "_law_delays", defArgs s__law_delays, defBody s__law_delays, defScope s__law_delays, [], []⟩
def y_law : DefY := ⟨fun K => He.ga K "law", "law", "law", defArgs s_law, defBody s_law, defScope s_law, [], []⟩
def yfn : List DefY := ([y_is_over, y_delays, y_task_delays, y_end_in_rounds, y_capped, y_fits_side, y_Kin___init__, y_Kin___lt__, y_Kin___mod__, y_Kin_is_self, y_Kin_measure, y_demand_reach, y_all_cells, y_let_parts, y_Rule___init__, y_Rule_lets, y_Rule_put, y_Rule_twin, y_Rule___call__, y_Rule___getitem__] : List DefY) ++ ([y_Rule___setitem__, y_Hands___init__, y_Hands_every, y_Family___init__, y_Family_demand, y_Family_bear, y_Family_kinship, y_State___init__, y_State_add, y_Runtime___init__, y_Runtime___len__, y_Runtime_demand, y_Runtime_demand_running, y_Runtime_in_phase, y_Runtime_running, y_Runtime_phase, y_Runtime_targets, y_Runtime_bear, y_Runtime_wait, y_Runtime_end] : List DefY) ++ ([y_Runtime___call__, y__law_start, y__law_draw, y__law_is_number, y__law_same, y__law_sides, y__law_capped, y__law_kin, y__law_line, y__law_parts_of, y__law_cells, y__law_rule, y__law_lets, y__law_flags, y__law_hands, y__law_held, y__law_holds, y__law_grip, y__law_hall, y__law_bears] : List DefY) ++ ([y__law_over, y__law_begins, y__law_ending, y__law_running, y__law_good_targets, y__law_stands, y__law_world, y__law_stage, y__law_effect, y__law_next_deed, y__law_played, y__law_copied, y__law_rounds, y__law_delays, y_law] : List DefY)
def yfa : List FaY := ([fun K => (.glo "is_over" : He.Fa).ok K, fun K => (.glo "delays" : He.Fa).ok K, fun K => (.glo "task_delays" : He.Fa).ok K, fun K => (.glo "end_in_rounds" : He.Fa).ok K, fun K => (.glo "capped" : He.Fa).ok K, fun K => (.glo "fits_side" : He.Fa).ok K, fun K => (.mkr "Kin" : He.Fa).ok K, fun K => (.meth "Kin" "__lt__" : He.Fa).ok K, fun K => (.meth "Kin" "__mod__" : He.Fa).ok K, fProp "Kin" "is_self", fun K => (.meth "Kin" "measure" : He.Fa).ok K, fun K => (.glo "demand_reach" : He.Fa).ok K, fun K => (.glo "all_cells" : He.Fa).ok K, fun K => (.glo "let_parts" : He.Fa).ok K, fun K => (.mkr "Rule" : He.Fa).ok K, fun K => (.meth "Rule" "lets" : He.Fa).ok K, fun K => (.meth "Rule" "put" : He.Fa).ok K, fun K => (.meth "Rule" "twin" : He.Fa).ok K, fun K => (.meth "Rule" "__call__" : He.Fa).ok K, fun K => (.meth "Rule" "__getitem__" : He.Fa).ok K] : List FaY) ++ ([fun K => (.meth "Rule" "__setitem__" : He.Fa).ok K, fun K => (.mkr "Hands" : He.Fa).ok K, fCMet "Hands" "every", fRead "Hands", fun K => (.mkr "Family" : He.Fa).ok K, fun K => (.meth "Family" "demand" : He.Fa).ok K, fun K => (.meth "Family" "bear" : He.Fa).ok K, fun K => (.meth "Family" "kinship" : He.Fa).ok K, fun K => (.mkr "State" : He.Fa).ok K, fun K => (.meth "State" "add" : He.Fa).ok K, fun K => (.mkr "Runtime" : He.Fa).ok K, fun K => (.meth "Runtime" "__len__" : He.Fa).ok K, fun K => (.meth "Runtime" "demand" : He.Fa).ok K, fun K => (.meth "Runtime" "demand_running" : He.Fa).ok K, fun K => (.meth "Runtime" "in_phase" : He.Fa).ok K, fProp "Runtime" "running", fun K => (.meth "Runtime" "phase" : He.Fa).ok K, fun K => (.meth "Runtime" "targets" : He.Fa).ok K, fun K => (.meth "Runtime" "bear" : He.Fa).ok K, fB "Runtime" "wait"] : List FaY) ++ ([fun K => (.meth "Runtime" "end" : He.Fa).ok K, fun K => (.meth "Runtime" "__call__" : He.Fa).ok K, fun K => (.glo "_law_start" : He.Fa).ok K, fun K => (.glo "_law_draw" : He.Fa).ok K, fun K => (.glo "_law_is_number" : He.Fa).ok K, fun K => (.glo "_law_same" : He.Fa).ok K, fun K => (.glo "_law_sides" : He.Fa).ok K, fun K => (.glo "_law_capped" : He.Fa).ok K, fun K => (.glo "_law_kin" : He.Fa).ok K, fun K => (.glo "_law_line" : He.Fa).ok K, fun K => (.glo "_law_parts_of" : He.Fa).ok K, fun K => (.glo "_law_cells" : He.Fa).ok K, fun K => (.glo "_law_rule" : He.Fa).ok K, fun K => (.glo "_law_lets" : He.Fa).ok K, fun K => (.glo "_law_flags" : He.Fa).ok K, fun K => (.glo "_law_hands" : He.Fa).ok K, fun K => (.glo "_law_held" : He.Fa).ok K, fun K => (.glo "_law_holds" : He.Fa).ok K, fun K => (.glo "_law_grip" : He.Fa).ok K, fun K => (.glo "_law_hall" : He.Fa).ok K] : List FaY) ++ ([fun K => (.glo "_law_bears" : He.Fa).ok K, fun K => (.glo "_law_over" : He.Fa).ok K, fun K => (.glo "_law_begins" : He.Fa).ok K, fun K => (.glo "_law_ending" : He.Fa).ok K, fun K => (.glo "_law_running" : He.Fa).ok K, fun K => (.glo "_law_good_targets" : He.Fa).ok K, fun K => (.glo "_law_stands" : He.Fa).ok K, fun K => (.glo "_law_world" : He.Fa).ok K, fun K => (.glo "_law_stage" : He.Fa).ok K, fun K => (.glo "_law_effect" : He.Fa).ok K, fun K => (.glo "_law_next_deed" : He.Fa).ok K, fun K => (.glo "_law_played" : He.Fa).ok K, fun K => (.glo "_law_copied" : He.Fa).ok K, fun K => (.glo "_law_rounds" : He.Fa).ok K, fun K => (.glo "_law_delays" : He.Fa).ok K, fun K => (.glo "law" : He.Fa).ok K, fun K => (.free "len" : He.Fa).ok K, fun K => (.free "range" : He.Fa).ok K, fun K => (.free "list" : He.Fa).ok K, fun K => (.free "tuple" : He.Fa).ok K] : List FaY) ++ ([fun K => (.free "int" : He.Fa).ok K, fun K => (.free "bool" : He.Fa).ok K, fun K => (.free "str" : He.Fa).ok K, fun K => (.free "min" : He.Fa).ok K, fun K => (.free "isinstance" : He.Fa).ok K, fun K => (.glo "Kin" : He.Fa).ok K, fun K => (.cls "Kin" : He.Fa).ok K, fun K => (.noat "Kin" "up" : He.Fa).ok K, fun K => (.noat "Kin" "down" : He.Fa).ok K, fun K => (.noat "Kin" "side" : He.Fa).ok K, fun K => (.noat "Kin" "far" : He.Fa).ok K, fun K => (.noat "Kin" "rank" : He.Fa).ok K, fCon "Kin" "MOST" 999, fOwn "Kin", fKit "Kin", fBin "Kin" .Mod, fun K => (.glo "SIDES" : He.Fa).ok K, fTup "SIDES" ["line", "elder", "younger"], fun K => (.int "LEAST_REACH" 1 : He.Fa).ok K, fun K => (.int "MOST_REACH" 4 : He.Fa).ok K] : List FaY) ++ ([fun K => (.glo "Rule" : He.Fa).ok K, fun K => (.cls "Rule" : He.Fa).ok K, fun K => (.noat "Rule" "_reach" : He.Fa).ok K, fun K => (.noat "Rule" "_let" : He.Fa).ok K, fun K => (.noat "Rule" "_rows" : He.Fa).ok K, fSeq "Rule", fun K => (.glo "Hands" : He.Fa).ok K, fun K => (.cls "Hands" : He.Fa).ok K, fun K => (.noat "Hands" "keeps" : He.Fa).ok K, fun K => (.noat "Hands" "greets" : He.Fa).ok K, fun K => (.noat "Hands" "inherits" : He.Fa).ok K, fun K => (.noat "Hands" "told" : He.Fa).ok K, fun K => (.glo "Family" : He.Fa).ok K, fun K => (.cls "Family" : He.Fa).ok K, fun K => (.noat "Family" "_tasks" : He.Fa).ok K, fun K => (.noat "Family" "_parents" : He.Fa).ok K, fun K => (.noat "Family" "_places" : He.Fa).ok K, fun K => (.noat "Family" "_depths" : He.Fa).ok K, fun K => (.noat "Family" "_broods" : He.Fa).ok K, fCon "Family" "MOST" 600] : List FaY) ++ ([fRead "Family", fVal "Family" "MOST" 600, fun K => (.glo "State" : He.Fa).ok K, fun K => (.cls "State" : He.Fa).ok K, fun K => (.noat "State" "family" : He.Fa).ok K, fun K => (.noat "State" "phases" : He.Fa).ok K, fun K => (.noat "State" "awaited" : He.Fa).ok K, fun K => (.noat "State" "modes" : He.Fa).ok K, fun K => (.noat "State" "held" : He.Fa).ok K, fun K => (.glo "Runtime" : He.Fa).ok K, fun K => (.cls "Runtime" : He.Fa).ok K, fun K => (.noat "Runtime" "_rule" : He.Fa).ok K, fun K => (.noat "Runtime" "_hands" : He.Fa).ok K, fun K => (.noat "Runtime" "_limit" : He.Fa).ok K, fun K => (.noat "Runtime" "state" : He.Fa).ok K, fun K => (.glo "FIRST" : He.Fa).ok K, fNs "FIRST" "ended" 0, fNs "FIRST" "running" 1, fNo "FIRST" "waiting"] : List FaY)
def yts : List He.Tab := [(fun K => He.ga K "FIRST", ["ended", "running"])]
def ynames : List PySem.Str := ((["_wall", "__name__", "ForkError", "BadKin", "BadReach", "TooNarrow", "BadCell", "BadText", "NoTask", "TooMany", "BadLimit", "TaskWaits", "TaskEnded", "NoTargets", "WaitRefused", "NotLet", "NotHeld", "BadDeed", "is_over", "stuck_tasks"] : List String) ++ (["FIRST", "delays", "task_delays", "end_in_rounds", "DIGITS", "MOST_DIGITS", "read_number", "SIDES", "OPPOSITE", "capped", "fits_side", "Kin", "line_word", "open_kins", "LEAST_REACH", "MOST_REACH", "demand_reach", "all_cells", "number_text", "cell_text"] : List String) ++ (["let_parts", "Rule", "matching", "joined", "combined", "LETTERS", "Hands", "Family", "State", "Runtime", "_law_start", "_law_draw", "_law_is_number", "_law_same", "_law_sides", "_law_capped", "_law_kin", "_law_line", "_law_parts_of", "_law_cells"] : List String) ++ (["_law_rule", "_law_lets", "_law_flags", "_law_hands", "_law_held", "_law_holds", "_law_grip", "_law_hall", "_law_bears", "_law_over", "_law_begins", "_law_ending", "_law_running", "_law_good_targets", "_law_stands", "_law_world", "_law_stage", "_law_effect", "_law_next_deed", "_law_played"] : List String) ++ (["_law_copied", "_law_rounds", "_law_delays"] : List String)).map PySem.Str.ofString
def yhot : List Nat := ([0, 1, 23, 32, 40, 44, 45, 46, 47, 107, 115, 119, 120, 121, 122, 389, 434, 455] : List Nat)
def yrest : List Nat := ([21, 24, 25, 26, 28, 30, 31, 35, 36, 39, 48, 49, 50, 51, 52, 53, 54, 55, 56, 57, 58, 59, 60, 61, 62, 63, 64, 65, 66, 67] : List Nat) ++ ([68, 69, 70, 71, 72, 73, 74, 75, 76, 77, 78, 79, 80, 81, 99, 101, 102, 103, 105, 106, 110, 111, 114, 123, 124, 125, 126, 127, 128, 129] : List Nat) ++ ([130, 131, 132, 133, 134, 135, 136, 137, 138, 139, 140, 141, 142, 143, 144, 145, 146, 147, 148, 149, 150, 151, 152, 153, 154, 155, 156, 190, 194, 196] : List Nat) ++ ([198, 202, 208, 211, 215, 217, 221, 222, 224, 246, 247, 260, 263, 264, 278, 285, 287, 291, 294, 296, 297, 298, 299, 303, 304, 309, 310, 311, 312, 333] : List Nat) ++ ([337, 339, 341, 345, 350, 353, 358, 360, 364, 365, 367, 388, 390, 403, 406, 407, 421, 428, 430, 433, 438, 440, 441, 442, 443, 447, 448, 453, 454, 456] : List Nat) ++ ([457, 463, 469, 477] : List Nat)
def ycl (g : Addr → Option Obj) : List Addr := ypick yhot 0 (yclose g) ++ ypick yrest 0 (yclose g)
abbrev R : PySem.W.OpenRow := PySem.W.OpenLaw.row PySem.Challenge.rw_promisesowned_k76_whole_rounds
abbrev hk : PySem.W.Hook := hookY ycl yfa yfn yts
def ob (s : PySem.W.SharedT) : AlY := obsYG ycl yfa yfn yts (HandSHeadRun.getT s)
theorem ob_eq (s : PySem.W.SharedT) : ob s = hk.obs s.abs := obsYG_eq (HandSHeadRun.getT_eq s)
abbrev RA (w : World) : Prop := ∀ os : OsState, (HandSHeadRun.endF (HandSHeadRun.stepQ (HandSHeadRun.denQ HandSHeadRun.tabQ) R.prog w) 14000 R.prog w os).map (fun s => (HandSHeadRun.looksF R.prog (PySem.W.boot_heap w.params) s.abs, HandSHeadRun.seenQ (PySem.W.view R.prog [94]) ynames (importedModules R.prog.main.body) (fun s => PySem.W.xlAt (PySem.W.view R.prog [94]) [] s && PySem.W.recOk R.toRowW.records s) s.abs)) = some (true, PySem.W.openGood (PySem.W.view R.prog [94]) ynames)
abbrev RB (w : World) : Prop := ∀ os : OsState, (HandSHeadRun.endF (HandSHeadRun.stepQ (HandSHeadRun.denQ HandSHeadRun.tabQ) R.prog w) 14000 R.prog w os).map (fun s => obsB yfa yts (He.frG (HandSHeadRun.getT s) (ycl (HandSHeadRun.getT s)))) = some (true, yts.map fun t => some (He.keysIn w.params t.2))
abbrev RC (w : World) : Prop := ∀ os : OsState, (HandSHeadRun.endF (HandSHeadRun.stepQ (HandSHeadRun.denQ HandSHeadRun.tabQ) R.prog w) 14000 R.prog w os).map (fun s => obsC yfn (He.frG (HandSHeadRun.getT s) (ycl (HandSHeadRun.getT s)))) = some (true, yfn.map DefY.val)
theorem rAF (w : World) : RA (w.withFollow "special-get-raises" false) := by
  intro os
  kernel_rfl
theorem rAT (w : World) : RA (w.withFollow "special-get-raises" true) := by
  intro os
  kernel_rfl
theorem rBF (w : World) : RB (w.withFollow "special-get-raises" false) := by
  intro os
  kernel_rfl
theorem rBT (w : World) : RB (w.withFollow "special-get-raises" true) := by
  intro os
  kernel_rfl
theorem rCF (w : World) : RC (w.withFollow "special-get-raises" false) := by
  intro os
  kernel_rfl
theorem rCT (w : World) : RC (w.withFollow "special-get-raises" true) := by
  intro os
  kernel_rfl
theorem run (w : World) : HandSHeadRun.RunEq R (PySem.W.view R.prog [94]) hk ob 14000 ynames w := runEq3 (PySem.W.byRow2 "special-get-raises" (P := RA) rAF rAT w) (PySem.W.byRow2 "special-get-raises" (P := RB) rBF rBT w) (PySem.W.byRow2 "special-get-raises" (P := RC) rCF rCT w)
end K76
set_option maxHeartbeats 4000000
/-! Ly1: data, what stands for it in a heap, owned groups. -/
namespace Ly
open PySem PySem.Spec PyProof.Rows L2
/-- data: what a value is worth, without addresses (raw: a value as it stands) -/
inductive D where
  | non | bl (b : Bool) | int (i : Int) | str (s : Str) | lst (ds : List D) | tup (ds : List D) | raw (v : V) | ins (C : Addr) (ks : List Str) (ds : List D)
def Ex (H H' : Hp) : Prop := ∀ a o, H a = some o → H' a = some o
theorem Ex.refl (H : Hp) : Ex H H := fun _ _ h => h
theorem Ex.trans {H H1 H2 : Hp} (a : Ex H H1) (b : Ex H1 H2) : Ex H H2 := fun x o h => b x o (a x o h)
theorem Ex.new {H : Hp} {p : Addr} {o : HO} (h : H p = none) : Ex H (upd H p o) := fun a u e => by
  rw [upd_ne (ne_of_none e h)]
  exact e
theorem Ex.free {H H' : Hp} {p : Addr} (e : Ex H H') (h : H' p = none) : H p = none := by
  cases h1 : H p with
  | none => rfl
  | some o => rw [e p o h1] at h; cases h
theorem Ex.both {H H' : Hp} {p : Addr} {o : HO} (e : Ex H H') : Ex (upd H p o) (upd H' p o) := fun a u h => by
  by_cases q : a = p
  · rw [q, upd_same] at h; rw [q, upd_same]; exact h
  · rw [upd_ne q] at h; rw [upd_ne q]; exact e a u h
theorem Ex.rd {H H' : Hp} {a : Addr} {u : HO} (e : Ex H H') (h : Rd H a u) : Rd H' a u := by
  rcases h with h | ⟨o, h⟩
  · exact Or.inl (e a _ h)
  · exact Or.inr ⟨o, e a _ h⟩
variable {K : PySem.W.Frag}
theorem Ex.sql {H H' : Hp} {a : Addr} {xs : List V} (e : Ex H H') (h : SqL K H a xs) : SqL K H' a xs := by
  rcases h with h | h
  · exact Or.inl (e.rd h)
  · exact Or.inr h
theorem Ex.sqt {H H' : Hp} {a : Addr} {xs : List V} (e : Ex H H') (h : SqT K H a xs) : SqT K H' a xs := by
  rcases h with h | h
  · exact Or.inl (e.rd h)
  · exact Or.inr h
/-! ### what stands for data -/
mutual
def Rep (K : PySem.W.Frag) (F : Hp) : D → V → Prop
  | .non, v => v = .non
  | .bl b, v => v = .bl b
  | .int i, v => v = .int i
  | .str s, v => v = .str s
  | .raw x, v => v = x
  | .lst ds, v => ∃ a vs, v = .ref a ∧ F a = some (.lst vs) ∧ RepL K F ds vs
  | .tup ds, v => ∃ a vs, v = .ref a ∧ F a = some (.tup vs) ∧ RepL K F ds vs
  | .ins C ks ds, v => ∃ a dx vs, v = .ref a ∧ F a = some (.ins C dx (ks.zip vs)) ∧ ks.length = vs.length ∧ RepL K F ds vs
def RepL (K : PySem.W.Frag) (F : Hp) : List D → List V → Prop
  | [], vs => vs = []
  | d :: ds, vs => ∃ v r, vs = v :: r ∧ Rep K F d v ∧ RepL K F ds r
end
section
variable {F F' : Hp}
mutual
theorem Rep.ex (e : Ex F F') : ∀ (d : D) {v : V}, Rep K F d v → Rep K F' d v
  | .non, _, h => h
  | .bl _, _, h => h
  | .int _, _, h => h
  | .str _, _, h => h
  | .raw _, _, h => h
  | .lst ds, _, h => by
    unfold Rep at h ⊢
    obtain ⟨a, vs, h1, h2, h3⟩ := h
    exact ⟨a, vs, h1, e _ _ h2, RepL.ex e ds h3⟩
  | .tup ds, _, h => by
    unfold Rep at h ⊢
    obtain ⟨a, vs, h1, h2, h3⟩ := h
    exact ⟨a, vs, h1, e _ _ h2, RepL.ex e ds h3⟩
  | .ins C ks ds, _, h => by
    unfold Rep at h ⊢
    obtain ⟨a, dx, vs, h1, h2, h3, h4⟩ := h
    exact ⟨a, dx, vs, h1, e _ _ h2, h3, RepL.ex e ds h4⟩
theorem RepL.ex (e : Ex F F') : ∀ (ds : List D) {vs : List V}, RepL K F ds vs → RepL K F' ds vs
  | [], _, h => by
    unfold RepL at h ⊢
    exact h
  | d :: ds, _, h => by
    unfold RepL at h ⊢
    obtain ⟨v, r, h1, h2, h3⟩ := h
    exact ⟨v, r, h1, Rep.ex e d h2, RepL.ex e ds h3⟩
end
theorem RepL.nil_iff {vs : List V} : RepL K F [] vs ↔ vs = [] := by unfold RepL; exact Iff.rfl
theorem RepL.cons_iff {d : D} {ds : List D} {vs : List V} : RepL K F (d :: ds) vs ↔ ∃ v r, vs = v :: r ∧ Rep K F d v ∧ RepL K F ds r := by
  constructor
  · intro h; unfold RepL at h; exact h
  · intro h; unfold RepL; exact h
theorem RepL.nil : RepL K F [] [] := RepL.nil_iff.mpr rfl
theorem RepL.cons {d : D} {ds : List D} {v : V} {r : List V} (h : Rep K F d v) (t : RepL K F ds r) : RepL K F (d :: ds) (v :: r) := RepL.cons_iff.mpr ⟨v, r, rfl, h, t⟩
theorem RepL.cons' {d : D} {ds : List D} {v : V} {r : List V} (h : RepL K F (d :: ds) (v :: r)) : Rep K F d v ∧ RepL K F ds r := by
  obtain ⟨v', r', e, h1, h2⟩ := RepL.cons_iff.mp h
  cases e
  exact ⟨h1, h2⟩
theorem RepL.length : ∀ {ds : List D} {vs : List V}, RepL K F ds vs → ds.length = vs.length
  | [], _, h => by rw [RepL.nil_iff.mp h] <;> rfl
  | d :: ds, vs, h => by
    obtain ⟨v, r, e, h1, h2⟩ := RepL.cons_iff.mp h
    rw [e, List.length_cons, List.length_cons, RepL.length h2]
theorem RepL.get : ∀ {ds : List D} {vs : List V} {i : Nat} {d : D}, RepL K F ds vs → ds[i]? = some d → ∃ v, vs[i]? = some v ∧ Rep K F d v
  | [], _, _, _, _, e => by simp at e
  | x :: ds, vs, 0, d, h, e => by
    obtain ⟨v, r, ev, h1, h2⟩ := RepL.cons_iff.mp h
    simp at e
    subst e
    exact ⟨v, by rw [ev]; rfl, h1⟩
  | x :: ds, vs, i + 1, d, h, e => by
    obtain ⟨v, r, ev, h1, h2⟩ := RepL.cons_iff.mp h
    obtain ⟨u, h3, h4⟩ := RepL.get (i := i) (d := d) h2 (by simpa using e)
    exact ⟨u, by rw [ev]; simpa using h3, h4⟩
theorem RepL.getV {ds : List D} {vs : List V} {i : Nat} {v : V} (h : RepL K F ds vs) (e : vs[i]? = some v) : ∃ d, ds[i]? = some d ∧ Rep K F d v := by
  have hl := h.length
  have h1 : i < ds.length := by rw [hl]; exact (List.getElem?_eq_some_iff.mp e).1
  obtain ⟨u, h2, h3⟩ := h.get (List.getElem?_eq_getElem h1)
  rw [e] at h2
  cases h2
  exact ⟨_, List.getElem?_eq_getElem h1, h3⟩
theorem RepL.append : ∀ {ds es : List D} {vs us : List V}, RepL K F ds vs → RepL K F es us → RepL K F (ds ++ es) (vs ++ us)
  | [], _, vs, _, h, t => by rw [RepL.nil_iff.mp h]; exact t
  | d :: ds, es, vs, us, h, t => by
    obtain ⟨v, r, ev, h1, h2⟩ := RepL.cons_iff.mp h
    rw [ev]
    exact RepL.cons h1 (RepL.append h2 t)
theorem RepL.set : ∀ {ds : List D} {vs : List V} {d : D} {v : V} (i : Nat), RepL K F ds vs → Rep K F d v → RepL K F (ds.set i d) (vs.set i v)
  | [], vs, _, _, _, h, _ => by rw [RepL.nil_iff.mp h]; exact RepL.nil
  | x :: ds, vs, d, v, 0, h, t => by
    obtain ⟨u, r, ev, h1, h2⟩ := RepL.cons_iff.mp h
    rw [ev]
    exact RepL.cons t h2
  | x :: ds, vs, d, v, i + 1, h, t => by
    obtain ⟨u, r, ev, h1, h2⟩ := RepL.cons_iff.mp h
    rw [ev]
    exact RepL.cons h1 (RepL.set i h2 t)
theorem RepL.drop : ∀ {ds : List D} {vs : List V} (n : Nat), RepL K F ds vs → RepL K F (ds.drop n) (vs.drop n)
  | _, _, 0, h => h
  | [], vs, n + 1, h => by rw [RepL.nil_iff.mp h]; exact RepL.nil
  | d :: ds, vs, n + 1, h => by
    obtain ⟨v, r, ev, h1, h2⟩ := RepL.cons_iff.mp h
    rw [ev]
    exact RepL.drop n h2
theorem RepL.take : ∀ {ds : List D} {vs : List V} (n : Nat), RepL K F ds vs → RepL K F (ds.take n) (vs.take n)
  | _, _, 0, h => RepL.nil
  | [], vs, n + 1, h => by rw [RepL.nil_iff.mp h]; exact RepL.nil
  | d :: ds, vs, n + 1, h => by
    obtain ⟨v, r, ev, h1, h2⟩ := RepL.cons_iff.mp h
    rw [ev]
    exact RepL.cons h1 (RepL.take n h2)
theorem RepL.reverse : ∀ {ds : List D} {vs : List V}, RepL K F ds vs → RepL K F ds.reverse vs.reverse
  | [], vs, h => by rw [RepL.nil_iff.mp h]; exact RepL.nil
  | d :: ds, vs, h => by
    obtain ⟨v, r, ev, h1, h2⟩ := RepL.cons_iff.mp h
    rw [ev, List.reverse_cons, List.reverse_cons]
    exact RepL.append (RepL.reverse h2) (RepL.cons h1 RepL.nil)
theorem RepL.split : ∀ {ds es : List D} {vs : List V}, RepL K F (ds ++ es) vs → ∃ us ws, vs = us ++ ws ∧ RepL K F ds us ∧ RepL K F es ws
  | [], es, vs, h => ⟨[], vs, rfl, RepL.nil, h⟩
  | d :: ds, es, vs, h => by
    obtain ⟨v, r, ev, h1, h2⟩ := RepL.cons_iff.mp h
    obtain ⟨us, ws, e, h3, h4⟩ := RepL.split h2
    exact ⟨v :: us, ws, by rw [ev, e]; rfl, RepL.cons h1 h3, h4⟩
end
theorem rep_lst {F : Hp} {ds : List D} {v : V} : Rep K F (.lst ds) v ↔ ∃ a vs, v = .ref a ∧ F a = some (.lst vs) ∧ RepL K F ds vs := by
  constructor
  · intro h; unfold Rep at h; exact h
  · intro h; unfold Rep; exact h
theorem rep_tup {F : Hp} {ds : List D} {v : V} : Rep K F (.tup ds) v ↔ ∃ a vs, v = .ref a ∧ F a = some (.tup vs) ∧ RepL K F ds vs := by
  constructor
  · intro h; unfold Rep at h; exact h
  · intro h; unfold Rep; exact h
theorem rep_ins {F : Hp} {C : Addr} {ks : List Str} {ds : List D} {v : V} : Rep K F (.ins C ks ds) v ↔ ∃ a dx vs, v = .ref a ∧ F a = some (.ins C dx (ks.zip vs)) ∧ ks.length = vs.length ∧ RepL K F ds vs := by
  constructor
  · intro h; unfold Rep at h; exact h
  · intro h; unfold Rep; exact h
theorem rep_non {F : Hp} {v : V} : Rep K F .non v ↔ v = .non := by unfold Rep; exact Iff.rfl
theorem rep_int {F : Hp} {i : Int} {v : V} : Rep K F (.int i) v ↔ v = .int i := by unfold Rep; exact Iff.rfl
theorem rep_bl {F : Hp} {b : Bool} {v : V} : Rep K F (.bl b) v ↔ v = .bl b := by unfold Rep; exact Iff.rfl
theorem rep_str {F : Hp} {s : Str} {v : V} : Rep K F (.str s) v ↔ v = .str s := by unfold Rep; exact Iff.rfl
theorem rep_raw {F : Hp} {x v : V} : Rep K F (.raw x) v ↔ v = x := by unfold Rep; exact Iff.rfl
/-! ### owned groups -/
abbrev FP := List (Addr × HO)
abbrev Grp := Hp → FP → Prop
abbrev Gs := List Grp
def Holds (g : Grp) (F : Hp) (l : FP) : Prop := ∃ F0, Ex F0 F ∧ g F0 l
theorem Holds.of {g : Grp} {F : Hp} {l : FP} (h : g F l) : Holds g F l := ⟨F, Ex.refl F, h⟩
theorem Holds.ex {g : Grp} {F F' : Hp} {l : FP} (h : Holds g F l) (e : Ex F F') : Holds g F' l := by
  obtain ⟨F0, e0, h⟩ := h
  exact ⟨F0, e0.trans e, h⟩
def SatL : Gs → Hp → FP → Prop
  | [], _, l => l = []
  | g :: G, F, l => ∃ l1 l2, l = l1 ++ l2 ∧ Holds g F l1 ∧ SatL G F l2
theorem SatL.ex {F F' : Hp} (e : Ex F F') : ∀ {G : Gs} {l : FP}, SatL G F l → SatL G F' l
  | [], _, h => h
  | g :: G, l, ⟨l1, l2, e1, h1, h2⟩ => ⟨l1, l2, e1, h1.ex e, SatL.ex e h2⟩
theorem SatL.append {F : Hp} : ∀ {G1 G2 : Gs} {l1 l2 : FP}, SatL G1 F l1 → SatL G2 F l2 → SatL (G1 ++ G2) F (l1 ++ l2)
  | [], _, l1, l2, h1, h2 => by
    have e : l1 = [] := h1
    rw [e]
    exact h2
  | g :: G, _, l1, l2, ⟨a, b, e1, h1, h3⟩, h2 => ⟨a, b ++ l2, by rw [e1, List.append_assoc], h1, SatL.append h3 h2⟩
theorem SatL.split {F : Hp} : ∀ {G1 G2 : Gs} {l : FP}, SatL (G1 ++ G2) F l → ∃ l1 l2, l = l1 ++ l2 ∧ SatL G1 F l1 ∧ SatL G2 F l2
  | [], _, l, h => ⟨[], l, rfl, rfl, h⟩
  | g :: G, _, l, ⟨a, b, e1, h1, h3⟩ => by
    obtain ⟨l1, l2, e2, h4, h5⟩ := SatL.split h3
    exact ⟨a ++ l1, l2, by rw [e1, e2, List.append_assoc], ⟨a, l1, rfl, h1, h4⟩, h5⟩
/-- the footprint stands in H, out of what is frozen -/
structure Stand (H F : Hp) (l : FP) : Prop where
  at_ : ∀ q ∈ l, H q.1 = some q.2 ∧ F q.1 = none
  nd : (l.map (·.1)).Nodup
structure Sat (H F : Hp) (G : Gs) : Prop where
  ex : Ex F H
  gs : ∃ l, SatL G F l ∧ Stand H F l
theorem Stand.perm {H F : Hp} {l l' : FP} (p : l.Perm l') (h : Stand H F l) : Stand H F l' := ⟨fun q hq => h.at_ q (p.mem_iff.mpr hq), (p.map (·.1)).nodup_iff.mp h.nd⟩
theorem Stand.left {H F : Hp} {l1 l2 : FP} (h : Stand H F (l1 ++ l2)) : Stand H F l1 := ⟨fun q hq => h.at_ q (List.mem_append_left _ hq), by
  have := h.nd
  rw [List.map_append] at this
  exact (List.nodup_append.mp this).1⟩
theorem Stand.right {H F : Hp} {l1 l2 : FP} (h : Stand H F (l1 ++ l2)) : Stand H F l2 := ⟨fun q hq => h.at_ q (List.mem_append_right _ hq), by
  have := h.nd
  rw [List.map_append] at this
  exact (List.nodup_append.mp this).2.1⟩
theorem SatL.perm {F : Hp} {G G' : Gs} (p : G.Perm G') : ∀ {l : FP}, SatL G F l → ∃ l', l.Perm l' ∧ SatL G' F l' := by
  induction p with
  | nil => intro l h; exact ⟨l, .refl _, h⟩
  | cons g _ ih =>
    intro l ⟨l1, l2, e, h1, h2⟩
    obtain ⟨l', p', h'⟩ := ih h2
    exact ⟨l1 ++ l', by rw [e]; exact p'.append_left l1, l1, l', rfl, h1, h'⟩
  | swap a b G =>
    intro l ⟨l1, l2, e, h1, l3, l4, e2, h2, h3⟩
    refine ⟨l3 ++ (l1 ++ l4), ?_, l3, l1 ++ l4, rfl, h2, l1, l4, rfl, h1, h3⟩
    rw [e, e2, ← List.append_assoc, ← List.append_assoc]
    exact List.perm_append_comm.append_right _
  | trans _ _ ih1 ih2 =>
    intro l h
    obtain ⟨l', p1, h1⟩ := ih1 h
    obtain ⟨l'', p2, h2⟩ := ih2 h1
    exact ⟨l'', p1.trans p2, h2⟩
theorem Sat.perm {H F : Hp} {G G' : Gs} (p : G.Perm G') (h : Sat H F G) : Sat H F G' := by
  obtain ⟨l, h1, h2⟩ := h.gs
  obtain ⟨l', p', h'⟩ := SatL.perm p h1
  exact ⟨h.ex, l', h', h2.perm p'⟩
/-- entailment between groups: what is dropped or regrouped -/
def Ent (G G' : Gs) : Prop := ∀ F l, SatL G F l → ∃ l' r, l.Perm (l' ++ r) ∧ SatL G' F l'
theorem Ent.refl (G : Gs) : Ent G G := fun _ l h => ⟨l, [], by rw [List.append_nil], h⟩
theorem Ent.trans {G G1 G2 : Gs} (a : Ent G G1) (b : Ent G1 G2) : Ent G G2 := fun F l h => by
  obtain ⟨l1, r1, p1, h1⟩ := a F l h
  obtain ⟨l2, r2, p2, h2⟩ := b F l1 h1
  exact ⟨l2, r2 ++ r1, p1.trans (by rw [← List.append_assoc]; exact p2.append_right r1), h2⟩
theorem Ent.perm {G G' : Gs} (p : G.Perm G') : Ent G G' := fun _ l h => by
  obtain ⟨l', p', h'⟩ := SatL.perm p h
  exact ⟨l', [], by rw [List.append_nil]; exact p', h'⟩
theorem Ent.append {G1 G1' G2 G2' : Gs} (a : Ent G1 G1') (b : Ent G2 G2') : Ent (G1 ++ G2) (G1' ++ G2') := fun F l h => by
  obtain ⟨l1, l2, e, h1, h2⟩ := SatL.split h
  obtain ⟨m1, r1, p1, k1⟩ := a F l1 h1
  obtain ⟨m2, r2, p2, k2⟩ := b F l2 h2
  refine ⟨m1 ++ m2, r1 ++ r2, ?_, SatL.append k1 k2⟩
  rw [e]
  refine (p1.append p2).trans ?_
  rw [List.append_assoc, List.append_assoc]
  refine List.Perm.append_left m1 ?_
  rw [← List.append_assoc, ← List.append_assoc]
  exact List.perm_append_comm.append_right r2
theorem Ent.cons {G G' : Gs} (g : Grp) (h : Ent G G') : Ent (g :: G) (g :: G') := Ent.append (G1 := [g]) (G1' := [g]) (Ent.refl _) h
theorem Ent.drop {g : Grp} {G : Gs} : Ent (g :: G) G := fun F l ⟨l1, l2, e, h1, h2⟩ => ⟨l2, l1, by rw [e]; exact List.perm_append_comm, h2⟩
theorem Ent.nil {G : Gs} : Ent G [] := fun F l h => ⟨[], l, by simp, rfl⟩
theorem Ent.sat {H F : Hp} {G G' : Gs} (a : Ent G G') (h : Sat H F G) : Sat H F G' := by
  obtain ⟨l, h1, st⟩ := h.gs
  obtain ⟨l', r, p, h2⟩ := a F l h1
  exact ⟨h.ex, l', h2, (st.perm p).left⟩
/-- a group behind an existential: its parts -/
def gx {α : Type} (f : α → Gs) : Grp := fun F l => ∃ a, SatL (f a) F l
theorem gx_close {α : Type} {f : α → Gs} (a : α) {G : Gs} : Ent (f a ++ G) (gx f :: G) := fun F l h => by
  obtain ⟨l1, l2, e, h1, h2⟩ := SatL.split h
  exact ⟨l, [], by simp, l1, l2, e, Holds.of ⟨a, h1⟩, h2⟩
theorem gx_open {α : Type} {f : α → Gs} {G : Gs} {H F : Hp} (h : Sat H F (gx f :: G)) : ∃ a, Sat H F (f a ++ G) := by
  obtain ⟨l, ⟨l1, l2, e, ⟨F0, e0, a, h1⟩, h2⟩, st⟩ := h.gs
  exact ⟨a, h.ex, l, by rw [e]; exact SatL.append (h1.ex e0) h2, st⟩
/-- a fact about what is frozen, kept among the groups -/
def gp (φ : Hp → Prop) : Grp := fun F l => l = [] ∧ φ F
theorem gp_dup {φ : Hp → Prop} {G : Gs} : Ent (gp φ :: G) (gp φ :: gp φ :: G) := fun F l ⟨l1, l2, e, ⟨F0, e0, n, h1⟩, h2⟩ =>
  ⟨l, [], by simp, [], l2, by rw [e, n], ⟨F0, e0, rfl, h1⟩, [], l2, rfl, ⟨F0, e0, rfl, h1⟩, h2⟩
theorem gp_get {φ : Hp → Prop} {G : Gs} {H F : Hp} (m : gp φ ∈ G) (h : Sat H F G) : ∃ F0, Ex F0 F ∧ φ F0 := by
  obtain ⟨l, h1, st⟩ := h.gs
  clear h st
  induction G generalizing l with
  | nil => cases m
  | cons g G ih =>
    obtain ⟨l1, l2, e, h2, h3⟩ := h1
    rcases List.mem_cons.mp m with q | q
    · subst q
      obtain ⟨F0, e0, _, h4⟩ := h2
      exact ⟨F0, e0, h4⟩
    · exact ih q l2 h3
/-! ### one object -/
def one (p : Addr) (φ : Hp → HO → Prop) : Grp := fun F l => ∃ o, l = [(p, o)] ∧ φ F o
/-- a group among others; c: another in its place -/
def Foc (G : Gs) (g : Grp) (c : Grp → Gs) : Prop := ∃ R, Ent G (g :: R) ∧ ∀ g', Ent (g' :: R) (c g')
theorem Ent.swap {g h : Grp} {G : Gs} : Ent (g :: h :: G) (h :: g :: G) := Ent.perm (.swap _ _ _)
theorem Foc.here {g : Grp} {G : Gs} : Foc (g :: G) g (fun g' => g' :: G) := ⟨G, Ent.refl _, fun _ => Ent.refl _⟩
theorem Foc.there {g h : Grp} {G : Gs} {c : Grp → Gs} (f : Foc G g c) : Foc (h :: G) g (fun g' => h :: c g') := by
  obtain ⟨R, p, q⟩ := f
  exact ⟨h :: R, (p.cons h).trans Ent.swap, fun g' => Ent.swap.trans ((q g').cons h)⟩
/-- a group taken out -/
def Rem (G : Gs) (g : Grp) (R : Gs) : Prop := Ent G (g :: R)
theorem Rem.here {g : Grp} {G : Gs} : Rem (g :: G) g G := Ent.refl _
theorem Rem.there {g h : Grp} {G R : Gs} (f : Rem G g R) : Rem (h :: G) g (h :: R) := (Ent.cons h f).trans Ent.swap
/-- several groups as one -/
def gb (gs : Gs) : Grp := fun F l => SatL gs F l
theorem gb_open {gs G : Gs} : Ent (gb gs :: G) (gs ++ G) := fun F l ⟨l1, l2, e, ⟨F0, e0, h1⟩, h2⟩ => ⟨l, [], by simp, by rw [e]; exact SatL.append (SatL.ex e0 h1) h2⟩
theorem gb_close {gs G : Gs} : Ent (gs ++ G) (gb gs :: G) := fun F l h => by
  obtain ⟨l1, l2, e, h1, h2⟩ := SatL.split h
  exact ⟨l, [], by simp, l1, l2, e, Holds.of h1, h2⟩
theorem perm_nth {g : Grp} : ∀ {gs : Gs} {i : Nat}, gs[i]? = some g → gs.Perm (g :: gs.eraseIdx i)
  | [], _, h => by simp at h
  | x :: gs, 0, h => by
    have : x = g := by simpa using h
    rw [this]
    exact .refl _
  | x :: gs, i + 1, h => by
    have h' : gs[i]? = some g := by simpa using h
    exact ((perm_nth h').cons x).trans (.swap _ _ _)
theorem perm_set {g' : Grp} : ∀ {gs : Gs} {i : Nat}, i < gs.length → (g' :: gs.eraseIdx i).Perm (gs.set i g')
  | [], _, h => by simp at h
  | x :: gs, 0, h => .refl _
  | x :: gs, i + 1, h => (List.Perm.swap _ _ _).trans ((perm_set (by simpa using h)).cons x)
/-- one of several -/
theorem Foc.nth {g : Grp} {gs G : Gs} {i : Nat} (h : gs[i]? = some g) : Foc (gb gs :: G) g (fun g' => gb (gs.set i g') :: G) :=
  have hi : i < gs.length := (List.getElem?_eq_some_iff.mp h).1
  ⟨gs.eraseIdx i ++ G, gb_open.trans (Ent.perm ((perm_nth h).append_right G)), fun g' => (Ent.perm (show (g' :: (gs.eraseIdx i ++ G)).Perm (gs.set i g' ++ G) from (perm_set hi).append_right G)).trans gb_close⟩
section
variable {H F : Hp} {G : Gs} {p : Addr} {φ : Hp → HO → Prop} {c : Grp → Gs}
theorem Sat.get1 (f : Foc G (one p φ) c) (h : Sat H F G) : ∃ o F0, Ex F0 F ∧ φ F0 o ∧ H p = some o ∧ F p = none := by
  obtain ⟨R, pm, _⟩ := f
  obtain ⟨l, ⟨l1, l2, e, ⟨F0, e0, o, e1, h1⟩, h2⟩, st⟩ := (pm.sat h).gs
  have := st.at_ (p, o) (by rw [e, e1]; simp)
  exact ⟨o, F0, e0, h1, this.1, this.2⟩
theorem Sat.set1 (f : Foc G (one p φ) c) (h : Sat H F G) {o' : HO} {φ' : Hp → HO → Prop} (h' : φ' F o') : Sat (upd H p o') F (c (one p φ')) := by
  obtain ⟨R, pm, q⟩ := f
  refine (q _).sat ?_
  have s := pm.sat h
  obtain ⟨l, ⟨l1, l2, e, ⟨F0, e0, o, e1, h1⟩, h2⟩, st⟩ := s.gs
  rw [e, e1] at st
  have hp := st.at_ (p, o) (by simp)
  have nd : p ∉ l2.map (·.1) ∧ (l2.map (·.1)).Nodup := by
    have := st.nd
    simpa using this
  refine ⟨fun a u ha => ?_, [(p, o')] ++ l2, ⟨[(p, o')], l2, rfl, Holds.of ⟨o', rfl, h'⟩, h2⟩, ⟨fun z hz => ?_, by simpa using nd⟩⟩
  · rw [upd_ne (ne_of_none ha hp.2)]
    exact s.ex a u ha
  · rcases List.mem_append.mp hz with hz | hz
    · have : z = (p, o') := by simpa using hz
      rw [this]
      exact ⟨upd_same, hp.2⟩
    · have hne : z.1 ≠ p := fun q => nd.1 (by rw [← q]; exact List.mem_map_of_mem hz)
      have := st.at_ z (by simp; exact Or.inr hz)
      exact ⟨by rw [upd_ne hne]; exact this.1, this.2⟩
/-- nothing changes but what is added -/
theorem Sat.grow {H' : Hp} (h : Sat H F G) (e : Ex H H') : Sat H' F G := by
  obtain ⟨l, h1, st⟩ := h.gs
  exact ⟨h.ex.trans e, l, h1, ⟨fun q hq => ⟨e _ _ (st.at_ q hq).1, (st.at_ q hq).2⟩, st.nd⟩⟩
theorem Sat.frozen {o : HO} (h : Sat H F G) (hp : H p = none) : Sat (upd H p o) (upd F p o) G := by
  obtain ⟨l, h1, st⟩ := h.gs
  have ef : Ex F (upd F p o) := Ex.new (h.ex.free hp)
  refine ⟨h.ex.both, l, h1.ex ef, ⟨fun q hq => ?_, st.nd⟩⟩
  have := st.at_ q hq
  have hne : q.1 ≠ p := ne_of_none this.1 hp
  rw [upd_ne hne, upd_ne hne]
  exact this
theorem Sat.own {g : Grp} {o : HO} (h : Sat H F G) (hp : H p = none) (hg : Holds g F [(p, o)]) : Sat (upd H p o) F (g :: G) := by
  obtain ⟨l, h1, st⟩ := h.gs
  refine ⟨h.ex.trans (Ex.new hp), [(p, o)] ++ l, ⟨[(p, o)], l, rfl, hg, h1⟩, ⟨fun q hq => ?_, ?_⟩⟩
  · rcases List.mem_append.mp hq with hq | hq
    · have : q = (p, o) := by simpa using hq
      rw [this]
      exact ⟨upd_same, h.ex.free hp⟩
    · have := st.at_ q hq
      exact ⟨by rw [upd_ne (ne_of_none this.1 hp)]; exact this.1, this.2⟩
  · rw [List.map_append]
    refine List.nodup_cons.mpr ⟨fun hm => ?_, st.nd⟩
    obtain ⟨q, hq, e⟩ := List.mem_map.mp hm
    have := (st.at_ q hq).1
    rw [e, hp] at this
    cases this
/-- what is owned is frozen -/
theorem Sat.freeze {R : Gs} (f : Rem G (one p φ) R) (h : Sat H F G) : ∃ o F0, Ex F0 F ∧ φ F0 o ∧ H p = some o ∧ F p = none ∧ Sat H (upd F p o) R := by
  have s := f.sat h
  obtain ⟨l, ⟨l1, l2, e, ⟨F0, e0, o, e1, h1⟩, h2⟩, st⟩ := s.gs
  rw [e, e1] at st
  have hp := st.at_ (p, o) (by simp)
  have nd : p ∉ l2.map (·.1) ∧ (l2.map (·.1)).Nodup := by
    have := st.nd
    simpa using this
  refine ⟨o, F0, e0, h1, hp.1, hp.2, fun a u ha => ?_, l2, h2.ex (Ex.new hp.2), ⟨fun z hz => ?_, nd.2⟩⟩
  · by_cases q : a = p
    · rw [q, upd_same] at ha
      rw [q, hp.1]
      exact ha
    · rw [upd_ne q] at ha
      exact s.ex a u ha
  · have hne : z.1 ≠ p := fun q => nd.1 (by rw [← q]; exact List.mem_map_of_mem hz)
    have := st.at_ z (by simp; exact Or.inr hz)
    exact ⟨this.1, by rw [upd_ne hne]; exact this.2⟩
end
/-- a list of one's own -/
abbrev gl (K : PySem.W.Frag) (p : Addr) (ds : List D) : Grp := one p fun F o => ∃ vs, o = .lst vs ∧ RepL K F ds vs
/-- an instance of one's own: its attributes -/
def RepF (K : PySem.W.Frag) (F : Hp) : List (Str × D) → List (Str × V) → Prop
  | [], vs => vs = []
  | a :: fs, vs => ∃ v r, vs = (a.1, v) :: r ∧ Rep K F a.2 v ∧ RepF K F fs r
theorem RepF.ex {F F' : Hp} (e : Ex F F') : ∀ {fs : List (Str × D)} {vs : List (Str × V)}, RepF K F fs vs → RepF K F' fs vs
  | [], _, h => h
  | a :: fs, vs, ⟨v, r, e1, h1, h2⟩ => ⟨v, r, e1, Rep.ex e _ h1, RepF.ex e h2⟩
theorem RepF.length {F : Hp} : ∀ {fs : List (Str × D)} {vs : List (Str × V)}, RepF K F fs vs → fs.length = vs.length
  | [], vs, h => by rw [show vs = [] from h] <;> rfl
  | a :: fs, vs, ⟨v, r, e1, h1, h2⟩ => by rw [e1, List.length_cons, List.length_cons, RepF.length h2]
theorem RepF.look {F : Hp} {f : Str} {d : D} : ∀ {fs : List (Str × D)} {vs : List (Str × V)}, RepF K F fs vs → fs.lookup f = some d → ∃ v, vs.lookup f = some v ∧ Rep K F d v
  | [], vs, h, e => by cases e
  | (g, x) :: fs, vs, ⟨v, r, e1, h1, h2⟩, e => by
    rw [e1]
    rw [List.lookup_cons] at e ⊢
    cases q : f == g with
    | true =>
      rw [q] at e
      have e' : some x = some d := e
      cases e'
      exact ⟨v, rfl, h1⟩
    | false =>
      rw [q] at e
      exact RepF.look h2 e
theorem RepF.look_none {F : Hp} {f : Str} : ∀ {fs : List (Str × D)} {vs : List (Str × V)}, RepF K F fs vs → fs.lookup f = none → vs.lookup f = none
  | [], vs, h, e => by rw [show vs = [] from h]; rfl
  | (g, x) :: fs, vs, ⟨v, r, e1, h1, h2⟩, e => by
    rw [e1]
    rw [List.lookup_cons] at e ⊢
    cases q : f == g with
    | true => rw [q] at e; cases e
    | false =>
      rw [q] at e
      exact RepF.look_none h2 e
def putD (f : Str) (d : D) : List (Str × D) → List (Str × D)
  | [] => [(f, d)]
  | (g, x) :: r => if g = f then (g, d) :: r else (g, x) :: putD f d r
theorem RepF.put {F : Hp} {f : Str} {d : D} {v : V} (hv : Rep K F d v) : ∀ {fs : List (Str × D)} {vs : List (Str × V)}, RepF K F fs vs → RepF K F (putD f d fs) (putF f v vs)
  | [], vs, h => by
    rw [show vs = [] from h]
    exact ⟨v, [], rfl, hv, rfl⟩
  | (g, x) :: fs, vs, ⟨u, r, e1, h1, h2⟩ => by
    rw [e1]
    unfold putD putF
    by_cases q : g = f
    · rw [if_pos q, if_pos q]
      exact ⟨v, r, rfl, hv, h2⟩
    · rw [if_neg q, if_neg q]
      exact ⟨u, _, rfl, h1, RepF.put hv h2⟩
abbrev gi (K : PySem.W.Frag) (p C : Addr) (fs : List (Str × D)) : Grp := one p fun F o => ∃ dx vs, o = .ins C dx vs ∧ RepF K F fs vs
/-- a dict of one's own: keys ints and texts; keys tuples -/
def RepK {κ : Type} (K : PySem.W.Frag) (F : Hp) : List (κ × D) → List (κ × V) → Prop
  | [], vs => vs = []
  | a :: fs, vs => ∃ v r, vs = (a.1, v) :: r ∧ Rep K F a.2 v ∧ RepK K F fs r
abbrev gdK (K : PySem.W.Frag) (p : Addr) (kvs : List (Key × D)) : Grp := one p fun F o => ∃ vs, o = .dK vs ∧ RepK K F kvs vs
abbrev gdT (K : PySem.W.Frag) (p : Addr) (kvs : List (List Key × D)) : Grp := one p fun F o => ∃ vs, o = .dT vs ∧ RepK K F kvs vs
section
variable {H F : Hp} {G : Gs} {p : Addr} {c : Grp → Gs}
theorem Sat.getL {ds : List D} (f : Foc G (gl K p ds) c) (h : Sat H F G) : ∃ vs, H p = some (.lst vs) ∧ RepL K F ds vs := by
  obtain ⟨o, F0, e0, ⟨vs, rfl, h1⟩, h2, _⟩ := h.get1 f
  exact ⟨vs, h2, h1.ex e0⟩
theorem Sat.getI {C : Addr} {fs : List (Str × D)} (f : Foc G (gi K p C fs) c) (h : Sat H F G) : ∃ dx vs, H p = some (.ins C dx vs) ∧ RepF K F fs vs := by
  obtain ⟨o, F0, e0, ⟨dx, vs, rfl, h1⟩, h2, _⟩ := h.get1 f
  exact ⟨dx, vs, h2, h1.ex e0⟩
theorem Sat.setL {ds ds' : List D} {vs' : List V} (f : Foc G (gl K p ds) c) (h : Sat H F G) (r : RepL K F ds' vs') : Sat (upd H p (.lst vs')) F (c (gl K p ds')) := h.set1 f ⟨vs', rfl, r⟩
theorem Sat.setI {C C' dx : Addr} {fs fs' : List (Str × D)} {vs' : List (Str × V)} (f : Foc G (gi K p C fs) c) (h : Sat H F G) (r : RepF K F fs' vs') : Sat (upd H p (.ins C' dx vs')) F (c (gi K p C' fs')) := h.set1 f ⟨dx, vs', rfl, r⟩
theorem Sat.ownL {ds : List D} {vs : List V} (h : Sat H F G) (hp : H p = none) (r : RepL K F ds vs) : Sat (upd H p (.lst vs)) F (gl K p ds :: G) := h.own hp (Holds.of ⟨_, rfl, vs, rfl, r⟩)
end
end Ly
/-! Ly2: the judgements on data and groups. -/
namespace Ly
open PySem PySem.Spec PyProof.Rows L2
/-! ### the frame's names -/
abbrev DS := List (Option D)
structure EnvOk (K : PySem.W.Frag) (F : Hp) (ds : DS) (σ : L2.St) : Prop where
  len : ds.length = σ.length
  at_ : ∀ (i : Nat) (d : D), ds[i]? = some (some d) → ∃ v, σ[i]? = some (some v) ∧ Rep K F d v
theorem EnvOk.ex {K : PySem.W.Frag} {F F' : Hp} {ds : DS} {σ : L2.St} (h : EnvOk K F ds σ) (e : Ex F F') : EnvOk K F' ds σ := ⟨h.len, fun i d q => by
  obtain ⟨v, h1, h2⟩ := h.at_ i d q
  exact ⟨v, h1, Rep.ex e d h2⟩⟩
theorem EnvOk.set {K : PySem.W.Frag} {F : Hp} {ds : DS} {σ : L2.St} {i : Nat} {d : D} {v : V} (h : EnvOk K F ds σ) (r : Rep K F d v) : EnvOk K F (ds.set i (some d)) (σ.set i (some v)) := ⟨by rw [List.length_set, List.length_set]; exact h.len, fun j e q => by
  by_cases hij : i = j
  · subst hij
    by_cases hl : i < ds.length
    · rw [List.getElem?_set_self hl] at q
      cases q
      exact ⟨v, List.getElem?_set_self (by rw [← h.len]; exact hl), r⟩
    · rw [List.getElem?_eq_none (by rw [List.length_set]; omega)] at q
      cases q
  · rw [List.getElem?_set_ne hij] at q ⊢
    exact h.at_ j e q⟩
/-- the place of a name, what stands there -/
inductive Rdn : List Str → Str → DS → Nat → D → Prop
  | here {x : Str} {N : List Str} {d : D} {r : DS} : Rdn (x :: N) x (some d :: r) 0 d
  | there {x y : Str} {N : List Str} {o : Option D} {r : DS} {i : Nat} {d : D} : Rdn N x r i d → Rdn (y :: N) x (o :: r) (i + 1) d
theorem Rdn.ok {N : List Str} {x : Str} {ds : DS} {i : Nat} {d : D} (h : Rdn N x ds i d) : N[i]? = some x ∧ ds[i]? = some (some d) := by
  induction h with
  | here => exact ⟨rfl, rfl⟩
  | there _ ih => exact ⟨by simpa using ih.1, by simpa using ih.2⟩
/-- .. what stands there behind a store -/
inductive Tgt : List Str → Str → DS → Nat → (D → DS) → Prop
  | here {x : Str} {N : List Str} {o : Option D} {r : DS} : Tgt (x :: N) x (o :: r) 0 (fun d => some d :: r)
  | there {x y : Str} {N : List Str} {o : Option D} {r : DS} {i : Nat} {f : D → DS} : Tgt N x r i f → Tgt (y :: N) x (o :: r) (i + 1) (fun d => o :: f d)
theorem Tgt.ok {N : List Str} {x : Str} {ds : DS} {i : Nat} {f : D → DS} (h : Tgt N x ds i f) : N[i]? = some x ∧ ∀ d, f d = ds.set i (some d) := by
  induction h with
  | here => exact ⟨rfl, fun _ => rfl⟩
  | there _ ih => exact ⟨by simpa using ih.1, fun d => by show _ :: _ = _; rw [List.set_cons_succ, ih.2]⟩
inductive Put : DS → Nat → D → DS → Prop
  | here {o : Option D} {r : DS} {d : D} : Put (o :: r) 0 d (some d :: r)
  | there {o : Option D} {r r' : DS} {i : Nat} {d : D} : Put r i d r' → Put (o :: r) (i + 1) d (o :: r')
theorem Put.ok {ds ds' : DS} {i : Nat} {d : D} (h : Put ds i d ds') : ds' = ds.set i (some d) := by
  induction h with
  | here => rfl
  | there _ ih => rw [List.set_cons_succ, ih]
/-- the place of a name alone -/
inductive Plc : List Str → Str → Nat → Prop
  | here {x : Str} {N : List Str} : Plc (x :: N) x 0
  | there {x y : Str} {N : List Str} {i : Nat} : Plc N x i → Plc (y :: N) x (i + 1)
theorem Plc.ok {N : List Str} {x : Str} {i : Nat} (h : Plc N x i) : N[i]? = some x := by
  induction h with
  | here => rfl
  | there _ ih => simpa using ih
/-! ### the context -/
structure Ctx (N : List Str) (sc : Scope) (k : Nat) (X : Cx) : Prop where
  hN : X.N = N
  nd : N.Nodup
  hsc : X.env.scope = sc
  room : Room k X.A
  calm : X.calm = true
  po : PassesOwn (model X.prog X.w) X.A X.env X.xe
/-- all these names are the def's own; these are global names that it reads -/
def nmB (N Gn : List Str) (sc : Scope) (m : Nat) : Bool := ((N.take m).all fun x => (match sc.names.lookup x with | some .local => true | some .cell => true | _ => false) && (!(x == ("__debug__" : Str)) && !(x == ("__classdict__" : Str)))) &&
  Gn.all fun x => (match sc.names.lookup x with | some .globalImplicit => true | _ => false) && (!(x == ("__debug__" : Str)) && !(x == ("__name__" : Str)))
structure NmOk (N Gn : List Str) (sc : Scope) (m : Nat) : Prop where
  at_ : ∀ x ∈ N.take m, Loc sc x ∧ (x == ("__debug__" : Str)) = false ∧ (x == ("__classdict__" : Str)) = false
  gl_ : ∀ x ∈ Gn, sc.names.lookup x = some .globalImplicit ∧ (x == ("__debug__" : Str)) = false ∧ x ≠ "__name__"
theorem nmOk_by {N Gn : List Str} {sc : Scope} {m : Nat} (h : nmB N Gn sc m = true) : NmOk N Gn sc m := by
  obtain ⟨ha, hb⟩ := Bool.and_eq_true_iff.mp h
  refine ⟨fun x hx => ?_, fun x hx => ?_⟩
  · have h1 := List.all_eq_true.mp ha x hx
    obtain ⟨h2, h3⟩ := Bool.and_eq_true_iff.mp h1
    obtain ⟨h4, h5⟩ := Bool.and_eq_true_iff.mp h3
    refine ⟨?_, by simpa using h4, by simpa using h5⟩
    split at h2
    · rename_i e
      exact .inl e
    · rename_i e
      exact .inr e
    · cases h2
  · have h1 := List.all_eq_true.mp hb x hx
    obtain ⟨h2, h3⟩ := Bool.and_eq_true_iff.mp h1
    obtain ⟨h4, h5⟩ := Bool.and_eq_true_iff.mp h3
    refine ⟨?_, by simpa using h4, fun q => by rw [q] at h5; exact absurd h5 (by decide)⟩
    split at h2
    · rename_i e
      exact e
    · cases h2
theorem NmOk.mem {N Gn : List Str} {sc : Scope} {m : Nat} (n : NmOk N Gn sc m) {x : Str} {i : Nat} (h : N[i]? = some x) (hi : Nat.blt i m = true) : Loc sc x ∧ (x == ("__debug__" : Str)) = false ∧ (x == ("__classdict__" : Str)) = false :=
  n.at_ x (List.mem_of_getElem? (i := i) (by rw [List.getElem?_take, if_pos (show i < m from Nat.le_of_ble_eq_true hi)]; exact h))
theorem NmOk.loc {N Gn : List Str} {sc : Scope} {m : Nat} (n : NmOk N Gn sc m) {x : Str} {i : Nat} (h : Plc N x i) (hi : Nat.blt i m = true) : Loc sc x := (n.mem h.ok hi).1
theorem NmOk.gl {N Gn : List Str} {sc : Scope} {m : Nat} (n : NmOk N Gn sc m) {x : Str} {i : Nat} (h : Plc Gn x i) : sc.names.lookup x = some .globalImplicit := (n.gl_ x (List.mem_of_getElem? h.ok)).1
theorem NmOk.db {N Gn : List Str} {sc : Scope} {m : Nat} (n : NmOk N Gn sc m) {x : Str} {i : Nat} (h : Plc Gn x i) : (x == ("__debug__" : Str)) = false := (n.gl_ x (List.mem_of_getElem? h.ok)).2.1
theorem NmOk.nn {N Gn : List Str} {sc : Scope} {m : Nat} (n : NmOk N Gn sc m) {x : Str} {i : Nat} (h : Plc Gn x i) : x ≠ "__name__" := (n.gl_ x (List.mem_of_getElem? h.ok)).2.2
/-! ### canonical readings -/
section
variable (X : Cx)
def wpE (e : Expr) : TE := fun σ H Q => ∀ (pins : List (Addr × Obj)) (s : Shared), Inv X pins σ H s → wpAny (model X.prog X.w) X.A (eval e X.env) (EP X pins σ Q) X.xe s
def wpT (e : Expr) : TT := fun σ H Q => ∀ (pins : List (Addr × Obj)) (s : Shared), Inv X pins σ H s → wpAny (model X.prog X.w) X.A (isTrue e X.env (eval e X.env)) (TP X pins σ Q) X.xe s
def wpW (e : Expr) : TT := fun σ H Q => ∀ (whole : Sem Value) (pins : List (Addr × Obj)) (s : Shared), Inv X pins σ H s → wpAny (model X.prog X.w) X.A (isTrue e X.env whole) (TP X pins σ Q) X.xe s
def wpA (es : List Expr) : TA := fun σ H Q => ∀ (pos : Pos) (pins : List (Addr × Obj)) (s : Shared), Inv X pins σ H s → wpAny (model X.prog X.w) X.A (spliced (backTo pos (starEach es X.env))) (AP X pins σ Q) X.xe s
def wpS (st : Stmt) : TS := fun D σ H => ∀ (pins : List (Addr × Obj)) (s : Shared), Inv X pins σ H s → wpAny (model X.prog X.w) X.A (exec st X.env) (SP X pins D) X.xe s
def wpSs (st : List Stmt) : TS := fun D σ H => ∀ (pins : List (Addr × Obj)) (s : Shared), Inv X pins σ H s → wpAny (model X.prog X.w) X.A (execs st X.env) (SP X pins D) X.xe s
def wpG (tg : Expr) : TG := fun v σ H Q => ∀ (pins : List (Addr × Obj)) (s : Shared) (u : Value), Inv X pins σ H s → RelV v u → wpAny (model X.prog X.w) X.A (assign tg X.env u) (fun _ s' => ∃ σ' H', Inv X pins σ' H' s' ∧ Q σ' H') X.xe s
variable {X}
theorem pe_self {e : Expr} : PE X e (wpE X e) := ⟨fun pins s _ _ _ I h => h pins s I⟩
theorem pt_self {e : Expr} : PT X e (wpT X e) := ⟨fun pins s _ _ _ I h => h pins s I⟩
theorem pw_self {e : Expr} : PW X e (wpW X e) := ⟨fun wh pins s _ _ _ I h => h wh pins s I⟩
theorem pa_self {es : List Expr} : PA X es (wpA X es) := ⟨fun pos pins s _ _ _ I h => h pos pins s I⟩
theorem ps_self {st : Stmt} : PS X st (wpS X st) := ⟨fun pins s _ _ _ I h => h pins s I⟩
theorem pss_self {st : List Stmt} : PSs X st (wpSs X st) := ⟨fun pins s _ _ _ I h => h pins s I⟩
theorem pg_self {tg : Expr} : PG X tg (wpG X tg) := ⟨fun pins s _ _ _ u _ I r h => h pins s u I r⟩
end
/-! ### the judgements -/
structure AE where
  nx : DS → Gs → Prop
  rt : D → Gs → Prop
  bk : DS → Gs → Prop := fun _ _ => False
  ct : DS → Gs → Prop := fun _ _ => False
structure AEok (X : Cx) (F : Hp) (A : AE) (D : Ends) : Prop where
  nx : ∀ ds G σ F' H, A.nx ds G → Ex F F' → EnvOk X.K F' ds σ → Sat H F' G → D.nx σ H
  rt : ∀ d G v F' H, A.rt d G → Ex F F' → Sat H F' G → Rep X.K F' d v → D.rt v H
  bk : ∀ ds G σ F' H, A.bk ds G → Ex F F' → EnvOk X.K F' ds σ → Sat H F' G → D.bk σ H
  ct : ∀ ds G σ F' H, A.ct ds G → Ex F F' → EnvOk X.K F' ds σ → Sat H F' G → D.ct σ H
theorem AEok.ex {X : Cx} {F F1 : Hp} {A : AE} {D : Ends} (h : AEok X F A D) (e : Ex F F1) : AEok X F1 A D :=
  ⟨fun ds G σ F' H a b => h.nx ds G σ F' H a (e.trans b), fun d G v F' H a b => h.rt d G v F' H a (e.trans b), fun ds G σ F' H a b => h.bk ds G σ F' H a (e.trans b), fun ds G σ F' H a b => h.ct ds G σ F' H a (e.trans b)⟩
section
variable (X : Cx) (F0 : Hp)
def GTE (t : TE) (ds : DS) (G : Gs) (K : D → Gs → Prop) : Prop := ∀ (σ : L2.St) (F H : Hp) (Q : VK), Ex F0 F → EnvOk X.K F ds σ → Sat H F G →
  (∀ d G' v F' H', K d G' → Ex F F' → Sat H' F' G' → Rep X.K F' d v → Q v H') → t σ H Q
def GTA (t : TA) (ds : DS) (G : Gs) (K : List D → Gs → Prop) : Prop := ∀ (σ : L2.St) (F H : Hp) (Q : List V → Hp → Prop), Ex F0 F → EnvOk X.K F ds σ → Sat H F G →
  (∀ es G' vs F' H', K es G' → Ex F F' → Sat H' F' G' → RepL X.K F' es vs → Q vs H') → t σ H Q
def GTT (t : TT) (ds : DS) (G : Gs) (K : Bool → Gs → Prop) : Prop := ∀ (σ : L2.St) (F H : Hp) (Q : Bool → Hp → Prop), Ex F0 F → EnvOk X.K F ds σ → Sat H F G →
  (∀ b G' F' H', K b G' → Ex F F' → Sat H' F' G' → Q b H') → t σ H Q
def GTS (t : TS) (ds : DS) (G : Gs) (A : AE) : Prop := ∀ (σ : L2.St) (F H : Hp) (D : Ends), Ex F0 F → EnvOk X.K F ds σ → Sat H F G → AEok X F A D → t D σ H
/-- operations on values -/
def RK1 (r : V → Hp → VK → Prop) (d : D) (G : Gs) (K : D → Gs → Prop) : Prop := ∀ (F H : Hp) (x : V) (Q : VK), Ex F0 F → Sat H F G → Rep X.K F d x →
  (∀ d G' v F' H', K d G' → Ex F F' → Sat H' F' G' → Rep X.K F' d v → Q v H') → r x H Q
def RK2 (r : R2) (d e : D) (G : Gs) (K : D → Gs → Prop) : Prop := ∀ (F H : Hp) (x y : V) (Q : VK), Ex F0 F → Sat H F G → Rep X.K F d x → Rep X.K F e y →
  (∀ d G' v F' H', K d G' → Ex F F' → Sat H' F' G' → Rep X.K F' d v → Q v H') → r x y H Q
def RKL (r : List V → Hp → VK → Prop) (es : List D) (G : Gs) (K : D → Gs → Prop) : Prop := ∀ (F H : Hp) (xs : List V) (Q : VK), Ex F0 F → Sat H F G → RepL X.K F es xs →
  (∀ d G' v F' H', K d G' → Ex F F' → Sat H' F' G' → Rep X.K F' d v → Q v H') → r xs H Q
abbrev GE (e : Expr) := GTE X F0 (wpE X e)
abbrev GT (e : Expr) := GTT X F0 (wpT X e)
abbrev GW (e : Expr) := GTT X F0 (wpW X e)
abbrev GA (es : List Expr) := GTA X F0 (wpA X es)
abbrev GS (st : Stmt) := GTS X F0 (wpS X st)
abbrev GSs (st : List Stmt) := GTS X F0 (wpSs X st)
end
section
variable {X : Cx} {F0 : Hp} {ds : DS} {G : Gs} {K : D → Gs → Prop} {e a b : Expr} {pos : Pos} {N : List Str} {sc : Scope} {k : Nat}
theorem GE.of {t : TE} (h : PE X e t) (g : GTE X F0 t ds G K) : GE X F0 e ds G K := fun σ F H Q a b c q pins s I => h.run pins s σ H Q I (g σ F H Q a b c q)
theorem GT.of {t : TT} {K : Bool → Gs → Prop} (h : PT X e t) (g : GTT X F0 t ds G K) : GT X F0 e ds G K := fun σ F H Q a b c q pins s I => h.run pins s σ H Q I (g σ F H Q a b c q)
theorem GW.of {t : TT} {K : Bool → Gs → Prop} (h : PW X e t) (g : GTT X F0 t ds G K) : GW X F0 e ds G K := fun σ F H Q a b c q wh pins s I => h.run wh pins s σ H Q I (g σ F H Q a b c q)
theorem GS.of {st : Stmt} {t : TS} {A : AE} (h : PS X st t) (g : GTS X F0 t ds G A) : GS X F0 st ds G A := fun σ F H D a b c q pins s I => h.run pins s σ H D I (g σ F H D a b c q)
theorem GSs.of {st : List Stmt} {t : TS} {A : AE} (h : PSs X st t) (g : GTS X F0 t ds G A) : GSs X F0 st ds G A := fun σ F H D a b c q pins s I => h.run pins s σ H D I (g σ F H D a b c q)
theorem GTE.mono {t : TE} {K' : D → Gs → Prop} (h : GTE X F0 t ds G K) (m : ∀ d G', K d G' → K' d G') : GTE X F0 t ds G K' := fun σ F H Q a b c q => h σ F H Q a b c fun d G' v F' H' z => q d G' v F' H' (m d G' z)
theorem GTT.mono {t : TT} {K K' : Bool → Gs → Prop} (h : GTT X F0 t ds G K) (m : ∀ d G', K d G' → K' d G') : GTT X F0 t ds G K' := fun σ F H Q a b c q => h σ F H Q a b c fun d G' F' H' z => q d G' F' H' (m d G' z)
/-- the groups told otherwise ahead of it -/
theorem GTE.ent {t : TE} {G1 : Gs} (p : Ent G G1) (h : GTE X F0 t ds G1 K) : GTE X F0 t ds G K := fun σ F H Q a b c q => h σ F H Q a b (p.sat c) q
theorem GTS.ent {t : TS} {G1 : Gs} {A : AE} (p : Ent G G1) (h : GTS X F0 t ds G1 A) : GTS X F0 t ds G A := fun σ F H D a b c q => h σ F H D a b (p.sat c) q
theorem GTS.gx {t : TS} {α : Type} {f : α → Gs} {A : AE} (h : ∀ x, GTS X F0 t ds (f x ++ G) A) : GTS X F0 t ds (gx f :: G) A := fun σ F H D a b c q => by
  obtain ⟨x, s⟩ := gx_open c
  exact h x σ F H D a b s q
theorem GTE.gx {t : TE} {α : Type} {f : α → Gs} (h : ∀ x, GTE X F0 t ds (f x ++ G) K) : GTE X F0 t ds (gx f :: G) K := fun σ F H Q a b c q => by
  obtain ⟨x, s⟩ := gx_open c
  exact h x σ F H Q a b s q
theorem GTS.put {t : TS} {i : Nat} {d : D} {ds' : DS} {A : AE} (p : Put ds i d ds') (h : GTS X F0 t ds' G A) : GTS X F0 t (ds.set i (some d)) G A := by
  rw [← p.ok]
  exact h
/-! ### names and constants -/
theorem xge_name {x : Str} {i : Nat} {d : D} (c : Ctx N sc k X) (h : Rdn N x ds i d) (hv : Vis sc x) (q : K d G) (hd : (x == ("__debug__" : Str)) = false := by decide) (hcd : (x == ("__classdict__" : Str)) = false := by decide) : GE X F0 (.Name x pos) ds G K :=
  GE.of (pe_var (i := i) (by rw [c.hN]; exact h.ok.1) (by rw [c.hsc]; exact hv) hd hcd) fun σ F H Q a b s z => by
    obtain ⟨v, h1, h2⟩ := b.at_ i d h.ok.2
    exact ⟨v, h1, z d G v F H q (Ex.refl F) s h2⟩
theorem xge_nm {x : Str} {i : Nat} {d : D} (c : Ctx N sc k X) {Gn : List Str} {m : Nat} (n : NmOk N Gn sc m) (h : Rdn N x ds i d) (q : K d G) (hi : Nat.blt i m = true) : GE X F0 (.Name x pos) ds G K :=
  have h1 := n.mem h.ok.1 hi
  xge_name c h (h1.1.elim .inl fun z => .inr (.inl z)) q h1.2.1 h1.2.2
theorem xge_int {i : Int} {j : Nat} (q : K (.int i) G) : GE X F0 (.Constant (.int i) j pos) ds G K := GE.of pe_int fun σ F H Q a b s z => z _ _ _ _ _ q (Ex.refl F) s (rep_int.mpr rfl)
theorem xge_bl {i : Bool} {j : Nat} (q : K (.bl i) G) : GE X F0 (.Constant (.bool i) j pos) ds G K := GE.of pe_bl fun σ F H Q a b s z => z _ _ _ _ _ q (Ex.refl F) s (rep_bl.mpr rfl)
theorem xge_non {j : Nat} (q : K .non G) : GE X F0 (.Constant .none j pos) ds G K := GE.of pe_non fun σ F H Q a b s z => z _ _ _ _ _ q (Ex.refl F) s (rep_non.mpr rfl)
theorem xge_str {i : Str} {j : Nat} (q : K (.str i) G) : GE X F0 (.Constant (.str i) j pos) ds G K := GE.of pe_str fun σ F H Q a b s z => z _ _ _ _ _ q (Ex.refl F) s (rep_str.mpr rfl)
/-! ### two operands -/
theorem xgt_op {r : R2} {ta tb : TE} (h : GTE X F0 ta ds G fun d G1 => GTE X F0 tb ds G1 fun e G2 => RK2 X F0 r d e G2 K) : GTE X F0 (tOp r ta tb) ds G K := fun σ F H Q a b s z =>
  h σ F H _ a b s fun d G1 v F1 H1 h1 e1 s1 r1 => h1 σ F1 H1 _ (a.trans e1) (b.ex e1) s1 fun d2 G2 v2 F2 H2 h2 e2 s2 r2 =>
    h2 F2 H2 v v2 Q ((a.trans e1).trans e2) s2 (Rep.ex e2 _ r1) r2 fun d3 G3 v3 F3 H3 q e3 s3 r3 => z d3 G3 v3 F3 H3 q ((e1.trans e2).trans e3) s3 r3
theorem xgt_un {r : V → Hp → VK → Prop} {ta : TE} (h : GTE X F0 ta ds G fun d G1 => RK1 X F0 r d G1 K) : GTE X F0 (tUn r ta) ds G K := fun σ F H Q a b s z =>
  h σ F H _ a b s fun d G1 v F1 H1 h1 e1 s1 r1 => h1 F1 H1 v Q (a.trans e1) s1 r1 fun d3 G3 v3 F3 H3 q e3 s3 r3 => z d3 G3 v3 F3 H3 q (e1.trans e3) s3 r3
theorem xge_bin {op : Operator} {r : R2} (ho : OpR X (binaryOp op) r) (h : GE X F0 a ds G fun d G1 => GE X F0 b ds G1 fun e G2 => RK2 X F0 r d e G2 K) : GE X F0 (.BinOp a op b pos) ds G K := GE.of (pe_op ho pe_self pe_self) (xgt_op h)
theorem xge_un {op : UnaryOp} {r : V → Hp → VK → Prop} (ho : UnR X (unaryOp op) r) (h : GE X F0 a ds G fun d G1 => RK1 X F0 r d G1 K) : GE X F0 (.UnaryOp op a pos) ds G K := GE.of (pe_un ho pe_self) (xgt_un h)
theorem xge_cmp {op : CmpOp} {r : R2} (ho : OpR X (compareOp op) r) (hm : behindInMarks op b = false) (h : GE X F0 a ds G fun d G1 => GE X F0 b ds G1 fun e G2 => RK2 X F0 r d e G2 K) : GE X F0 (.Compare a [op] [b] pos) ds G K := GE.of (pe_cmpR ho pe_self pe_self hm) (xgt_op h)
/-- a value that is a bool, as a test -/
def KB (K : Bool → Gs → Prop) : D → Gs → Prop := fun d G => ∃ c, d = .bl c ∧ K c G
theorem xgt_test {t : TE} {K : Bool → Gs → Prop} (h : GTE X F0 t ds G (KB K)) : GTT X F0 (tTest t) ds G K := fun σ F H Q a b s z =>
  h σ F H _ a b s fun d G1 v F1 H1 ⟨c, e, q⟩ e1 s1 r1 => ⟨c, by subst e; exact rep_bl.mp r1, z c G1 F1 H1 q e1 s1⟩
theorem xgt_B {t : TE} {K : Bool → Gs → Prop} (h : GTE X F0 t ds G (KB K)) : GTT X F0 (tB t) ds G K := fun σ F H Q a b s z =>
  h σ F H _ a b s fun d G1 v F1 H1 ⟨c, e, q⟩ e1 s1 r1 => ⟨c, by subst e; exact rep_bl.mp r1, z c G1 F1 H1 q e1 s1⟩
theorem xgt_cmp {op : CmpOp} {r : R2} {K : Bool → Gs → Prop} (ho : OpR X (compareOp op) r) (hm : behindInMarks op b = false) (h : GE X F0 a ds G fun d G1 => GE X F0 b ds G1 fun e G2 => RK2 X F0 r d e G2 (KB K)) : GT X F0 (.Compare a [op] [b] pos) ds G K := GT.of (pt_cmpR ho pe_self pe_self hm) (xgt_test (xgt_op h))
theorem xgt_not {K : Bool → Gs → Prop} (h : GT X F0 a ds G fun c G1 => K (!c) G1) : GT X F0 (.UnaryOp .Not a pos) ds G K := GT.of (pt_not pt_self) fun σ F H Q x y s z => h σ F H _ x y s fun c G1 F1 H1 q e1 s1 => z _ _ _ _ q e1 s1
/-- and, or as tests -/
theorem xgt_of_w {K : Bool → Gs → Prop} (h : GW X F0 e ds G K) : GT X F0 e ds G K := GT.of (pw_self.pt) h
theorem xgw_and {K : Bool → Gs → Prop} {rest : List Expr} (h : GT X F0 a ds G fun c G1 => (c = true → GW X F0 (.BoolOp .And (b :: rest) pos) ds G1 K) ∧ (c = false → K false G1)) : GW X F0 (.BoolOp .And (a :: b :: rest) pos) ds G K :=
  GW.of (pw_and pt_self pw_self) fun σ F H Q x y s z => h σ F H _ x y s fun c G1 F1 H1 q e1 s1 => by
    cases c with
    | true => exact q.1 rfl σ F1 H1 Q (x.trans e1) (y.ex e1) s1 fun d G2 F2 H2 q2 e2 s2 => z d G2 F2 H2 q2 (e1.trans e2) s2
    | false => exact z false G1 F1 H1 (q.2 rfl) e1 s1
theorem xgw_or {K : Bool → Gs → Prop} {rest : List Expr} (h : GT X F0 a ds G fun c G1 => (c = true → K true G1) ∧ (c = false → GW X F0 (.BoolOp .Or (b :: rest) pos) ds G1 K)) : GW X F0 (.BoolOp .Or (a :: b :: rest) pos) ds G K :=
  GW.of (pw_or pt_self pw_self) fun σ F H Q x y s z => h σ F H _ x y s fun c G1 F1 H1 q e1 s1 => by
    cases c with
    | false => exact q.2 rfl σ F1 H1 Q (x.trans e1) (y.ex e1) s1 fun d G2 F2 H2 q2 e2 s2 => z d G2 F2 H2 q2 (e1.trans e2) s2
    | true => exact z true G1 F1 H1 (q.1 rfl) e1 s1
theorem xgw_and1 {K : Bool → Gs → Prop} (h : GT X F0 a ds G K) : GW X F0 (.BoolOp .And [a] pos) ds G K := GW.of (pw_and1 pt_self) h
theorem xgw_or1 {K : Bool → Gs → Prop} (h : GT X F0 a ds G K) : GW X F0 (.BoolOp .Or [a] pos) ds G K := GW.of (pw_or1 pt_self) h
/-- and, or, not as values of bools -/
theorem xge_one {op : BoolOp} (h : GE X F0 a ds G K) : GE X F0 (.BoolOp op [a] pos) ds G K := GE.of (pe_one pe_self) h
theorem xge_and {rest : List Expr} (h : GE X F0 a ds G fun d G1 => ∃ c, d = .bl c ∧ (c = true → GE X F0 (.BoolOp .And (b :: rest) pos) ds G1 K) ∧ (c = false → K (.bl false) G1)) : GE X F0 (.BoolOp .And (a :: b :: rest) pos) ds G K :=
  GE.of (pe_and pe_self pe_self) fun σ F H Q x y s z => h σ F H _ x y s fun d G1 v F1 H1 ⟨c, e, q⟩ e1 s1 r1 => ⟨c, by subst e; exact rep_bl.mp r1, by
    cases c with
    | true => exact q.1 rfl σ F1 H1 Q (x.trans e1) (y.ex e1) s1 fun d G2 v F2 H2 q2 e2 s2 => z d G2 v F2 H2 q2 (e1.trans e2) s2
    | false => exact z _ _ _ F1 H1 (q.2 rfl) e1 s1 (rep_bl.mpr rfl)⟩
theorem xge_or {rest : List Expr} (h : GE X F0 a ds G fun d G1 => ∃ c, d = .bl c ∧ (c = true → K (.bl true) G1) ∧ (c = false → GE X F0 (.BoolOp .Or (b :: rest) pos) ds G1 K)) : GE X F0 (.BoolOp .Or (a :: b :: rest) pos) ds G K :=
  GE.of (pe_or pe_self pe_self) fun σ F H Q x y s z => h σ F H _ x y s fun d G1 v F1 H1 ⟨c, e, q⟩ e1 s1 r1 => ⟨c, by subst e; exact rep_bl.mp r1, by
    cases c with
    | false => exact q.2 rfl σ F1 H1 Q (x.trans e1) (y.ex e1) s1 fun d G2 v F2 H2 q2 e2 s2 => z d G2 v F2 H2 q2 (e1.trans e2) s2
    | true => exact z _ _ _ F1 H1 (q.1 rfl) e1 s1 (rep_bl.mpr rfl)⟩
theorem xge_not (h : GE X F0 a ds G fun d G1 => ∃ c, d = .bl c ∧ K (.bl (!c)) G1) : GE X F0 (.UnaryOp .Not a pos) ds G K :=
  GE.of (pe_not pe_self) fun σ F H Q x y s z => h σ F H _ x y s fun d G1 v F1 H1 ⟨c, e, q⟩ e1 s1 r1 => ⟨c, by subst e; exact rep_bl.mp r1, z _ _ _ F1 H1 q e1 s1 (rep_bl.mpr rfl)⟩
theorem xge_if {t : Expr} (h : GT X F0 t ds G fun c G1 => (c = true → GE X F0 a ds G1 K) ∧ (c = false → GE X F0 b ds G1 K)) : GE X F0 (.IfExp t a b pos) ds G K :=
  GE.of (pe_ifExp pt_self pe_self pe_self) fun σ F H Q x y s z => h σ F H _ x y s fun c G1 F1 H1 q e1 s1 => by
    cases c with
    | true => exact q.1 rfl σ F1 H1 Q (x.trans e1) (y.ex e1) s1 fun d G2 v F2 H2 q2 e2 s2 => z d G2 v F2 H2 q2 (e1.trans e2) s2
    | false => exact q.2 rfl σ F1 H1 Q (x.trans e1) (y.ex e1) s1 fun d G2 v F2 H2 q2 e2 s2 => z d G2 v F2 H2 q2 (e1.trans e2) s2
/-- a value's truth -/
def TruK (K : Bool → Gs → Prop) (Kf : PySem.W.Frag) : D → Gs → Prop := fun d G => ∃ c, (∀ F H v, Sat H F G → Rep Kf F d v → TruV Kf v H c) ∧ K c G
theorem xgt_tru {K : Bool → Gs → Prop} (he : ∀ whole, isTrue a X.env whole = (do let v ← whole; standAt a.pos; holding [v] (truthy v))) (h : GE X F0 a ds G (TruK K X.K)) : GT X F0 a ds G K :=
  GT.of (pt_truth pe_self he) fun σ F H Q x y s z => h σ F H _ x y s fun d G1 v F1 H1 ⟨c, e, q⟩ e1 s1 r1 => ⟨c, e F1 H1 v s1 r1, z c G1 F1 H1 q e1 s1⟩
/-! ### argument lists, displays -/
theorem xga_nil {K : List D → Gs → Prop} (q : K [] G) : GA X F0 [] ds G K := fun σ F H Q x y s z pos pins s0 I => pa_nil.run pos pins s0 σ H Q I (z _ _ _ _ _ q (Ex.refl F) s RepL.nil)
theorem xga_cons {K : List D → Gs → Prop} {es : List Expr} (h : GE X F0 e ds G fun d G1 => GA X F0 es ds G1 fun r G2 => K (d :: r) G2) (hs : starEach (e :: es) X.env = (false, eval e X.env) :: starEach es X.env) : GA X F0 (e :: es) ds G K := fun σ F H Q x y s z pos pins s0 I =>
  (pa_cons pe_self pa_self hs).run pos pins s0 σ H Q I (h σ F H _ x y s fun d G1 v F1 H1 q e1 s1 r1 => q σ F1 H1 _ (x.trans e1) (y.ex e1) s1 fun es G2 vs F2 H2 q2 e2 s2 r2 => z _ _ _ F2 H2 q2 (e1.trans e2) s2 (RepL.cons (Rep.ex e2 _ r1) r2))
/-- a written tuple: data -/
theorem xge_tup {es : List Expr} {x1 : Nat} (h : GA X F0 es ds G fun r G1 => r.length ≤ 100000 ∧ K (.tup r) G1) : GE X F0 (.Tuple es x1 pos) ds G K :=
  GE.of (pe_tup pa_self) fun σ F H Q x y s z => h σ F H _ x y s fun r G1 vs F1 H1 ⟨l, q⟩ e1 s1 r1 => ⟨by rw [← r1.length]; exact Nat.le_trans l (by decide), fun p hp => by
    refine z _ _ _ (upd F1 p (.tup vs)) _ q (e1.trans (Ex.new (s1.ex.free hp))) (s1.frozen hp) ?_
    exact rep_tup.mpr ⟨p, vs, rfl, upd_same, RepL.ex (Ex.new (s1.ex.free hp)) _ r1⟩⟩
/-- a written list: one's own -/
theorem xge_lst {es : List Expr} (h : GA X F0 es ds G fun r G1 => r.length ≤ 100000 ∧ ∀ p, K (.raw (.ref p)) (gl X.K p r :: G1)) : GE X F0 (.List es pos) ds G K :=
  GE.of (pe_lst pa_self) fun σ F H Q x y s z => h σ F H _ x y s fun r G1 vs F1 H1 ⟨l, q⟩ e1 s1 r1 => ⟨by rw [← r1.length]; exact Nat.le_trans l (by decide), fun p hp => z _ _ _ F1 _ (q p) e1 (s1.ownL hp r1) (rep_raw.mpr rfl)⟩
/-- one's own list told as data from now on -/
theorem GTE.freeze {t : TE} (h : GTE X F0 t ds G fun d G1 => ∃ p xs R, d = .raw (.ref p) ∧ Rem G1 (gl X.K p xs) R ∧ K (.lst xs) R) : GTE X F0 t ds G K := fun σ F H Q x y s z =>
  h σ F H _ x y s fun d G1 v F1 H1 ⟨p, xs, R, e, f, q⟩ e1 s1 r1 => by
    subst e
    obtain ⟨o, F2, e2, ⟨vs, rfl, r2⟩, hp, hf, s2⟩ := s1.freeze f
    have ex1 : Ex F1 (upd F1 p (.lst vs)) := Ex.new hf
    exact z _ _ _ _ _ q (e1.trans ex1) s2 (rep_lst.mpr ⟨p, vs, rep_raw.mp r1, upd_same, RepL.ex (e2.trans ex1) _ r2⟩)
/-! ### statements -/
theorem xgss_nil {A : AE} (q : A.nx ds G) : GSs X F0 [] ds G A := GSs.of pss_nil fun σ F H D x y s z => z.nx ds G σ F H q (Ex.refl F) y s
theorem xgss_cons {A : AE} {st : Stmt} {rest : List Stmt} (h : GS X F0 st ds G { A with nx := fun ds' G' => GSs X F0 rest ds' G' A }) : GSs X F0 (st :: rest) ds G A :=
  GSs.of (pss_cons ps_self pss_self) fun σ F H D x y s z => h σ F H _ x y s ⟨fun ds' G' σ' F' H' q e y' s' => q σ' F' H' D (x.trans e) y' s' (z.ex e), z.rt, z.bk, z.ct⟩
theorem xgss_one {A : AE} {st : Stmt} (h : GS X F0 st ds G A) : GSs X F0 [st] ds G A := GSs.of (pss_one ps_self) h
theorem xgs_ret {A : AE} (h : GE X F0 e ds G A.rt) : GS X F0 (.Return (some e) pos) ds G A := GS.of (ps_ret pe_self) fun σ F H D x y s z => h σ F H _ x y s fun d G' v F' H' q e1 s1 r1 => z.rt d G' v F' H' q e1 s1 r1
theorem xgs_retN {A : AE} (q : A.rt .non G) : GS X F0 (.Return none pos) ds G A := GS.of ps_retN fun σ F H D x y s z => z.rt .non G _ F H q (Ex.refl F) s (rep_non.mpr rfl)
theorem xgs_pass {A : AE} (q : A.nx ds G) : GS X F0 (.Pass pos) ds G A := GS.of ps_pass fun σ F H D x y s z => z.nx ds G σ F H q (Ex.refl F) y s
theorem xgs_break {A : AE} (q : A.bk ds G) : GS X F0 (.Break pos) ds G A := GS.of ps_break fun σ F H D x y s z => z.bk ds G σ F H q (Ex.refl F) y s
theorem xgs_continue {A : AE} (q : A.ct ds G) : GS X F0 (.Continue pos) ds G A := GS.of ps_continue fun σ F H D x y s z => z.ct ds G σ F H q (Ex.refl F) y s
theorem xgs_expr {A : AE} (h : GE X F0 e ds G fun _ G1 => A.nx ds G1) (hs : swapsWith e none pos.line X.env = pure false) : GS X F0 (.Expr e pos) ds G A := GS.of (ps_expr pe_self hs) fun σ F H D x y s z => h σ F H _ x y s fun d G' v F' H' q e1 s1 r1 => z.nx ds G' σ F' H' q e1 (y.ex e1) s1
theorem xgs_if {A : AE} {st su : List Stmt} (h : GT X F0 e ds G fun c G1 => (c = true → GSs X F0 st ds G1 A) ∧ (c = false → GSs X F0 su ds G1 A)) : GS X F0 (.If e st su pos) ds G A :=
  GS.of (ps_if pt_self pss_self pss_self) fun σ F H D x y s z => h σ F H _ x y s fun c G1 F1 H1 q e1 s1 => by
    cases c with
    | true => exact q.1 rfl σ F1 H1 D (x.trans e1) (y.ex e1) s1 (z.ex e1)
    | false => exact q.2 rfl σ F1 H1 D (x.trans e1) (y.ex e1) s1 (z.ex e1)
theorem xgs_set {A : AE} {x : Str} {i : Nat} {f : D → DS} {pos' : Pos} (c : Ctx N sc k X) (hfn : ∀ x, X.fn x = true) (ht : Tgt N x ds i f) (hx : Loc sc x) (h : GE X F0 e ds G fun d G1 => A.nx (f d) G1) (hs : swapsWith e (some (.Name x pos')) pos.line X.env = pure false) : GS X F0 (.Assign [.Name x pos'] e pos) ds G A :=
  GS.of (ps_set (i := i) (by rw [c.hN]; exact c.nd) (by rw [c.hN]; exact ht.ok.1) (by rw [c.hsc]; exact hx) pe_self hs (.inl (hfn x))) fun σ F H D y z s w => h σ F H _ y z s fun d G' v F' H' q e1 s1 r1 => by
    have q2 := w.nx _ G' (σ.set i (some v)) F' H' q e1 (by rw [ht.ok.2 d]; exact (z.ex e1).set r1) s1
    exact q2
theorem xgs_asg {A : AE} {x : Str} {i : Nat} {f : D → DS} {pos' : Pos} (c : Ctx N sc k X) (hfn : ∀ x, X.fn x = true) {Gn : List Str} {m : Nat} (n : NmOk N Gn sc m) (ht : Tgt N x ds i f) (h : GE X F0 e ds G fun d G1 => A.nx (f d) G1) (hs : swapsWith e (some (.Name x pos')) pos.line X.env = pure false) (hi : Nat.blt i m = true) : GS X F0 (.Assign [.Name x pos'] e pos) ds G A :=
  xgs_set c hfn ht (n.mem ht.ok.1 hi).1 h hs
theorem xgs_never {A : AE} {st : Stmt} (h : False) : GS X F0 st ds G A := h.elim
/-- while: W the invariant with its measure -/
theorem xgs_while {A : AE} {body : List Stmt} (c : Ctx N sc k X) (W : Nat → DS → Gs → Prop) (m0 : Nat) (h0 : W m0 ds G)
    (h : ∀ m ds G, W m ds G → GT X F0 e ds G fun b G1 => (b = true → GSs X F0 body ds G1 { A with nx := fun ds' G' => ∃ m', m' < m ∧ W m' ds' G', ct := fun ds' G' => ∃ m', m' < m ∧ W m' ds' G', bk := A.nx }) ∧ (b = false → A.nx ds G1)) : GS X F0 (.While e body [] pos) ds G A :=
  GS.of (ps_while c.po pt_self pss_self) fun σ F H D x y s z => by
    refine ⟨fun m σ' H' => ∃ ds' G' F', W m ds' G' ∧ Ex F F' ∧ EnvOk X.K F' ds' σ' ∧ Sat H' F' G', ⟨m0, ds, G, F, h0, Ex.refl F, y, s⟩, ?_⟩
    rintro m σ1 H1 ⟨ds1, G1, F1, w1, e1, y1, s1⟩
    refine h m ds1 G1 w1 σ1 F1 H1 _ (x.trans e1) y1 s1 fun b G2 F2 H2 q e2 s2 => ?_
    cases b with
    | true =>
      refine ⟨fun σ' H' => ∃ m', m' < m ∧ ∃ ds' G' F', W m' ds' G' ∧ Ex F F' ∧ EnvOk X.K F' ds' σ' ∧ Sat H' F' G', fun σ' H' n => n, ?_⟩
      refine q.1 rfl σ1 F2 H2 _ ((x.trans e1).trans e2) (y1.ex e2) s2 ⟨?_, ?_, ?_, ?_⟩
      · rintro ds' G' σ' F' H' ⟨m', hm, w'⟩ e' y' s'
        exact ⟨m', hm, ds', G', F', w', (e1.trans e2).trans e', y', s'⟩
      · intro d G' v F' H' q' e' s' r'
        exact z.rt d G' v F' H' q' ((e1.trans e2).trans e') s' r'
      · intro ds' G' σ' F' H' q' e' y' s'
        exact z.nx ds' G' σ' F' H' q' ((e1.trans e2).trans e') y' s'
      · rintro ds' G' σ' F' H' ⟨m', hm, w'⟩ e' y' s'
        exact ⟨m', hm, ds', G', F', w', (e1.trans e2).trans e', y', s'⟩
    | false => exact z.nx ds1 G2 σ1 F2 H2 (q.2 rfl) (e1.trans e2) (y1.ex e2) s2
end
end Ly
/-! Ly3: operations on values. -/
namespace Ly
open PySem PySem.Spec PyProof.Rows L2
theorem bt_int : bootBuiltins "int" = some (.type "int") := by decide +kernel
theorem bt_str : bootBuiltins "str" = some (.type "str") := by decide +kernel
theorem bt_list : bootBuiltins "list" = some (.type "list") := by decide +kernel
theorem bt_tuple : bootBuiltins "tuple" = some (.type "tuple") := by decide +kernel
theorem bt_dict : bootBuiltins "dict" = some (.type "dict") := by decide +kernel
theorem bt_bool : bootBuiltins "bool" = some (.type "bool") := by decide +kernel
theorem bt_set : bootBuiltins "set" = some (.type "set") := by decide +kernel
theorem bt_range : bootBuiltins "range" = some (.type "range") := by decide +kernel
theorem bt_len : bootBuiltins "len" = some (.builtin "len") := by decide +kernel
theorem bt_min : bootBuiltins "min" = some (.builtin "min") := by decide +kernel
theorem bt_max : bootBuiltins "max" = some (.builtin "max") := by decide +kernel
theorem bt_sum : bootBuiltins "sum" = some (.builtin "sum") := by decide +kernel
theorem bt_isinstance : bootBuiltins "isinstance" = some (.builtin "isinstance") := by decide +kernel
theorem bt_sorted : bootBuiltins "sorted" = some (.builtin "sorted") := by decide +kernel
/-! ### canonical operations -/
section
variable (X : Cx)
def wpR (f : Value → Value → Sem Value) : R2 := fun x y H Q => ∀ (pins : List (Addr × Obj)) (s : Shared) (σ : L2.St) (v u : Value), Inv X pins σ H s → RelV x v → RelV y u → wpAny (model X.prog X.w) X.A (f v u) (EP X pins σ Q) X.xe s
def wpU (f : Value → Sem Value) : V → Hp → VK → Prop := fun x H Q => ∀ (pins : List (Addr × Obj)) (s : Shared) (σ : L2.St) (v : Value), Inv X pins σ H s → RelV x v → wpAny (model X.prog X.w) X.A (f v) (EP X pins σ Q) X.xe s
def wpC (f : Value) : List V → Hp → VK → Prop := fun xs H Q => ∀ (pins : List (Addr × Obj)) (s : Shared) (σ : L2.St) (us : List Value), Inv X pins σ H s → Vals xs us → wpAny (model X.prog X.w) X.A (call f us) (EP X pins σ Q) X.xe s
/-- o[i], where i is no slice -/
def wpIx : R2 := fun x y H Q => ∀ (value slice : Expr) (pins : List (Addr × Obj)) (s : Shared) (σ : L2.St) (v u : Value), (∀ (b : Bool) (o i : Value), subscripted slice b o i = if b then runValue (.builtin "lifetime.subscript" ⟨[o, i], []⟩) else operate [o, i] (getItem o i)) → Inv X pins σ H s → RelV x v → RelV y u →
  wpAny (model X.prog X.w) X.A (subscriptTail value slice v u) (EP X pins σ Q) X.xe s
/-- o[i] = v -/
def wpSt : TSet := fun o i v H Q => ∀ (pins : List (Addr × Obj)) (s : Shared) (σ : L2.St) (ov iv u : Value), Inv X pins σ H s → RelV o ov → RelV i iv → RelV v u →
  wpAny (model X.prog X.w) X.A (setItem ov iv u) (fun _ s' => ∃ H', Inv X pins σ H' s' ∧ Q H') X.xe s
variable {X}
theorem or_self {f : Value → Value → Sem Value} : OpR X f (wpR X f) := fun pins s σ H x y v u Q I rx ry h => h pins s σ v u I rx ry
theorem un_self {f : Value → Sem Value} : UnR X f (wpU X f) := fun pins s σ H x v Q I rx h => h pins s σ v I rx
theorem cr_self {f : Value} : CallR X f (wpC X f) := fun pins s σ H xs us Q I r h => h pins s σ us I r
theorem st_self : PSet X (wpSt X) := fun pins s σ H o i v ov iv u Q I ro ri rv h => h pins s σ ov iv u I ro ri rv
end
section
variable {X : Cx} {F0 : Hp} {ds : DS} {G : Gs} {K : D → Gs → Prop} {e a b : Expr} {pos : Pos} {N : List Str} {sc : Scope} {k : Nat} {d d' : D}
theorem RK2.of {f : Value → Value → Sem Value} {r : R2} (ho : OpR X f r) (h : RK2 X F0 r d d' G K) : RK2 X F0 (wpR X f) d d' G K := fun F H x y Q a s r1 r2 z pins s0 σ v u I rx ry => ho pins s0 σ H x y v u Q I rx ry (h F H x y Q a s r1 r2 z)
theorem RK1.of {f : Value → Sem Value} {r : V → Hp → VK → Prop} (ho : UnR X f r) (h : RK1 X F0 r d G K) : RK1 X F0 (wpU X f) d G K := fun F H x Q a s r1 z pins s0 σ v I rx => ho pins s0 σ H x v Q I rx (h F H x Q a s r1 z)
theorem RKL.of {f : Value} {r : List V → Hp → VK → Prop} {es : List D} (ho : CallR X f r) (h : RKL X F0 r es G K) : RKL X F0 (wpC X f) es G K := fun F H xs Q a s r1 z pins s0 σ us I rx => ho pins s0 σ H xs us Q I rx (h F H xs Q a s r1 z)
/-! ### ways -/
theorem nm_Eq (b : Expr) : behindInMarks .Eq b = false := nomark b
theorem nm_NotEq (b : Expr) : behindInMarks .NotEq b = false := nomark b
theorem nm_Lt (b : Expr) : behindInMarks .Lt b = false := nomark b
theorem nm_LtE (b : Expr) : behindInMarks .LtE b = false := nomark b
theorem nm_Gt (b : Expr) : behindInMarks .Gt b = false := nomark b
theorem nm_GtE (b : Expr) : behindInMarks .GtE b = false := nomark b
theorem nm_Is (b : Expr) : behindInMarks .Is b = false := nomark b
theorem nm_IsNot (b : Expr) : behindInMarks .IsNot b = false := nomark b
theorem br {p : Prop} [Decidable p] {U W : Prop} (h1 : p → U) (h2 : ¬ p → W) : (decide p = true → U) ∧ (decide p = false → W) := ⟨fun h => h1 (of_decide_eq_true h), fun h => h2 (of_decide_eq_false h)⟩
theorem brN {p : Prop} [Decidable p] {U W : Prop} (h1 : ¬ p → U) (h2 : p → W) : ((!decide p) = true → U) ∧ ((!decide p) = false → W) := ⟨fun h => h1 (by simpa using h), fun h => h2 (by simpa using h)⟩
theorem brB {b : Bool} {U W : Prop} (h1 : b = true → U) (h2 : b = false → W) : (b = true → U) ∧ (b = false → W) := ⟨h1, h2⟩
theorem brT {U W : Prop} (h1 : U) : (true = true → U) ∧ (true = false → W) := ⟨fun _ => h1, fun h => Bool.noConfusion h⟩
theorem brF {U W : Prop} (h1 : W) : (false = true → U) ∧ (false = false → W) := ⟨fun h => Bool.noConfusion h, fun _ => h1⟩
theorem brY {p : Prop} [Decidable p] {U W : Prop} (h : p) (h1 : U) : (decide p = true → U) ∧ (decide p = false → W) := ⟨fun _ => h1, fun q => absurd h (of_decide_eq_false q)⟩
theorem brNo {p : Prop} [Decidable p] {U W : Prop} (h : ¬ p) (h1 : W) : (decide p = true → U) ∧ (decide p = false → W) := ⟨fun q => absurd (of_decide_eq_true q) h, fun _ => h1⟩
theorem kb {K : Bool → Gs → Prop} {c : Bool} {G : Gs} (h : K c G) : KB K (.bl c) G := ⟨c, rfl, h⟩
/-! ### expressions by canonical operations -/
theorem xge_binop {op : Operator} (h : GE X F0 a ds G fun d G1 => GE X F0 b ds G1 fun e G2 => RK2 X F0 (wpR X (binaryOp op)) d e G2 K) : GE X F0 (.BinOp a op b pos) ds G K := xge_bin or_self h
theorem xge_compare {op : CmpOp} (h : GE X F0 a ds G fun d G1 => GE X F0 b ds G1 fun e G2 => RK2 X F0 (wpR X (compareOp op)) d e G2 K) (hm : behindInMarks op b = false) : GE X F0 (.Compare a [op] [b] pos) ds G K := xge_cmp or_self hm h
theorem xgt_compare {op : CmpOp} {K : Bool → Gs → Prop} (h : GE X F0 a ds G fun d G1 => GE X F0 b ds G1 fun e G2 => RK2 X F0 (wpR X (compareOp op)) d e G2 (KB K)) (hm : behindInMarks op b = false) : GT X F0 (.Compare a [op] [b] pos) ds G K := xgt_cmp or_self hm h
theorem xge_unary {op : UnaryOp} (h : GE X F0 a ds G fun d G1 => RK1 X F0 (wpU X (unaryOp op)) d G1 K) : GE X F0 (.UnaryOp op a pos) ds G K := xge_un un_self h
/-- a op1 b op2 c as a test -/
theorem xgt_chain {op op' : CmpOp} {c : Expr} {K : Bool → Gs → Prop} (h : GE X F0 a ds G fun d G1 => GE X F0 b ds G1 fun e G2 => RK2 X F0 (wpR X (compareOp op)) d e G2 (fun z G3 => ∃ k, z = .bl k ∧
    (k = true → GE X F0 c ds G3 fun d3 G4 => RK2 X F0 (wpR X (compareOp op')) e d3 G4 (KB K)) ∧ (k = false → K false G3))) (hm : lastMarks [op, op'] [b, c] = false) : GT X F0 (.Compare a [op, op'] [b, c] pos) ds G K :=
  GT.of (pt_chain or_self or_self pe_self pe_self pe_self hm) (xgt_test fun σ F H Q x y s z => h σ F H _ x y s fun d1 G1 v1 F1 H1 h1 e1 s1 r1 => h1 σ F1 H1 _ (x.trans e1) (y.ex e1) s1 fun d2 G2 v2 F2 H2 h2 e2 s2 r2 =>
    h2 F2 H2 v1 v2 _ ((x.trans e1).trans e2) s2 (Rep.ex e2 _ r1) r2 fun d3 G3 v3 F3 H3 ⟨k, ek, q⟩ e3 s3 r3 => ⟨k, by subst ek; exact rep_bl.mp r3, by
      have e03 := ((x.trans e1).trans e2).trans e3
      cases k with
      | true =>
        rw [if_pos rfl]
        refine q.1 rfl σ F3 H3 _ e03 (((y.ex e1).ex e2).ex e3) s3 fun d4 G4 v4 F4 H4 h4 e4 s4 r4 => ?_
        exact h4 F4 H4 v2 v4 Q (e03.trans e4) s4 (Rep.ex (e3.trans e4) _ r2) r4 fun d5 G5 v5 F5 H5 h5 e5 s5 r5 => z d5 G5 v5 F5 H5 h5 ((((e1.trans e2).trans e3).trans e4).trans e5) s5 r5
      | false =>
        rw [if_neg Bool.false_ne_true]
        exact z (.bl false) G3 (.bl false) F3 H3 ⟨false, rfl, q.2 rfl⟩ ((e1.trans e2).trans e3) s3 (rep_bl.mpr rfl)⟩)
theorem pe_ixc (hs : ∀ (b' : Bool) (o i : Value), subscripted b b' o i = if b' then runValue (.builtin "lifetime.subscript" ⟨[o, i], []⟩) else operate [o, i] (getItem o i)) {ta tb : TE} (ha : PE X a ta) (hb : PE X b tb) : PE X (.Subscript a b pos) (tOp (wpIx X) ta tb) := by
  refine ⟨fun pins s σ H Q I h => ?_⟩
  exact Subscript_ (binT ha hb I h fun v u s2 x y H2 I2 rx ry q => q a b pins s2 σ v u hs I2 rx ry)
theorem xge_index (h : GE X F0 a ds G fun d G1 => GE X F0 b ds G1 fun e G2 => RK2 X F0 (wpIx X) d e G2 K) (hs : ∀ (b' : Bool) (o i : Value), subscripted b b' o i = if b' then runValue (.builtin "lifetime.subscript" ⟨[o, i], []⟩) else operate [o, i] (getItem o i)) : GE X F0 (.Subscript a b pos) ds G K :=
  GE.of (pe_ixc hs pe_self pe_self) (xgt_op h)
theorem RK2.ix {r : R2} (hr : IxR X r) (h : RK2 X F0 r d d' G K) : RK2 X F0 (wpIx X) d d' G K := fun F H x y Q a s r1 r2 z value slice pins s0 σ v u hs I rx ry => hr value slice pins s0 σ H x y v u Q I rx ry (h F H x y Q a s r1 r2 z) (hs false v u)
/-! ### lists, tuples as they stand -/
/-- d is a list of these, frozen or owned -/
def LstAt (K : PySem.W.Frag) (G : Gs) (d : D) (xs : List D) : Prop := ∀ (F H : Hp) (v : V), Sat H F G → Rep K F d v → ∃ a vs, v = .ref a ∧ H a = some (.lst vs) ∧ RepL K F xs vs
def TupAt (K : PySem.W.Frag) (G : Gs) (d : D) (xs : List D) : Prop := ∀ (F H : Hp) (v : V), Sat H F G → Rep K F d v → ∃ a vs, v = .ref a ∧ SqT K H a vs ∧ RepL K F xs vs
theorem lst_fr {K : PySem.W.Frag} {xs : List D} : LstAt K G (.lst xs) xs := fun F H v s r => by
  obtain ⟨a, vs, h1, h2, h3⟩ := rep_lst.mp r
  exact ⟨a, vs, h1, s.ex a _ h2, h3⟩
theorem lst_own {K : PySem.W.Frag} {p : Addr} {xs : List D} {c : Grp → Gs} (f : Foc G (gl K p xs) c) : LstAt K G (.raw (.ref p)) xs := fun F H v s r => by
  obtain ⟨vs, h1, h2⟩ := s.getL f
  exact ⟨p, vs, rep_raw.mp r, h1, h2⟩
theorem tup_fr {K : PySem.W.Frag} {xs : List D} : TupAt K G (.tup xs) xs := fun F H v s r => by
  obtain ⟨a, vs, h1, h2, h3⟩ := rep_tup.mp r
  exact ⟨a, vs, h1, SqT.of (s.ex a _ h2), h3⟩
/-- a tuple of the module -/
theorem tup_mod {K : PySem.W.Frag} {p : Addr} {xs : List D} {vs : List V} (h : ∀ H, SqT K H p vs) (r : ∀ F, RepL K F xs vs) : TupAt K G (.raw (.ref p)) xs := fun F H v s r' => ⟨p, vs, rep_raw.mp r', h H, r F⟩
/-- either -/
def SeqAt (K : PySem.W.Frag) (G : Gs) (d : D) (xs : List D) : Prop := LstAt K G d xs ∨ TupAt K G d xs
theorem SeqAt.sq {K : PySem.W.Frag} {xs : List D} (h : SeqAt K G d xs) {F H : Hp} {v : V} (s : Sat H F G) (r : Rep K F d v) : ∃ a vs, v = .ref a ∧ (SqL K H a vs ∨ SqT K H a vs) ∧ RepL K F xs vs := by
  rcases h with h | h
  · obtain ⟨a, vs, h1, h2, h3⟩ := h F H v s r
    exact ⟨a, vs, h1, .inl (SqL.of h2), h3⟩
  · obtain ⟨a, vs, h1, h2, h3⟩ := h F H v s r
    exact ⟨a, vs, h1, .inr h2, h3⟩
theorem atI_rep {K : PySem.W.Frag} {F : Hp} {xs : List D} {vs : List V} {i : Int} {d : D} (r : RepL K F xs vs) (h : atI xs i = some d) : ∃ v, atI vs i = some v ∧ Rep K F d v := by
  unfold atI at h ⊢
  rw [← r.length]
  cases q : ixN xs.length i with
  | none => rw [q] at h; cases h
  | some j =>
    rw [q] at h
    exact r.get h
/-! ### ints -/
theorem rk_addI {i j : Int} (q : K (.int (i + j)) G) : RK2 X F0 (wpR X (binaryOp .Add)) (.int i) (.int j) G K := RK2.of op_add fun F H x y Q a s r1 r2 z => ⟨i, j, rep_int.mp r1, rep_int.mp r2, z _ _ _ F H q (Ex.refl F) s (rep_int.mpr rfl)⟩
theorem rk_subI {i j : Int} (q : K (.int (i - j)) G) : RK2 X F0 (wpR X (binaryOp .Sub)) (.int i) (.int j) G K := RK2.of op_sub fun F H x y Q a s r1 r2 z => ⟨i, j, rep_int.mp r1, rep_int.mp r2, z _ _ _ F H q (Ex.refl F) s (rep_int.mpr rfl)⟩
theorem rk_mulI {i j : Int} (h : (-(2 ^ 64) < i ∧ i < 2 ^ 64) ∨ (-(2 ^ 64) < j ∧ j < 2 ^ 64)) (q : K (.int (i * j)) G) : RK2 X F0 (wpR X (binaryOp .Mult)) (.int i) (.int j) G K := RK2.of op_mul fun F H x y Q a s r1 r2 z => ⟨i, j, rep_int.mp r1, rep_int.mp r2, h, z _ _ _ F H q (Ex.refl F) s (rep_int.mpr rfl)⟩
theorem rk_modI {i j : Int} (h : 0 < j) (q : K (.int (i % j)) G) : RK2 X F0 (wpR X (binaryOp .Mod)) (.int i) (.int j) G K := RK2.of op_mod fun F H x y Q a s r1 r2 z => ⟨i, j, rep_int.mp r1, rep_int.mp r2, h, z _ _ _ F H q (Ex.refl F) s (rep_int.mpr rfl)⟩
theorem rk_divI {i j : Int} (h : 0 < j ∧ j < 1073741824) (q : K (.int (i / j)) G) : RK2 X F0 (wpR X (binaryOp .FloorDiv)) (.int i) (.int j) G K := RK2.of op_fdiv fun F H x y Q a s r1 r2 z => ⟨i, j, rep_int.mp r1, rep_int.mp r2, h, z _ _ _ F H q (Ex.refl F) s (rep_int.mpr rfl)⟩
theorem rk_powI {i j : Int} (h : 0 ≤ j ∧ j ≤ 1000000 ∧ i.natAbs < 2 ^ 64) (q : K (.int (i ^ j.toNat)) G) : RK2 X F0 (wpR X (binaryOp .Pow)) (.int i) (.int j) G K := RK2.of op_pow fun F H x y Q a s r1 r2 z => ⟨i, j, rep_int.mp r1, rep_int.mp r2, h, z _ _ _ F H q (Ex.refl F) s (rep_int.mpr rfl)⟩
theorem rk_negI {i : Int} (q : K (.int (-i)) G) : RK1 X F0 (wpU X (unaryOp .USub)) (.int i) G K := RK1.of un_neg fun F H x Q a s r1 z => ⟨i, rep_int.mp r1, z _ _ _ F H q (Ex.refl F) s (rep_int.mpr rfl)⟩
theorem rk_ltI {i j : Int} (q : K (.bl (decide (i < j))) G) : RK2 X F0 (wpR X (compareOp .Lt)) (.int i) (.int j) G K := RK2.of op_lt fun F H x y Q a s r1 r2 z => ⟨i, j, rep_int.mp r1, rep_int.mp r2, z _ _ _ F H q (Ex.refl F) s (rep_bl.mpr rfl)⟩
theorem rk_leI {i j : Int} (q : K (.bl (decide (i ≤ j))) G) : RK2 X F0 (wpR X (compareOp .LtE)) (.int i) (.int j) G K := RK2.of op_le fun F H x y Q a s r1 r2 z => ⟨i, j, rep_int.mp r1, rep_int.mp r2, z _ _ _ F H q (Ex.refl F) s (rep_bl.mpr rfl)⟩
theorem rk_gtI {i j : Int} (q : K (.bl (decide (j < i))) G) : RK2 X F0 (wpR X (compareOp .Gt)) (.int i) (.int j) G K := RK2.of op_gt fun F H x y Q a s r1 r2 z => ⟨i, j, rep_int.mp r1, rep_int.mp r2, z _ _ _ F H q (Ex.refl F) s (rep_bl.mpr rfl)⟩
theorem rk_geI {i j : Int} (q : K (.bl (decide (j ≤ i))) G) : RK2 X F0 (wpR X (compareOp .GtE)) (.int i) (.int j) G K := RK2.of op_ge fun F H x y Q a s r1 r2 z => ⟨i, j, rep_int.mp r1, rep_int.mp r2, z _ _ _ F H q (Ex.refl F) s (rep_bl.mpr rfl)⟩
theorem rk_iaddI {i j : Int} (q : K (.int (i + j)) G) : RK2 X F0 (wpR X (inplaceOp .Add)) (.int i) (.int j) G K := RK2.of iop_add fun F H x y Q a s r1 r2 z => ⟨i, j, rep_int.mp r1, rep_int.mp r2, z _ _ _ F H q (Ex.refl F) s (rep_int.mpr rfl)⟩
theorem rk_isubI {i j : Int} (q : K (.int (i - j)) G) : RK2 X F0 (wpR X (inplaceOp .Sub)) (.int i) (.int j) G K := RK2.of iop_sub fun F H x y Q a s r1 r2 z => ⟨i, j, rep_int.mp r1, rep_int.mp r2, z _ _ _ F H q (Ex.refl F) s (rep_int.mpr rfl)⟩
/-! ### == of what has no address -/
/-- the value of data that has no address -/
def D.flat : D → Option V
  | .non => some .non
  | .bl b => some (.bl b)
  | .int i => some (.int i)
  | .str s => some (.str s)
  | _ => none
theorem flat_rep {K : PySem.W.Frag} {F : Hp} {d : D} {x v : V} (h : d.flat = some x) (r : Rep K F d v) : v = x := by
  cases d <;> first | (cases h; done) | skip
  · cases h; exact rep_non.mp r
  · cases h; exact rep_bl.mp r
  · cases h; exact rep_int.mp r
  · cases h; exact rep_str.mp r
theorem rk_eqF {x y : V} (h1 : d.flat = some x) (h2 : d'.flat = some y) (hs : scal x y = true) (q : K (.bl (decide (x = y))) G) : RK2 X F0 (wpR X (compareOp .Eq)) d d' G K := RK2.of op_eq fun F H u v Q a s r1 r2 z => by
  rw [flat_rep h1 r1, flat_rep h2 r2]
  exact ⟨hs, z _ _ _ F H q (Ex.refl F) s (rep_bl.mpr rfl)⟩
theorem rk_neF {x y : V} (h1 : d.flat = some x) (h2 : d'.flat = some y) (hs : scal x y = true) (q : K (.bl (!decide (x = y))) G) : RK2 X F0 (wpR X (compareOp .NotEq)) d d' G K := RK2.of op_ne fun F H u v Q a s r1 r2 z => by
  rw [flat_rep h1 r1, flat_rep h2 r2]
  exact ⟨hs, z _ _ _ F H q (Ex.refl F) s (rep_bl.mpr rfl)⟩
theorem dec_congr {p q : Prop} [Decidable p] [Decidable q] (h : p ↔ q) : decide p = decide q := by
  by_cases hp : p
  · rw [decide_eq_true hp, decide_eq_true (h.mp hp)]
  · rw [decide_eq_false hp, decide_eq_false fun z => hp (h.mpr z)]
theorem rk_eqI {i j : Int} (q : K (.bl (decide (i = j))) G) : RK2 X F0 (wpR X (compareOp .Eq)) (.int i) (.int j) G K := rk_eqF rfl rfl rfl (by rw [dec_congr (show V.int i = V.int j ↔ i = j from ⟨fun h => V.int.inj h, fun h => by rw [h]⟩)]; exact q)
theorem rk_eqS {i j : Str} (q : K (.bl (decide (i = j))) G) : RK2 X F0 (wpR X (compareOp .Eq)) (.str i) (.str j) G K := rk_eqF rfl rfl rfl (by rw [dec_congr (show V.str i = V.str j ↔ i = j from ⟨fun h => V.str.inj h, fun h => by rw [h]⟩)]; exact q)
theorem rk_eqB {i j : Bool} (q : K (.bl (decide (i = j))) G) : RK2 X F0 (wpR X (compareOp .Eq)) (.bl i) (.bl j) G K := rk_eqF rfl rfl rfl (by rw [dec_congr (show V.bl i = V.bl j ↔ i = j from ⟨fun h => V.bl.inj h, fun h => by rw [h]⟩)]; exact q)
theorem rk_neI {i j : Int} (q : K (.bl (!decide (i = j))) G) : RK2 X F0 (wpR X (compareOp .NotEq)) (.int i) (.int j) G K := rk_neF rfl rfl rfl (by rw [dec_congr (show V.int i = V.int j ↔ i = j from ⟨fun h => V.int.inj h, fun h => by rw [h]⟩)]; exact q)
theorem rk_neS {i j : Str} (q : K (.bl (!decide (i = j))) G) : RK2 X F0 (wpR X (compareOp .NotEq)) (.str i) (.str j) G K := rk_neF rfl rfl rfl (by rw [dec_congr (show V.str i = V.str j ↔ i = j from ⟨fun h => V.str.inj h, fun h => by rw [h]⟩)]; exact q)
/-- is None, is not None -/
theorem rk_isN {b : Bool} (h : ∀ F v, Rep X.K F d v → decide (v = .non) = b) (q : K (.bl b) G) : RK2 X F0 (wpR X (compareOp .Is)) d .non G K := RK2.of op_isN fun F H u v Q a s r1 r2 z => ⟨rep_non.mp r2, by rw [h F u r1]; exact z _ _ _ F H q (Ex.refl F) s (rep_bl.mpr rfl)⟩
theorem rk_notN {b : Bool} (h : ∀ F v, Rep X.K F d v → decide (v = .non) = b) (q : K (.bl (!b)) G) : RK2 X F0 (wpR X (compareOp .IsNot)) d .non G K := RK2.of op_notN fun F H u v Q a s r1 r2 z => ⟨rep_non.mp r2, by rw [h F u r1]; exact z _ _ _ F H q (Ex.refl F) s (rep_bl.mpr rfl)⟩
theorem isN_non {K : PySem.W.Frag} : ∀ F v, Rep K F .non v → decide (v = .non) = true := fun F v r => by rw [rep_non.mp r] <;> rfl
theorem isN_int {K : PySem.W.Frag} {i : Int} : ∀ F v, Rep K F (.int i) v → decide (v = .non) = false := fun F v r => by rw [rep_int.mp r] <;> rfl
theorem isN_bl {K : PySem.W.Frag} {i : Bool} : ∀ F v, Rep K F (.bl i) v → decide (v = .non) = false := fun F v r => by rw [rep_bl.mp r] <;> rfl
theorem isN_str {K : PySem.W.Frag} {i : Str} : ∀ F v, Rep K F (.str i) v → decide (v = .non) = false := fun F v r => by rw [rep_str.mp r] <;> rfl
theorem isN_lst {K : PySem.W.Frag} {i : List D} : ∀ F v, Rep K F (.lst i) v → decide (v = .non) = false := fun F v r => by
  obtain ⟨a, vs, e, _⟩ := rep_lst.mp r
  rw [e] <;> rfl
theorem isN_tup {K : PySem.W.Frag} {i : List D} : ∀ F v, Rep K F (.tup i) v → decide (v = .non) = false := fun F v r => by
  obtain ⟨a, vs, e, _⟩ := rep_tup.mp r
  rw [e] <;> rfl
theorem isN_ins {K : PySem.W.Frag} {C : Addr} {ks : List Str} {i : List D} : ∀ F v, Rep K F (.ins C ks i) v → decide (v = .non) = false := fun F v r => by
  obtain ⟨a, dx, vs, e, _⟩ := rep_ins.mp r
  rw [e] <;> rfl
theorem isN_ref {K : PySem.W.Frag} {a : Addr} : ∀ F v, Rep K F (.raw (.ref a)) v → decide (v = .non) = false := fun F v r => by rw [rep_raw.mp r] <;> rfl
/-! ### an item -/
theorem rk_ixL {xs : List D} {i : Int} {x : D} (h : LstAt X.K G d xs) (hi : atI xs i = some x) (q : K x G) : RK2 X F0 (wpIx X) d (.int i) G K := RK2.ix ix_list fun F H u v Q a s r1 r2 z => by
  obtain ⟨p, vs, e1, h1, h2⟩ := h F H u s r1
  obtain ⟨w, h3, h4⟩ := atI_rep h2 hi
  exact ⟨p, vs, i, w, e1, rep_int.mp r2, SqL.of h1, h3, z x G w F H q (Ex.refl F) s h4⟩
theorem rk_ixT {xs : List D} {i : Int} {x : D} (h : TupAt X.K G d xs) (hi : atI xs i = some x) (q : K x G) : RK2 X F0 (wpIx X) d (.int i) G K := RK2.ix ix_tup fun F H u v Q a s r1 r2 z => by
  obtain ⟨p, vs, e1, h1, h2⟩ := h F H u s r1
  obtain ⟨w, h3, h4⟩ := atI_rep h2 hi
  exact ⟨p, vs, i, w, e1, rep_int.mp r2, h1, h3, z x G w F H q (Ex.refl F) s h4⟩
inductive GetL : List D → Nat → D → Prop
  | here {x : D} {r : List D} : GetL (x :: r) 0 x
  | there {x d : D} {r : List D} {n : Nat} : GetL r n d → GetL (x :: r) (n + 1) d
theorem GetL.ok {xs : List D} {n : Nat} {d : D} (h : GetL xs n d) : xs[n]? = some d := by
  induction h with
  | here => rfl
  | there _ ih => simpa using ih
theorem atI_nat {α : Type} {xs : List α} {n : Nat} {x : α} (h : xs[n]? = some x) : atI xs (n : Int) = some x := by
  have hl : n < xs.length := (List.getElem?_eq_some_iff.mp h).1
  unfold atI ixN
  rw [if_pos (Int.natCast_nonneg n), if_pos (by omega)]
  exact h
theorem atI_last {α : Type} {xs : List α} {x : α} : atI (xs ++ [x]) (-1) = some x := by
  unfold atI ixN
  rw [if_neg (by decide), if_pos (by simp; omega)]
  have e : (-1 + ((xs ++ [x]).length : Int)).toNat = xs.length := by simp; omega
  show (xs ++ [x])[(-1 + ((xs ++ [x]).length : Int)).toNat]? = some x
  rw [e]
  simp
theorem rk_getL (n : Nat) {xs : List D} {i : Int} {x : D} (hi : i = (n : Int)) (h : LstAt X.K G d xs) (g : GetL xs n x) (q : K x G) : RK2 X F0 (wpIx X) d (.int i) G K := rk_ixL h (by rw [hi]; exact atI_nat g.ok) q
theorem rk_getT (n : Nat) {xs : List D} {i : Int} {x : D} (hi : i = (n : Int)) (h : TupAt X.K G d xs) (g : GetL xs n x) (q : K x G) : RK2 X F0 (wpIx X) d (.int i) G K := rk_ixT h (by rw [hi]; exact atI_nat g.ok) q
/-! ### built-in calls -/
theorem xge_callB {Gn : List Str} {jg m : Nat} {x : Str} {id : String} {p : Pos} {es : List Expr} (c : Ctx N sc k X) (n : NmOk N Gn sc m) (hg : Plc Gn x jg) (hm : X.mg x = none) (hv : bootBuiltins x = some (.builtin id)) (h : GA X F0 (e :: es) ds G fun rs G1 => RKL X F0 (wpC X (.builtin id)) rs G1 K)
    (he : starEach (e :: es) X.env = (false, eval e X.env) :: starEach es X.env) (hpl : (backTo pos (starEach es X.env)).any (·.1) = false) : GE X F0 (.Call (.Name x p) (e :: es) [] pos) ds G K :=
  GE.of (pe_callB cr_self (show X.env.scope.names.lookup x = _ by rw [c.hsc]; exact n.gl hg) hm hv pa_self (n.nn hg) (n.db hg) he hpl) fun σ F H Q x y s z => h σ F H _ x y s fun rs G1 vs F1 H1 q e1 s1 r1 => q F1 H1 vs Q (x.trans e1) s1 r1 fun d G2 v F2 H2 q2 e2 s2 r2 => z d G2 v F2 H2 q2 (e1.trans e2) s2 r2
theorem xge_callTy {Gn : List Str} {jg m : Nat} {x : Str} {T : String} {p : Pos} {es : List Expr} (c : Ctx N sc k X) (n : NmOk N Gn sc m) (hg : Plc Gn x jg) (hm : X.mg x = none) (hv : bootBuiltins x = some (.type T)) (h : GA X F0 (e :: es) ds G fun rs G1 => RKL X F0 (wpC X (.type T)) rs G1 K)
    (he : starEach (e :: es) X.env = (false, eval e X.env) :: starEach es X.env) (hpl : (backTo pos (starEach es X.env)).any (·.1) = false) : GE X F0 (.Call (.Name x p) (e :: es) [] pos) ds G K :=
  GE.of (pe_callTy cr_self (show X.env.scope.names.lookup x = _ by rw [c.hsc]; exact n.gl hg) hm hv pa_self (n.nn hg) (n.db hg) he hpl) fun σ F H Q x y s z => h σ F H _ x y s fun rs G1 vs F1 H1 q e1 s1 r1 => q F1 H1 vs Q (x.trans e1) s1 r1 fun d G2 v F2 H2 q2 e2 s2 r2 => z d G2 v F2 H2 q2 (e1.trans e2) s2 r2
theorem rl_len {xs : List D} (h : SeqAt X.K G d xs) (q : K (.int xs.length) G) : RKL X F0 (wpC X (.builtin "len")) [d] G K := RKL.of call_len_seq fun F H us Q a s r z => by
  obtain ⟨u, w, e1, h1, h2⟩ := RepL.cons_iff.mp r
  obtain ⟨p, vs, e2, h3, h4⟩ := h.sq s h1
  refine ⟨p, vs, by rw [e1, e2, RepL.nil_iff.mp h2], h3, ?_⟩
  rw [← h4.length]
  exact z _ _ _ F H q (Ex.refl F) s (rep_int.mpr rfl)
/-- list(xs): a new one of one's own -/
theorem rl_list {xs : List D} (h : SeqAt X.K G d xs) (q : ∀ p, K (.raw (.ref p)) (gl X.K p xs :: G)) : RKL X F0 (wpC X (.type "list")) [d] G K := RKL.of call_list_of fun F H us Q a s r z => by
  obtain ⟨u, w, e1, h1, h2⟩ := RepL.cons_iff.mp r
  obtain ⟨p, vs, e2, h3, h4⟩ := h.sq s h1
  exact ⟨p, vs, by rw [e1, e2, RepL.nil_iff.mp h2], h3, fun l hl => z _ _ _ F _ (q l) (Ex.refl F) (s.ownL hl h4) (rep_raw.mpr rfl)⟩
/-- tuple(xs) of a list: data -/
theorem rl_tuple {xs : List D} (h : LstAt X.K G d xs) (q : K (.tup xs) G) : RKL X F0 (wpC X (.type "tuple")) [d] G K := RKL.of call_tuple_of fun F H us Q a s r z => by
  obtain ⟨u, w, e1, h1, h2⟩ := RepL.cons_iff.mp r
  obtain ⟨p, vs, e2, h3, h4⟩ := h F H u s h1
  refine ⟨p, vs, by rw [e1, e2, RepL.nil_iff.mp h2], .inl ⟨SqL.of h3, fun l hl => ?_⟩⟩
  have ex := Ex.new (o := HO.tup vs) (s.ex.free hl)
  exact z _ _ _ (upd F l (.tup vs)) _ q ex (s.frozen hl) (rep_tup.mpr ⟨l, vs, rfl, upd_same, RepL.ex ex _ h4⟩)
theorem rl_lenF {xs : List D} (q : K (.int xs.length) G) : RKL X F0 (wpC X (.builtin "len")) [.lst xs] G K := rl_len (Or.inl lst_fr) q
theorem rl_lenO {p : Addr} {xs : List D} {c : Grp → Gs} (f : Foc G (gl X.K p xs) c) (q : K (.int xs.length) G) : RKL X F0 (wpC X (.builtin "len")) [.raw (.ref p)] G K := rl_len (Or.inl (lst_own f)) q
theorem rl_lenT {xs : List D} (q : K (.int xs.length) G) : RKL X F0 (wpC X (.builtin "len")) [.tup xs] G K := rl_len (Or.inr tup_fr) q
theorem rl_listF {xs : List D} (q : ∀ p, K (.raw (.ref p)) (gl X.K p xs :: G)) : RKL X F0 (wpC X (.type "list")) [.lst xs] G K := rl_list (Or.inl lst_fr) q
theorem rl_listO {p : Addr} {xs : List D} {c : Grp → Gs} (f : Foc G (gl X.K p xs) c) (q : ∀ p, K (.raw (.ref p)) (gl X.K p xs :: G)) : RKL X F0 (wpC X (.type "list")) [.raw (.ref p)] G K := rl_list (Or.inl (lst_own f)) q
theorem rl_listT {xs : List D} (q : ∀ p, K (.raw (.ref p)) (gl X.K p xs :: G)) : RKL X F0 (wpC X (.type "list")) [.tup xs] G K := rl_list (Or.inr tup_fr) q
theorem rl_int {i : Int} (q : K (.int i) G) : RKL X F0 (wpC X (.type "int")) [.int i] G K := RKL.of call_int1 fun F H us Q a s r z => by
  obtain ⟨u, w, e1, h1, h2⟩ := RepL.cons_iff.mp r
  exact .inl ⟨i, by rw [e1, rep_int.mp h1, RepL.nil_iff.mp h2], z _ _ _ F H q (Ex.refl F) s (rep_int.mpr rfl)⟩
theorem rl_str {i : Int} (h : i.natAbs.log2 < 1920) (q : K (.str (toString i)) G) : RKL X F0 (wpC X (.type "str")) [.int i] G K := RKL.of call_str_int fun F H us Q a s r z => by
  obtain ⟨u, w, e1, h1, h2⟩ := RepL.cons_iff.mp r
  exact ⟨i, by rw [e1, rep_int.mp h1, RepL.nil_iff.mp h2], h, z _ _ _ F H q (Ex.refl F) s (rep_str.mpr rfl)⟩
theorem rl_min {i j : Int} (hc : X.calm = true) (q : K (.int (if j < i then j else i)) G) : RKL X F0 (wpC X (.builtin "min")) [.int i, .int j] G K := RKL.of (call_min2 hc) fun F H us Q a s r z => by
  obtain ⟨u, w, e1, h1, h2⟩ := RepL.cons_iff.mp r
  obtain ⟨u2, w2, e2, h3, h4⟩ := RepL.cons_iff.mp h2
  exact ⟨i, j, by rw [e1, e2, rep_int.mp h1, rep_int.mp h3, RepL.nil_iff.mp h4], z _ _ _ F H q (Ex.refl F) s (rep_int.mpr rfl)⟩
/-! ### stores -/
theorem xgs_asgSub {A : AE} {o i : Expr} {pos' : Pos} (h : GE X F0 e ds G fun d G1 => GE X F0 o ds G1 fun d2 G2 => GE X F0 i ds G2 fun d3 G3 =>
    ∀ (F H : Hp) (x y z : V) (Q : Hp → Prop), Ex F0 F → Sat H F G3 → Rep X.K F d x → Rep X.K F d2 y → Rep X.K F d3 z → (∀ G' F' H', A.nx ds G' → Ex F F' → Sat H' F' G' → Q H') → wpSt X y z x H Q)
    (ha : ∀ v, assign (.Subscript o i pos') X.env v = (do
      let ov ← holding [v] (eval o X.env)
      let iv ← holding [v, ov] (eval i X.env)
      standAt pos'
      holding [v, ov, iv] (setItem ov iv v)
      release [v, ov, iv] [])) (hs : swapsWithSole [.Subscript o i pos'] e pos.line X.env = pure false) (hw : swappedStores [.Subscript o i pos'] e X.env = pure none)
    (h1 : (assignEach [.Subscript o i pos'] X.env).map (·.2) = [assign (.Subscript o i pos') X.env]) : GS X F0 (.Assign [.Subscript o i pos'] e pos) ds G A :=
  GS.of (ps_asg pe_self (pg_sub pe_self pe_self st_self ha) hs hw h1) fun σ F H D a y s w => h σ F H _ a y s fun d1 G1 v1 F1 H1 q1 e1 s1 r1 => q1 σ F1 H1 _ (a.trans e1) (y.ex e1) s1 fun d2 G2 v2 F2 H2 q2 e2 s2 r2 =>
    q2 σ F2 H2 _ ((a.trans e1).trans e2) ((y.ex e1).ex e2) s2 fun d3 G3 v3 F3 H3 q3 e3 s3 r3 => q3 F3 H3 v1 v2 v3 _ (((a.trans e1).trans e2).trans e3) s3 (Rep.ex (e2.trans e3) _ r1) (Rep.ex e3 _ r2) r3 fun G4 F4 H4 q4 e4 s4 =>
      w.nx ds G4 σ F4 H4 q4 (((e1.trans e2).trans e3).trans e4) ((((y.ex e1).ex e2).ex e3).ex e4) s4
inductive PutL : List D → Nat → D → List D → Prop
  | here {x d : D} {r : List D} : PutL (x :: r) 0 d (d :: r)
  | there {x d : D} {r r' : List D} {n : Nat} : PutL r n d r' → PutL (x :: r) (n + 1) d (x :: r')
theorem PutL.ok {xs ys : List D} {n : Nat} {d : D} (h : PutL xs n d ys) : ys = xs.set n d ∧ n < xs.length := by
  induction h with
  | here => exact ⟨rfl, Nat.succ_pos _⟩
  | there _ ih => exact ⟨by rw [List.set_cons_succ, ih.1], Nat.succ_lt_succ ih.2⟩
/-- xs[i] = v, a list of one's own -/
theorem st_own {p : Addr} {xs : List D} {i : Int} {j : Nat} {c : Grp → Gs} {R : Gs → Prop} (f : Foc G (gl X.K p xs) c) (hi : ixN xs.length i = some j) (q : R (c (gl X.K p (xs.set j d)))) :
    ∀ (F H : Hp) (x y z : V) (Q : Hp → Prop), Ex F0 F → Sat H F G → Rep X.K F d x → Rep X.K F (.raw (.ref p)) y → Rep X.K F (.int i) z → (∀ G' F' H', R G' → Ex F F' → Sat H' F' G' → Q H') → wpSt X y z x H Q := fun F H x y z Q a s r1 r2 r3 w pins s0 σ ov iv u I ro ri rv => by
  obtain ⟨vs, h1, h2⟩ := s.getL f
  refine set_list pins s0 σ H y z x ov iv u Q I ro ri rv ⟨p, vs, i, j, rep_raw.mp r2, rep_int.mp r3, h1, by rw [← h2.length]; exact hi, ?_⟩
  exact w _ F _ q (Ex.refl F) (s.setL f (h2.set j r1))
theorem st_lit (n : Nat) {p : Addr} {xs ys : List D} {i : Int} {c : Grp → Gs} {R : Gs → Prop} (hi : i = (n : Int)) (f : Foc G (gl X.K p xs) c) (hp : PutL xs n d ys) (q : R (c (gl X.K p ys))) :
    ∀ (F H : Hp) (x y z : V) (Q : Hp → Prop), Ex F0 F → Sat H F G → Rep X.K F d x → Rep X.K F (.raw (.ref p)) y → Rep X.K F (.int i) z → (∀ G' F' H', R G' → Ex F F' → Sat H' F' G' → Q H') → wpSt X y z x H Q :=
  st_own (j := n) f (by rw [hi]; unfold ixN; have := hp.ok.2; simp [this]) (by rw [← hp.ok.1]; exact q)
theorem rk_go0 {p : Addr} {xs : List D} {x : D} {c : Grp → Gs} (f : Foc G (gl X.K p xs) c) (g : GetL xs 0 x) (q : K x G) : RK2 X F0 (wpIx X) (.raw (.ref p)) (.int 0) G K := rk_getL 0 rfl (lst_own f) g q
theorem rk_gl0 {xs : List D} {x : D} (g : GetL xs 0 x) (q : K x G) : RK2 X F0 (wpIx X) (.lst xs) (.int 0) G K := rk_getL 0 rfl lst_fr g q
theorem rk_gt0 {xs : List D} {x : D} (g : GetL xs 0 x) (q : K x G) : RK2 X F0 (wpIx X) (.tup xs) (.int 0) G K := rk_getT 0 rfl tup_fr g q
theorem st_l0 {p : Addr} {xs ys : List D} {c : Grp → Gs} {R : Gs → Prop} (f : Foc G (gl X.K p xs) c) (hp : PutL xs 0 d ys) (q : R (c (gl X.K p ys))) :
    ∀ (F H : Hp) (x y z : V) (Q : Hp → Prop), Ex F0 F → Sat H F G → Rep X.K F d x → Rep X.K F (.raw (.ref p)) y → Rep X.K F (.int 0) z → (∀ G' F' H', R G' → Ex F F' → Sat H' F' G' → Q H') → wpSt X y z x H Q := st_lit 0 rfl f hp q
theorem rk_go1 {p : Addr} {xs : List D} {x : D} {c : Grp → Gs} (f : Foc G (gl X.K p xs) c) (g : GetL xs 1 x) (q : K x G) : RK2 X F0 (wpIx X) (.raw (.ref p)) (.int 1) G K := rk_getL 1 rfl (lst_own f) g q
theorem rk_gl1 {xs : List D} {x : D} (g : GetL xs 1 x) (q : K x G) : RK2 X F0 (wpIx X) (.lst xs) (.int 1) G K := rk_getL 1 rfl lst_fr g q
theorem rk_gt1 {xs : List D} {x : D} (g : GetL xs 1 x) (q : K x G) : RK2 X F0 (wpIx X) (.tup xs) (.int 1) G K := rk_getT 1 rfl tup_fr g q
theorem st_l1 {p : Addr} {xs ys : List D} {c : Grp → Gs} {R : Gs → Prop} (f : Foc G (gl X.K p xs) c) (hp : PutL xs 1 d ys) (q : R (c (gl X.K p ys))) :
    ∀ (F H : Hp) (x y z : V) (Q : Hp → Prop), Ex F0 F → Sat H F G → Rep X.K F d x → Rep X.K F (.raw (.ref p)) y → Rep X.K F (.int 1) z → (∀ G' F' H', R G' → Ex F F' → Sat H' F' G' → Q H') → wpSt X y z x H Q := st_lit 1 rfl f hp q
theorem rk_go2 {p : Addr} {xs : List D} {x : D} {c : Grp → Gs} (f : Foc G (gl X.K p xs) c) (g : GetL xs 2 x) (q : K x G) : RK2 X F0 (wpIx X) (.raw (.ref p)) (.int 2) G K := rk_getL 2 rfl (lst_own f) g q
theorem rk_gl2 {xs : List D} {x : D} (g : GetL xs 2 x) (q : K x G) : RK2 X F0 (wpIx X) (.lst xs) (.int 2) G K := rk_getL 2 rfl lst_fr g q
theorem rk_gt2 {xs : List D} {x : D} (g : GetL xs 2 x) (q : K x G) : RK2 X F0 (wpIx X) (.tup xs) (.int 2) G K := rk_getT 2 rfl tup_fr g q
theorem st_l2 {p : Addr} {xs ys : List D} {c : Grp → Gs} {R : Gs → Prop} (f : Foc G (gl X.K p xs) c) (hp : PutL xs 2 d ys) (q : R (c (gl X.K p ys))) :
    ∀ (F H : Hp) (x y z : V) (Q : Hp → Prop), Ex F0 F → Sat H F G → Rep X.K F d x → Rep X.K F (.raw (.ref p)) y → Rep X.K F (.int 2) z → (∀ G' F' H', R G' → Ex F F' → Sat H' F' G' → Q H') → wpSt X y z x H Q := st_lit 2 rfl f hp q
theorem rk_go3 {p : Addr} {xs : List D} {x : D} {c : Grp → Gs} (f : Foc G (gl X.K p xs) c) (g : GetL xs 3 x) (q : K x G) : RK2 X F0 (wpIx X) (.raw (.ref p)) (.int 3) G K := rk_getL 3 rfl (lst_own f) g q
theorem rk_gl3 {xs : List D} {x : D} (g : GetL xs 3 x) (q : K x G) : RK2 X F0 (wpIx X) (.lst xs) (.int 3) G K := rk_getL 3 rfl lst_fr g q
theorem rk_gt3 {xs : List D} {x : D} (g : GetL xs 3 x) (q : K x G) : RK2 X F0 (wpIx X) (.tup xs) (.int 3) G K := rk_getT 3 rfl tup_fr g q
theorem st_l3 {p : Addr} {xs ys : List D} {c : Grp → Gs} {R : Gs → Prop} (f : Foc G (gl X.K p xs) c) (hp : PutL xs 3 d ys) (q : R (c (gl X.K p ys))) :
    ∀ (F H : Hp) (x y z : V) (Q : Hp → Prop), Ex F0 F → Sat H F G → Rep X.K F d x → Rep X.K F (.raw (.ref p)) y → Rep X.K F (.int 3) z → (∀ G' F' H', R G' → Ex F F' → Sat H' F' G' → Q H') → wpSt X y z x H Q := st_lit 3 rfl f hp q
theorem rk_go4 {p : Addr} {xs : List D} {x : D} {c : Grp → Gs} (f : Foc G (gl X.K p xs) c) (g : GetL xs 4 x) (q : K x G) : RK2 X F0 (wpIx X) (.raw (.ref p)) (.int 4) G K := rk_getL 4 rfl (lst_own f) g q
theorem rk_gl4 {xs : List D} {x : D} (g : GetL xs 4 x) (q : K x G) : RK2 X F0 (wpIx X) (.lst xs) (.int 4) G K := rk_getL 4 rfl lst_fr g q
theorem rk_gt4 {xs : List D} {x : D} (g : GetL xs 4 x) (q : K x G) : RK2 X F0 (wpIx X) (.tup xs) (.int 4) G K := rk_getT 4 rfl tup_fr g q
theorem st_l4 {p : Addr} {xs ys : List D} {c : Grp → Gs} {R : Gs → Prop} (f : Foc G (gl X.K p xs) c) (hp : PutL xs 4 d ys) (q : R (c (gl X.K p ys))) :
    ∀ (F H : Hp) (x y z : V) (Q : Hp → Prop), Ex F0 F → Sat H F G → Rep X.K F d x → Rep X.K F (.raw (.ref p)) y → Rep X.K F (.int 4) z → (∀ G' F' H', R G' → Ex F F' → Sat H' F' G' → Q H') → wpSt X y z x H Q := st_lit 4 rfl f hp q
theorem rk_go5 {p : Addr} {xs : List D} {x : D} {c : Grp → Gs} (f : Foc G (gl X.K p xs) c) (g : GetL xs 5 x) (q : K x G) : RK2 X F0 (wpIx X) (.raw (.ref p)) (.int 5) G K := rk_getL 5 rfl (lst_own f) g q
theorem rk_gl5 {xs : List D} {x : D} (g : GetL xs 5 x) (q : K x G) : RK2 X F0 (wpIx X) (.lst xs) (.int 5) G K := rk_getL 5 rfl lst_fr g q
theorem rk_gt5 {xs : List D} {x : D} (g : GetL xs 5 x) (q : K x G) : RK2 X F0 (wpIx X) (.tup xs) (.int 5) G K := rk_getT 5 rfl tup_fr g q
theorem st_l5 {p : Addr} {xs ys : List D} {c : Grp → Gs} {R : Gs → Prop} (f : Foc G (gl X.K p xs) c) (hp : PutL xs 5 d ys) (q : R (c (gl X.K p ys))) :
    ∀ (F H : Hp) (x y z : V) (Q : Hp → Prop), Ex F0 F → Sat H F G → Rep X.K F d x → Rep X.K F (.raw (.ref p)) y → Rep X.K F (.int 5) z → (∀ G' F' H', R G' → Ex F F' → Sat H' F' G' → Q H') → wpSt X y z x H Q := st_lit 5 rfl f hp q
theorem rk_go6 {p : Addr} {xs : List D} {x : D} {c : Grp → Gs} (f : Foc G (gl X.K p xs) c) (g : GetL xs 6 x) (q : K x G) : RK2 X F0 (wpIx X) (.raw (.ref p)) (.int 6) G K := rk_getL 6 rfl (lst_own f) g q
theorem rk_gl6 {xs : List D} {x : D} (g : GetL xs 6 x) (q : K x G) : RK2 X F0 (wpIx X) (.lst xs) (.int 6) G K := rk_getL 6 rfl lst_fr g q
theorem rk_gt6 {xs : List D} {x : D} (g : GetL xs 6 x) (q : K x G) : RK2 X F0 (wpIx X) (.tup xs) (.int 6) G K := rk_getT 6 rfl tup_fr g q
theorem st_l6 {p : Addr} {xs ys : List D} {c : Grp → Gs} {R : Gs → Prop} (f : Foc G (gl X.K p xs) c) (hp : PutL xs 6 d ys) (q : R (c (gl X.K p ys))) :
    ∀ (F H : Hp) (x y z : V) (Q : Hp → Prop), Ex F0 F → Sat H F G → Rep X.K F d x → Rep X.K F (.raw (.ref p)) y → Rep X.K F (.int 6) z → (∀ G' F' H', R G' → Ex F F' → Sat H' F' G' → Q H') → wpSt X y z x H Q := st_lit 6 rfl f hp q
theorem rk_go7 {p : Addr} {xs : List D} {x : D} {c : Grp → Gs} (f : Foc G (gl X.K p xs) c) (g : GetL xs 7 x) (q : K x G) : RK2 X F0 (wpIx X) (.raw (.ref p)) (.int 7) G K := rk_getL 7 rfl (lst_own f) g q
theorem rk_gl7 {xs : List D} {x : D} (g : GetL xs 7 x) (q : K x G) : RK2 X F0 (wpIx X) (.lst xs) (.int 7) G K := rk_getL 7 rfl lst_fr g q
theorem rk_gt7 {xs : List D} {x : D} (g : GetL xs 7 x) (q : K x G) : RK2 X F0 (wpIx X) (.tup xs) (.int 7) G K := rk_getT 7 rfl tup_fr g q
theorem st_l7 {p : Addr} {xs ys : List D} {c : Grp → Gs} {R : Gs → Prop} (f : Foc G (gl X.K p xs) c) (hp : PutL xs 7 d ys) (q : R (c (gl X.K p ys))) :
    ∀ (F H : Hp) (x y z : V) (Q : Hp → Prop), Ex F0 F → Sat H F G → Rep X.K F d x → Rep X.K F (.raw (.ref p)) y → Rep X.K F (.int 7) z → (∀ G' F' H', R G' → Ex F F' → Sat H' F' G' → Q H') → wpSt X y z x H Q := st_lit 7 rfl f hp q
end
end Ly
/-! Ly4: loops, methods, attributes, calls, a def's promise. -/
namespace Ly
open PySem PySem.Spec PyProof.Rows L2
section
variable {X : Cx} {F0 : Hp} {ds : DS} {G : Gs} {K : D → Gs → Prop} {e a b : Expr} {pos : Pos} {N : List Str} {sc : Scope} {k : Nat} {d d' : D} {A : AE} {body : List Stmt} {x : Str} {i : Nat}
/-! ### for -/
def loopA (A : AE) (P : DS → Gs → Prop) : AE := { A with nx := P, ct := P, bk := A.nx }
/-- turns over lo, lo + 1, .. -/
def ForR (X : Cx) (F0 : Hp) (A : AE) (body : List Stmt) (i : Nat) (ds : DS) (G : Gs) (lo : Int) (n : Nat) : Prop := ∃ Pv : Nat → DS → Gs → Prop, Pv 0 ds G ∧
  (∀ (j : Nat) ds' G', j < n → Pv j ds' G' → GSs X F0 body (ds'.set i (some (.int (lo + j)))) G' (loopA A (Pv (j + 1)))) ∧ ∀ ds' G', Pv n ds' G' → A.nx ds' G'
/-- turns over a list that stays as it is -/
def ForL (X : Cx) (F0 : Hp) (A : AE) (body : List Stmt) (i : Nat) (ds : DS) (G : Gs) (d : D) (xs : List D) : Prop := ∃ Pv : Nat → DS → Gs → Prop, Pv 0 ds G ∧ (∀ (j : Nat) ds' G', j ≤ xs.length → Pv j ds' G' → LstAt X.K G' d xs) ∧
  (∀ (j : Nat) y ds' G', xs[j]? = some y → Pv j ds' G' → GSs X F0 body (ds'.set i (some y)) G' (loopA A (Pv (j + 1)))) ∧ ∀ ds' G', Pv xs.length ds' G' → A.nx ds' G'
def ForT (X : Cx) (F0 : Hp) (A : AE) (body : List Stmt) (i : Nat) (ds : DS) (G : Gs) (d : D) (xs : List D) : Prop := ∃ Pv : Nat → DS → Gs → Prop, Pv 0 ds G ∧ (∀ (j : Nat) ds' G', j ≤ xs.length → Pv j ds' G' → TupAt X.K G' d xs) ∧
  (∀ (j : Nat) y ds' G', xs[j]? = some y → Pv j ds' G' → GSs X F0 body (ds'.set i (some y)) G' (loopA A (Pv (j + 1)))) ∧ ∀ ds' G', Pv xs.length ds' G' → A.nx ds' G'
/-- the invariant at a state -/
def AtP (X : Cx) (F : Hp) (P : DS → Gs → Prop) (σ : L2.St) (H : Hp) : Prop := ∃ ds' G' F', P ds' G' ∧ Ex F F' ∧ EnvOk X.K F' ds' σ ∧ Sat H F' G'
theorem loop_ends {F F1 : Hp} {D : Ends} (z : AEok X F A D) (e1 : Ex F F1) {P : DS → Gs → Prop} : AEok X F1 (loopA A P) { D with nx := AtP X F P, ct := AtP X F P, bk := D.nx } :=
  ⟨fun ds' G' σ' F' H' q e' y' s' => ⟨ds', G', F', q, e1.trans e', y', s'⟩, fun d G' v F' H' q e' s' r' => z.rt d G' v F' H' q (e1.trans e') s' r',
    fun ds' G' σ' F' H' q e' y' s' => z.nx ds' G' σ' F' H' q (e1.trans e') y' s', fun ds' G' σ' F' H' q e' y' s' => ⟨ds', G', F', q, e1.trans e', y', s'⟩⟩
theorem forR_run {lo : Int} {n : Nat} {F : Hp} {σ : L2.St} {H : Hp} {D : Ends} (q : ForR X F0 A body i ds G lo n) (e0 : Ex F0 F) (y : EnvOk X.K F ds σ) (s : Sat H F G) (z : AEok X F A D) :
    ∃ W : Nat → Nat → L2.St → Hp → Prop, (∃ m, W 0 m σ H) ∧ ∀ i' m σ H, W i' m σ H → ((Itr lo n).stop i' H ∧ D.nx σ H) ∨ ((Itr lo n).go i' H ∧ ∃ N : L2.St → Hp → Prop, (∀ σ' H', N σ' H' → ∃ m', m' < m ∧ W (i' + 1) m' σ' H') ∧ ∀ x H', (Itr lo n).yld i' H x H' → gName i x σ H' fun σ2 H2 => wpSs X body { D with nx := N, ct := N, bk := D.nx } σ2 H2) := by
  obtain ⟨Pv, p0, pt, pe⟩ := q
  refine for_range (D := D) (fun j => AtP X F (Pv j)) ⟨ds, G, F, p0, Ex.refl F, y, s⟩ ?_ ?_
  · rintro j σ1 H1 hj ⟨ds1, G1, F1, q1, e1, y1, s1⟩
    exact pt j ds1 G1 hj q1 (σ1.set i (some (.int (lo + j)))) F1 H1 _ (e0.trans e1) (y1.set (rep_int.mpr rfl)) s1 (loop_ends z e1)
  · rintro σ1 H1 ⟨ds1, G1, F1, q1, e1, y1, s1⟩
    exact z.nx ds1 G1 σ1 F1 H1 (pe ds1 G1 q1) e1 y1 s1
theorem Ctx.pg (c : Ctx N sc k X) (hfn : ∀ x, X.fn x = true) (hp : Plc N x i) (hx : Loc sc x) : PG X (.Name x pos) (gName i) := pg_name (by rw [c.hN]; exact c.nd) (by rw [c.hN]; exact hp.ok) (by rw [c.hsc]; exact hx) (.inl (hfn x))
theorem Ctx.gl (c : Ctx N sc k X) (hg : sc.names.lookup x = some .globalImplicit) : Gl X x := show X.env.scope.names.lookup x = _ by rw [c.hsc]; exact hg
theorem xgs_forR1 {px pr : Pos} (c : Ctx N sc k X) (hfn : ∀ x, X.fn x = true) {Gn : List Str} {jg mm : Nat} (n : NmOk N Gn sc mm) (hp : Plc N x i) (hg : Plc Gn "range" jg) (hm : X.mg "range" = none)
    (h : GA X F0 [e] ds G fun rs G1 => ∃ hi : Int, rs = [.int hi] ∧ (-(2 ^ 62) ≤ hi ∧ hi < 2 ^ 62) ∧ ForR X F0 A body i ds G1 0 hi.toNat) (hs : starEach [e] X.env = [(false, eval e X.env)]) (hii : Nat.blt i mm = true) {p2 : Pos} :
    GS X F0 (.For (.Name x px) (.Call (.Name "range" pr) [e] [] p2) body [] pos) ds G A :=
  GS.of (ps_for c.po c.calm (pi_range1 (c.gl (n.gl hg)) hm pa_self hs) (c.pg hfn hp (n.loc hp hii)) pss_self) fun σ F H D y z s w => h σ F H _ y z s fun rs G1 vs F1 H1 ⟨n, er, ⟨b1, b2⟩, q⟩ e1 s1 r1 => by
    subst er
    obtain ⟨u, us, ev, h1, h2⟩ := RepL.cons_iff.mp r1
    exact ⟨n, by rw [ev, rep_int.mp h1, RepL.nil_iff.mp h2], b1, b2, forR_run q (y.trans e1) (z.ex e1) s1 (w.ex e1)⟩
theorem xgs_forR2 {px pr : Pos} (c : Ctx N sc k X) (hfn : ∀ x, X.fn x = true) {Gn : List Str} {jg mm : Nat} (n : NmOk N Gn sc mm) (hp : Plc N x i) (hg : Plc Gn "range" jg) (hm : X.mg "range" = none)
    (h : GA X F0 [a, b] ds G fun rs G1 => ∃ lo hi : Int, rs = [.int lo, .int hi] ∧ (-(2 ^ 62) ≤ lo ∧ lo < 2 ^ 62 ∧ -(2 ^ 62) ≤ hi ∧ hi < 2 ^ 62) ∧ ForR X F0 A body i ds G1 lo (hi - lo).toNat) (hs : starEach [a, b] X.env = [(false, eval a X.env), (false, eval b X.env)]) (hs2 : starEach [b] X.env = [(false, eval b X.env)]) (hii : Nat.blt i mm = true) {p2 : Pos} :
    GS X F0 (.For (.Name x px) (.Call (.Name "range" pr) [a, b] [] p2) body [] pos) ds G A :=
  GS.of (ps_for c.po c.calm (pi_range2 (c.gl (n.gl hg)) hm pa_self hs hs2) (c.pg hfn hp (n.loc hp hii)) pss_self) fun σ F H D y z s w => h σ F H _ y z s fun rs G1 vs F1 H1 ⟨lo, n, er, b1, q⟩ e1 s1 r1 => by
    subst er
    obtain ⟨u, us, ev, h1, h2⟩ := RepL.cons_iff.mp r1
    obtain ⟨u2, us2, ev2, h3, h4⟩ := RepL.cons_iff.mp h2
    exact ⟨lo, n, by rw [ev, ev2, rep_int.mp h1, rep_int.mp h3, RepL.nil_iff.mp h4], b1, forR_run q (y.trans e1) (z.ex e1) s1 (w.ex e1)⟩
theorem forL_run {F : Hp} {σ : L2.St} {H : Hp} {D : Ends} {v : V} {p : Addr} {xs : List _} (ev : v = .ref p) (r : Rep X.K F d v) (q : ForL X F0 A body i ds G d xs) (e0 : Ex F0 F) (y : EnvOk X.K F ds σ) (s : Sat H F G) (z : AEok X F A D) :
    ∃ W : Nat → Nat → L2.St → Hp → Prop, (∃ m, W 0 m σ H) ∧ ∀ i' m σ H, W i' m σ H → ((Itl X.K p).stop i' H ∧ D.nx σ H) ∨ ((Itl X.K p).go i' H ∧ ∃ N : L2.St → Hp → Prop, (∀ σ' H', N σ' H' → ∃ m', m' < m ∧ W (i' + 1) m' σ' H') ∧ ∀ x H', (Itl X.K p).yld i' H x H' → gName i x σ H' fun σ2 H2 => wpSs X body { D with nx := N, ct := N, bk := D.nx } σ2 H2) := by
  obtain ⟨Pv, p0, pl, pt, pe⟩ := q
  refine ⟨fun j m σ H => m = xs.length - j ∧ j ≤ xs.length ∧ AtP X F (Pv j) σ H, ⟨xs.length, by simp, Nat.zero_le _, ds, G, F, p0, Ex.refl F, y, s⟩, ?_⟩
  rintro j m σ2 H2 ⟨rfl, hj, ds2, G2, F2, q2, e2, y2, s2⟩
  obtain ⟨p', vs, ev', h1, h2⟩ := pl j ds2 G2 hj q2 F2 H2 v s2 (Rep.ex e2 _ r)
  rw [ev] at ev'
  cases ev'
  by_cases hlt : j < xs.length
  · obtain ⟨u, h3, h4⟩ := h2.get (List.getElem?_eq_getElem hlt)
    refine .inr ⟨⟨vs, u, SqL.of h1, h3⟩, AtP X F (Pv (j + 1)), fun σ' H' p' => ⟨xs.length - (j + 1), by omega, rfl, hlt, p'⟩, fun x H' yl => ?_⟩
    obtain ⟨eH, yl⟩ := yl
    subst eH
    have ex := yl vs (SqL.of h1)
    rw [h3] at ex
    cases ex
    exact pt j xs[j] ds2 G2 (List.getElem?_eq_getElem hlt) q2 (σ2.set i (some u)) F2 _ _ (e0.trans e2) (y2.set h4) s2 (loop_ends z e2)
  · have ej : j = xs.length := by omega
    subst ej
    exact .inl ⟨⟨vs, SqL.of h1, by rw [h2.length]; exact Nat.le_refl _⟩, z.nx ds2 G2 σ2 F2 H2 (pe ds2 G2 q2) e2 y2 s2⟩
theorem xgs_forL {px : Pos} (c : Ctx N sc k X) (hfn : ∀ x, X.fn x = true) (hp : Plc N x i) (hx : Loc sc x) (h : GE X F0 e ds G fun d G1 => ∃ xs, ForL X F0 A body i ds G1 d xs) (hs : ∀ x, foldedSetIterable e X.env x = pure x) :
    GS X F0 (.For (.Name x px) e body [] pos) ds G A :=
  GS.of (ps_for c.po c.calm (pi_list pe_self) (c.pg hfn hp hx) pss_self hs) fun σ F H D y z s w => h σ F H _ y z s fun d G1 v F1 H1 ⟨xs, q⟩ e1 s1 r1 => by
    obtain ⟨Pv, p0, pl, _⟩ := id q
    obtain ⟨p, vs, ev, h1, h2⟩ := pl 0 ds G1 (Nat.zero_le _) p0 F1 H1 v s1 r1
    exact ⟨p, ev, ⟨vs, SqL.of h1⟩, forL_run ev r1 q (y.trans e1) (z.ex e1) s1 (w.ex e1)⟩
theorem forT_run {F : Hp} {σ : L2.St} {H : Hp} {D : Ends} {v : V} {p : Addr} {xs : List _} (ev : v = .ref p) (r : Rep X.K F d v) (q : ForT X F0 A body i ds G d xs) (e0 : Ex F0 F) (y : EnvOk X.K F ds σ) (s : Sat H F G) (z : AEok X F A D) :
    ∃ W : Nat → Nat → L2.St → Hp → Prop, (∃ m, W 0 m σ H) ∧ ∀ i' m σ H, W i' m σ H → ((Itt X.K p).stop i' H ∧ D.nx σ H) ∨ ((Itt X.K p).go i' H ∧ ∃ N : L2.St → Hp → Prop, (∀ σ' H', N σ' H' → ∃ m', m' < m ∧ W (i' + 1) m' σ' H') ∧ ∀ x H', (Itt X.K p).yld i' H x H' → gName i x σ H' fun σ2 H2 => wpSs X body { D with nx := N, ct := N, bk := D.nx } σ2 H2) := by
  obtain ⟨Pv, p0, pl, pt, pe⟩ := q
  refine ⟨fun j m σ H => m = xs.length - j ∧ j ≤ xs.length ∧ AtP X F (Pv j) σ H, ⟨xs.length, by simp, Nat.zero_le _, ds, G, F, p0, Ex.refl F, y, s⟩, ?_⟩
  rintro j m σ2 H2 ⟨rfl, hj, ds2, G2, F2, q2, e2, y2, s2⟩
  obtain ⟨p', vs, ev', h1, h2⟩ := pl j ds2 G2 hj q2 F2 H2 v s2 (Rep.ex e2 _ r)
  rw [ev] at ev'
  cases ev'
  by_cases hlt : j < xs.length
  · obtain ⟨u, h3, h4⟩ := h2.get (List.getElem?_eq_getElem hlt)
    refine .inr ⟨⟨vs, u, h1, h3⟩, AtP X F (Pv (j + 1)), fun σ' H' p' => ⟨xs.length - (j + 1), by omega, rfl, hlt, p'⟩, fun x H' yl => ?_⟩
    obtain ⟨eH, yl⟩ := yl
    subst eH
    have ex := yl vs h1
    rw [h3] at ex
    cases ex
    exact pt j xs[j] ds2 G2 (List.getElem?_eq_getElem hlt) q2 (σ2.set i (some u)) F2 _ _ (e0.trans e2) (y2.set h4) s2 (loop_ends z e2)
  · have ej : j = xs.length := by omega
    subst ej
    exact .inl ⟨⟨vs, h1, by rw [h2.length]; exact Nat.le_refl _⟩, z.nx ds2 G2 σ2 F2 H2 (pe ds2 G2 q2) e2 y2 s2⟩
theorem xgs_forT {px : Pos} (c : Ctx N sc k X) (hfn : ∀ x, X.fn x = true) (hp : Plc N x i) (hx : Loc sc x) (h : GE X F0 e ds G fun d G1 => ∃ xs, ForT X F0 A body i ds G1 d xs) (hs : ∀ x, foldedSetIterable e X.env x = pure x) :
    GS X F0 (.For (.Name x px) e body [] pos) ds G A :=
  GS.of (ps_for c.po c.calm (pi_tup pe_self) (c.pg hfn hp hx) pss_self hs) fun σ F H D y z s w => h σ F H _ y z s fun d G1 v F1 H1 ⟨xs, q⟩ e1 s1 r1 => by
    obtain ⟨Pv, p0, pl, _⟩ := id q
    obtain ⟨p, vs, ev, h1, h2⟩ := pl 0 ds G1 (Nat.zero_le _) p0 F1 H1 v s1 r1
    exact ⟨p, ev, ⟨vs, h1⟩, forT_run ev r1 q (y.trans e1) (z.ex e1) s1 (w.ex e1)⟩
/-! ### a, b = .. -/
theorem xgs_aug {op : Operator} {f : D → DS} {d0 : D} {pos' : Pos} (c : Ctx N sc k X) (hfn : ∀ x, X.fn x = true) (hr : Rdn N x ds i d0) (ht : Tgt N x ds i f) (hx : Loc sc x) (h : GE X F0 e ds G fun d1 G1 => RK2 X F0 (wpR X (inplaceOp op)) d0 d1 G1 fun d2 G2 => A.nx (f d2) G2) : GS X F0 (.AugAssign (.Name x pos') op e pos) ds G A := by
  refine GS.of (ps_aug (i := i) (ti := wpR X (inplaceOp op)) (by rw [c.hN]; exact c.nd) (by rw [c.hN]; exact ht.ok.1) (by rw [c.hsc]; exact hx) pe_self (fun pins s σ H x y v u Q I rx ry h => h pins s σ v u I rx ry) (.inl (hfn x))) fun σ F H D y z s w => ?_
  obtain ⟨v0, h1, h2⟩ := z.at_ i d0 hr.ok.2
  refine ⟨v0, h1, h σ F H _ y z s fun d1 G1 v1 F1 H1 q e1 s1 r1 => q F1 H1 v0 v1 _ (y.trans e1) s1 (Rep.ex e1 _ h2) r1 fun d2 G2 v2 F2 H2 q2 e2 s2 r2 => ?_⟩
  exact w.nx _ G2 (σ.set i (some v2)) F2 H2 q2 (e1.trans e2) (by rw [ht.ok.2 d2]; exact ((z.ex e1).ex e2).set r2) s2
theorem xgs_augN {op : Operator} {f : D → DS} {d0 : D} {pos' : Pos} (c : Ctx N sc k X) (hfn : ∀ x, X.fn x = true) {Gn : List Str} {mm : Nat} (n : NmOk N Gn sc mm) (hr : Rdn N x ds i d0) (ht : Tgt N x ds i f) (h : GE X F0 e ds G fun d1 G1 => RK2 X F0 (wpR X (inplaceOp op)) d0 d1 G1 fun d2 G2 => A.nx (f d2) G2) (hii : Nat.blt i mm = true) : GS X F0 (.AugAssign (.Name x pos') op e pos) ds G A :=
  xgs_aug c hfn hr ht (n.mem ht.ok.1 hii).1 h
/-! ### a built-in's methods -/
def TyK (X : Cx) (T : String) (d : D) (G : Gs) : Prop := ∀ (F H : Hp) (v : V), Sat H F G → Rep X.K F d v → tyV X.K T v H
def RKM (X : Cx) (F0 : Hp) (r : V → List V → Hp → VK → Prop) (d : D) (es : List D) (G : Gs) (K : D → Gs → Prop) : Prop := ∀ (F H : Hp) (x : V) (xs : List V) (Q : VK), Ex F0 F → Sat H F G → Rep X.K F d x → RepL X.K F es xs →
  (∀ d G' v F' H', K d G' → Ex F F' → Sat H' F' G' → Rep X.K F' d v → Q v H') → r x xs H Q
theorem ty_list {xs : List D} (h : LstAt X.K G d xs) : TyK X "list" d G := fun F H v s r => by
  obtain ⟨p, vs, e, h1, _⟩ := h F H v s r
  subst e
  exact .inl ⟨rfl, vs, SqL.of h1⟩
theorem ty_str {z : Str} : TyK X "str" (.str z) G := fun F H v s r => by
  rw [rep_str.mp r]
  exact rfl
theorem xge_bm {T name id : String} {r : V → List V → Hp → VK → Prop} {o : Expr} {es : List Expr} {apos cpos : Pos} (pa : PlainAttrs T) (slot : Slot T name id) (hty : typeOf (.builtin id) = pure (.type "method_descriptor")) (hm : MtR X id r)
    (h : GE X F0 o ds G fun d G1 => TyK X T d G1 ∧ GA X F0 (e :: es) ds G1 fun rs G2 => RKM X F0 r d rs G2 K)
    (hbase : attributeBase o name X.env (eval o X.env) = eval o X.env)
    (hfew : ((backTo cpos (starEach (e :: es) X.env)).all (fun x => !x.1) && (backToKw cpos (keywordEach [] X.env)).all (fun x => x.1.isSome)
      && decide ((e :: es).length + ([] : List Keyword).length + (if ([] : List Keyword).isEmpty then 0 else 1) < 30)) = true)
    (hline : (apos.endLine == cpos.line) = true) (hs : starEach (e :: es) X.env = (false, eval e X.env) :: starEach es X.env) (hplain : (backTo cpos (starEach es X.env)).any (·.1) = false) :
    GE X F0 (.Call (.Attribute o name apos) (e :: es) [] cpos) ds G K :=
  GE.of (pe_bm pa slot hty hm pe_self pa_self hbase hfew hline hs hplain) fun σ F H Q y z s w => h σ F H _ y z s fun d G1 v F1 H1 ⟨ty, q⟩ e1 s1 r1 => ⟨ty F1 H1 v s1 r1,
    q σ F1 H1 _ (y.trans e1) (z.ex e1) s1 fun rs G2 vs F2 H2 q2 e2 s2 r2 => q2 F2 H2 v vs Q ((y.trans e1).trans e2) s2 (Rep.ex e2 _ r1) r2 fun d3 G3 v3 F3 H3 q3 e3 s3 r3 => w d3 G3 v3 F3 H3 q3 ((e1.trans e2).trans e3) s3 r3⟩
theorem xge_bm0 {T name id : String} {r : V → List V → Hp → VK → Prop} {o : Expr} {apos cpos : Pos} (pa : PlainAttrs T) (slot : Slot T name id) (hty : typeOf (.builtin id) = pure (.type "method_descriptor")) (hm : MtR X id r)
    (h : GE X F0 o ds G fun d G1 => TyK X T d G1 ∧ RKM X F0 r d [] G1 K)
    (hbase : attributeBase o name X.env (eval o X.env) = eval o X.env) (hline : (apos.endLine == cpos.line) = true) : GE X F0 (.Call (.Attribute o name apos) [] [] cpos) ds G K :=
  GE.of (pe_bm0 pa slot hty hm pe_self hbase hline) fun σ F H Q y z s w => h σ F H _ y z s fun d G1 v F1 H1 ⟨ty, q⟩ e1 s1 r1 => ⟨ty F1 H1 v s1 r1,
    q F1 H1 v [] Q (y.trans e1) s1 r1 RepL.nil fun d3 G3 v3 F3 H3 q3 e3 s3 r3 => w d3 G3 v3 F3 H3 q3 (e1.trans e3) s3 r3⟩
theorem sz_ok {n : Nat} (h : n < 100000) : n < sizeLine := Nat.lt_of_lt_of_le h (by decide)
/-- xs.append(y) -/
theorem rm_append {p : Addr} {xs : List D} {c : Grp → Gs} (f : Foc G (gl X.K p xs) c) (hl : xs.length < 100000) (q : K .non (c (gl X.K p (xs ++ [d])))) : RKM X F0 rAppend (.raw (.ref p)) [d] G K := fun F H x us Q a s r1 r2 z => by
  obtain ⟨vs, h1, h2⟩ := s.getL f
  obtain ⟨u, w, e1, h3, h4⟩ := RepL.cons_iff.mp r2
  exact ⟨p, vs, u, rep_raw.mp r1, by rw [e1, RepL.nil_iff.mp h4], h1, by rw [← h2.length]; exact sz_ok hl, z _ _ _ F _ q (Ex.refl F) (s.setL f (h2.append (RepL.cons h3 RepL.nil))) (rep_non.mpr rfl)⟩
theorem rm_pop {p : Addr} {xs : List D} {y : D} {c : Grp → Gs} (f : Foc G (gl X.K p (xs ++ [y])) c) (q : K y (c (gl X.K p xs))) : RKM X F0 rPop (.raw (.ref p)) [] G K := fun F H x us Q a s r1 r2 z => by
  obtain ⟨vs, h1, h2⟩ := s.getL f
  obtain ⟨ua, ub, e, h3, h4⟩ := RepL.split h2
  obtain ⟨u, w, e1, h5, h6⟩ := RepL.cons_iff.mp h4
  rw [RepL.nil_iff.mp h6] at e1
  subst e1
  subst e
  refine ⟨p, ua ++ [u], u, rep_raw.mp r1, RepL.nil_iff.mp r2, h1, by simp, ?_⟩
  rw [List.dropLast_concat]
  exact z _ _ _ F _ q (Ex.refl F) (s.setL f h3) h5
theorem rm_reverse {p : Addr} {xs : List D} {c : Grp → Gs} (f : Foc G (gl X.K p xs) c) (q : K .non (c (gl X.K p xs.reverse))) : RKM X F0 rReverse (.raw (.ref p)) [] G K := fun F H x us Q a s r1 r2 z => by
  obtain ⟨vs, h1, h2⟩ := s.getL f
  exact ⟨p, vs, rep_raw.mp r1, RepL.nil_iff.mp r2, h1, z _ _ _ F _ q (Ex.refl F) (s.setL f h2.reverse) (rep_non.mpr rfl)⟩
/-! ### attributes -/
/-- d is an instance of the class at C with these attributes -/
def InsAt (K : PySem.W.Frag) (G : Gs) (d : D) (C : Addr) (fs : List (Str × D)) : Prop := ∀ (F H : Hp) (v : V), Sat H F G → Rep K F d v → ∃ a dx vs, v = .ref a ∧ H a = some (.ins C dx vs) ∧ RepF K F fs vs
theorem ins_own {K : PySem.W.Frag} {p C : Addr} {fs : List (Str × D)} {c : Grp → Gs} (f : Foc G (gi K p C fs) c) : InsAt K G (.raw (.ref p)) C fs := fun F H v s r => by
  obtain ⟨dx, vs, h1, h2⟩ := s.getI f
  exact ⟨p, dx, vs, rep_raw.mp r, h1, h2⟩
theorem repF_zip {K : PySem.W.Frag} {F : Hp} : ∀ {ks : List Str} {es : List D} {vs : List V}, ks.length = vs.length → RepL K F es vs → RepF K F (ks.zip es) (ks.zip vs) := by
  intro ks
  induction ks with
  | nil => intro es vs _ _; exact rfl
  | cons k ks ih =>
    intro es vs h r
    cases vs with
    | nil => cases h
    | cons v vs =>
      cases es with
      | nil => cases (RepL.nil_iff.mp r)
      | cons d es =>
        obtain ⟨h1, h2⟩ := RepL.cons' r
        exact ⟨v, ks.zip vs, rfl, h1, ih (by simpa using h) h2⟩
theorem ins_fr {K : PySem.W.Frag} {C : Addr} {ks : List Str} {es : List D} : InsAt K G (.ins C ks es) C (ks.zip es) := fun F H v s r => by
  obtain ⟨a, dx, vs, h1, h2, h3, h4⟩ := rep_ins.mp r
  exact ⟨a, dx, ks.zip vs, h1, s.ex a _ h2, repF_zip h3 h4⟩
theorem xge_fld {f : Str} (h : GE X F0 e ds G fun d G1 => ∃ C fs x, InsAt X.K G1 d C fs ∧ Cls X.K C ∧ NoAttr X.K C f ∧ fs.lookup f = some x ∧ K x G1) (hb : attributeBase e f X.env (eval e X.env) = eval e X.env) : GE X F0 (.Attribute e f pos) ds G K :=
  GE.of (pe_fld pe_self hb) fun σ F H Q y z s w => h σ F H _ y z s fun d G1 v F1 H1 ⟨C, fs, x, hi, hc, hn, hl, q⟩ e1 s1 r1 => by
    obtain ⟨p, dx, vs, ev, h1, h2⟩ := hi F1 H1 v s1 r1
    obtain ⟨u, h3, h4⟩ := h2.look hl
    exact ⟨p, C, dx, vs, u, ev, h1, hc, hn, h3, w x G1 u F1 H1 q e1 s1 h4⟩
/-- o.f = value, o of one's own -/
theorem xgs_fld {o value : Expr} {f : Str} {pos' : Pos} (h : GE X F0 value ds G fun d1 G1 => GE X F0 o ds G1 fun d2 G2 => ∃ p C fs c, d2 = .raw (.ref p) ∧ Foc G2 (gi X.K p C fs) c ∧ Cls X.K C ∧ NoAttr X.K C f ∧ fs.length < 1000 ∧ A.nx ds (c (gi X.K p C (putD f d1 fs))))
    (hs : swapsWith value (some (.Attribute o f pos')) pos.line X.env = pure false) : GS X F0 (.Assign [.Attribute o f pos'] value pos) ds G A :=
  GS.of (ps_fld pe_self pe_self hs) fun σ F H D y z s w => h σ F H _ y z s fun d1 G1 v1 F1 H1 q1 e1 s1 r1 => q1 σ F1 H1 _ (y.trans e1) (z.ex e1) s1 fun d2 G2 v2 F2 H2 ⟨p, C, fs, c, ed, fo, hc, hn, hl, q⟩ e2 s2 r2 => by
    subst ed
    obtain ⟨dx, vs, h1, h2⟩ := s2.getI fo
    refine ⟨p, C, dx, vs, rep_raw.mp r2, h1, hc, hn, by rw [← h2.length]; exact hl, ?_⟩
    exact w.nx ds _ σ F2 _ q (e1.trans e2) ((z.ex e1).ex e2) (s2.setI fo (RepF.put (Rep.ex e2 _ r1) h2))
end
/-! ### promises -/
abbrev KX := Addr → List (Str × D) → Gs → Prop
abbrev NoX : KX := fun _ _ _ => False
/-- a promise on data: the arguments, the groups that it needs, what is wanted behind, what is wanted of an exception -/
abbrev ASp := List D → Gs → (D → Gs → Prop) → KX → Prop
def XRep (K : PySem.W.Frag) (F H : Hp) (dd : Addr) (fs : List (Str × D)) : Prop := ∃ vs, H dd = some (.xd vs) ∧ RepF K F fs vs
def conc (K : PySem.W.Frag) (a : ASp) : Sp := fun vs H Q E => ∃ (F : Hp) (es : List D) (G G2 : Gs) (KN : D → Gs → Prop) (KE : KX), RepL K F es vs ∧ Sat H F (G ++ G2) ∧ a es G KN KE ∧
  (∀ d G' v F' H', KN d G' → Ex F F' → Sat H' F' (G' ++ G2) → Rep K F' d v → Q v H') ∧ ∀ C fs G' dd F' H', KE C fs G' → Ex F F' → Sat H' F' (G' ++ G2) → XRep K F' H' dd fs → E (.ref C) (some dd) H'
/-- what may be raised here -/
structure Rz (X : Cx) (F0 : Hp) (KE : KX) : Prop where
  ex : ∃ W : WX, Takes X W ∧ ∀ C fs G dd σ F H, KE C fs G → Ex F0 F → Sat H F G → XRep X.K F H dd fs → W (.ref C) (some dd) σ H
def startD (N : List Str) (es : List D) : DS := es.map some ++ List.replicate (N.length - es.length) none
theorem start_env {K : PySem.W.Frag} {F : Hp} {N : List Str} {es : List D} {vs : List V} (r : RepL K F es vs) : EnvOk K F (startD N es) (L2.start N vs) := by
  have hl := r.length
  refine ⟨by unfold startD L2.start; simp [hl], fun i d h => ?_⟩
  unfold startD at h
  by_cases hi : i < es.length
  · rw [List.getElem?_append_left (by simpa using hi), List.getElem?_map] at h
    cases q : es[i]? with
    | none => rw [q] at h; cases h
    | some x =>
      rw [q] at h
      have : some (some x) = some (some d) := h
      cases this
      obtain ⟨v, h1, h2⟩ := r.get q
      refine ⟨v, ?_, h2⟩
      unfold L2.start
      rw [List.getElem?_append_left (by simpa [← hl] using hi), List.getElem?_map, h1]
      rfl
  · rw [List.getElem?_append_right (by simpa using hi)] at h
    rw [List.getElem?_replicate] at h
    split at h
    · cases h
    · cases h
section
variable {P : Program} {w : World} {K : PySem.W.Frag} {mg : Str → Option Value} {base : Heap}
/-- where a def's body ends -/
def bodyA (KN : D → Gs → Prop) (G2 : Gs) : AE := { nx := fun _ G' => ∃ G1, Ent G' (G1 ++ G2) ∧ KN .non G1, rt := fun d G' => ∃ G1, Ent G' (G1 ++ G2) ∧ KN d G1 }
/-- THE RULE for a def: its body, run on data -/
theorem def_ok {x qual : Str} {params : Arguments} {body : List Stmt} {scope : Scope} {dvs : List V} {kws : List (Str × V)} {f : Addr} {fd : FuncData} {N Gn ps : List Str} {k : Nat} {a : ASp} (F : FunD K x qual params body scope dvs kws f fd) (S : FnScope N ps scope) {mm : Nat} (nm : NmOk N Gn scope mm)
    (hlen : ∀ es G KN KE, a es G KN KE → es.length = ps.length)
    (h : ∀ (X : Cx) (F0 : Hp) (es : List D) (G G2 : Gs) (KN : D → Gs → Prop) (KE : KX), X.prog = P → X.w = w → X.K = K → X.mg = mg → X.base = base → Ctx N scope k X → (∀ x, X.fn x = true) → NmOk N Gn scope mm → Rz X F0 (fun C fs G' => ∃ G1, Ent G' (G1 ++ G2) ∧ KE C fs G1) → a es G KN KE →
      GSs X F0 body (startD N es) (G ++ G2) (bodyA KN G2)) : FnOk P w K mg base (L2.CX P w) (k + 1) f fd ps (conc K a) := by
  refine F.ok S ?_ ?_
  · rintro vs H Q E ⟨F, es, G, G2, KN, KE, r, _, ha, _⟩
    rw [← r.length]
    exact hlen es G KN KE ha
  · rintro cdv A outer s H vs Q E hr ⟨F, es, G, G2, KN, KE, r, sat, ha, hQ, hE⟩
    refine ⟨_, pss_self, ?_⟩
    refine h (cxOf (L2.CX P w) P w K mg base N qual scope f cdv A outer s H E) F es G G2 KN KE rfl rfl rfl rfl rfl ⟨rfl, S.nd, rfl, hr, rfl, passes_of rfl⟩ (fun _ => rfl) nm ⟨_, takes_of rfl rfl rfl rfl, ?_⟩ ha (L2.start N vs) F H _ (Ex.refl F) (start_env r) sat ⟨?_, ?_, ?_, ?_⟩
    · rintro C fs G' dd σ F' H' ⟨G1, en, q⟩ e s' xr
      exact hE C fs G1 dd F' H' q e (en.sat s') xr
    · rintro ds' G' σ' F' H' ⟨G1, en, q⟩ e y s'
      exact hQ .non G1 .non F' H' q e (en.sat s') (rep_non.mpr rfl)
    · rintro d G' v F' H' ⟨G1, en, q⟩ e s' r'
      exact hQ d G1 v F' H' q e (en.sat s') r'
    · rintro _ _ _ _ _ q
      exact q.elim
    · rintro _ _ _ _ _ q
      exact q.elim
/-- a def of the module, a method of a class, a class that is made -/
def DefAt (P : Program) (w : World) (K : PySem.W.Frag) (mg : Str → Option Value) (base : Heap) (k : Nat) (x : Str) (a : ASp) : Prop := ∃ f fd ps, mg x = some (.ref f) ∧ PySem.W.keepIn K (.ref f) = true ∧ FnOk P w K mg base (L2.CX P w) k f fd ps (conc K a) ∧ Binds K fd ps []
def MethAt (P : Program) (w : World) (K : PySem.W.Frag) (mg : Str → Option Value) (base : Heap) (k : Nat) (C : Addr) (m : Str) (a : ASp) : Prop := ∃ f fd ps, Meth K C m f ∧ FnOk P w K mg base (L2.CX P w) k f fd ps (conc K a) ∧ Binds K fd ps []
def MakeAt (P : Program) (w : World) (K : PySem.W.Frag) (mg : Str → Option Value) (base : Heap) (k : Nat) (x : Str) (C : Addr) (a : ASp) : Prop := ∃ f fd ps, mg x = some (.ref C) ∧ Mk K C f ∧ FnOk P w K mg base (L2.CX P w) k f fd ps (conc K a) ∧ Binds K fd ps []
/-- a call on data: the groups that the callee wants, the others -/
def CallK (a : ASp) (es : List D) (G : Gs) (K : D → Gs → Prop) : Prop := ∃ Ga Gr, Ent G (Ga ++ Gr) ∧ a es Ga (fun d G' => K d (G' ++ Gr)) NoX
theorem CallK.conc {a : ASp} {es : List D} {G : Gs} {KN : D → Gs → Prop} (h : CallK a es G KN) {F H : Hp} {vs : List V} {Q : VK} (r : RepL K F es vs) (s : Sat H F G) (q : ∀ d G' v F' H', KN d G' → Ex F F' → Sat H' F' G' → Rep K F' d v → Q v H') : conc K a vs H Q E0 := by
  obtain ⟨Ga, Gr, en, ha⟩ := h
  exact ⟨F, es, Ga, Gr, _, _, r, en.sat s, ha, fun d G' v F' H' k e s' r' => q d _ v F' H' k e s' r', fun _ _ _ _ _ _ z => z.elim⟩
end
section
variable {X : Cx} {F0 : Hp} {ds : DS} {G : Gs} {K : D → Gs → Prop} {e a b o : Expr} {es : List Expr} {pos apos p : Pos} {N : List Str} {sc : Scope} {k j : Nat} {A : AE} {x m : Str} {sp : ASp} {C : Addr}
theorem xge_call (c : Ctx N sc k X) (hd : DefAt X.prog X.w X.K X.mg X.base j x sp) (hj : j ≤ k) {Gn : List Str} {jg mm : Nat} (n : NmOk N Gn sc mm) (hg : Plc Gn x jg) (h : GA X F0 (e :: es) ds G fun rs G1 => CallK sp rs G1 K)
    (he : starEach (e :: es) X.env = (false, eval e X.env) :: starEach es X.env) (hpl : (backTo pos (starEach es X.env)).any (·.1) = false) : GE X F0 (.Call (.Name x p) (e :: es) [] pos) ds G K := by
  obtain ⟨f, fd, ps, hm, hk, F, hb⟩ := hd
  refine GE.of (pe_call F (c.room.mono hj) (c.gl (n.gl hg)) hm hk hb .nil passL pa_self (n.db hg) he hpl) fun σ F H Q y z s w => h σ F H _ y z s fun rs G1 vs F1 H1 q e1 s1 r1 => ?_
  show conc X.K sp (vs ++ []) H1 Q E0
  rw [List.append_nil]
  exact q.conc r1 s1 fun d G' v F' H' k' e' s' r' => w d G' v F' H' k' (e1.trans e') s' r'
theorem xge_call0 (c : Ctx N sc k X) (hd : DefAt X.prog X.w X.K X.mg X.base j x sp) (hj : j ≤ k) {Gn : List Str} {jg mm : Nat} (n : NmOk N Gn sc mm) (hg : Plc Gn x jg) (h : CallK sp [] G K) : GE X F0 (.Call (.Name x p) [] [] pos) ds G K := by
  obtain ⟨f, fd, ps, hm, hk, F, hb⟩ := hd
  refine GE.of (pe_call0 F (c.room.mono hj) (c.gl (n.gl hg)) hm hk hb .nil passL (n.db hg)) fun σ F H Q y z s w => ?_
  exact h.conc RepL.nil s w
theorem xge_meth {pl : Sem Bool} (c : Ctx N sc k X) (hc : Cls X.K C) (hd : MethAt X.prog X.w X.K X.mg X.base j C m sp) (hj : j ≤ k) (h : GE X F0 o ds G fun d G1 => ∃ fs, InsAt X.K G1 d C fs ∧ fs.lookup m = none ∧ GA X F0 (e :: es) ds G1 fun rs G2 => (∃ fs, InsAt X.K G2 d C fs) ∧ CallK sp (d :: rs) G2 K)
    (hst : starEach (e :: es) X.env = (false, eval e X.env) :: starEach es X.env) (hpl : (backTo pos (starEach es X.env)).any (·.1) = false)
    (ht : eval (.Call (.Attribute o m apos) (e :: es) [] pos) X.env = (do
      let ov ← eval o X.env
      standAt apos.atName
      let (f, first) ← holding [ov] (getMethod ov m pl)
      callWith pos f first (backTo pos (starEach (e :: es) X.env)) (backToKw pos (keywordEach [] X.env)))) : GE X F0 (.Call (.Attribute o m apos) (e :: es) [] pos) ds G K := by
  obtain ⟨f, fd, ps, hm, F, hb⟩ := hd
  refine GE.of (pe_meth pe_self hc hm F (c.room.mono hj) hb .nil passL pa_self hst hpl ht) fun σ F H Q y z s w => h σ F H _ y z s fun d G1 v F1 H1 ⟨fs, hi, hl, q⟩ e1 s1 r1 => ?_
  obtain ⟨p, dx, vs, ev, h1, h2⟩ := hi F1 H1 v s1 r1
  refine ⟨p, dx, vs, ev, h1, h2.look_none hl, ?_⟩
  refine q σ F1 H1 _ (y.trans e1) (z.ex e1) s1 fun rs G2 us F2 H2 ⟨_, q2⟩ e2 s2 r2 => ?_
  show conc X.K sp (v :: (us ++ [])) H2 Q E0
  rw [List.append_nil]
  exact q2.conc (RepL.cons (Rep.ex e2 _ r1) r2) s2 fun d G' v F' H' k' e' s' r' => w d G' v F' H' k' ((e1.trans e2).trans e') s' r'
theorem xge_meth0 {pl : Sem Bool} (c : Ctx N sc k X) (hc : Cls X.K C) (hd : MethAt X.prog X.w X.K X.mg X.base j C m sp) (hj : j ≤ k) (h : GE X F0 o ds G fun d G1 => ∃ fs, InsAt X.K G1 d C fs ∧ fs.lookup m = none ∧ CallK sp [d] G1 K)
    (ht : eval (.Call (.Attribute o m apos) [] [] pos) X.env = (do
      let ov ← eval o X.env
      standAt apos.atName
      let (f, first) ← holding [ov] (getMethod ov m pl)
      callWith pos f first (backTo pos (starEach [] X.env)) (backToKw pos (keywordEach [] X.env)))) : GE X F0 (.Call (.Attribute o m apos) [] [] pos) ds G K := by
  obtain ⟨f, fd, ps, hm, F, hb⟩ := hd
  refine GE.of (pe_meth0 pe_self hc hm F (c.room.mono hj) hb .nil passL ht) fun σ F H Q y z s w => h σ F H _ y z s fun d G1 v F1 H1 ⟨fs, hi, hl, q⟩ e1 s1 r1 => ?_
  obtain ⟨p, dx, vs, ev, h1, h2⟩ := hi F1 H1 v s1 r1
  refine ⟨p, dx, vs, ev, h1, h2.look_none hl, ?_⟩
  show conc X.K sp (v :: ([] ++ [])) H1 Q E0
  exact q.conc (RepL.cons r1 RepL.nil) s1 fun d G' v F' H' k' e' s' r' => w d G' v F' H' k' (e1.trans e') s' r'
theorem make_sat {F H : Hp} {y dx : Addr} (s : Sat H F G) (hx : H y = none) (hdx : H dx = none) (ne : dx ≠ y) : Ex F (upd F dx (.own y)) ∧ Sat (upd (upd H dx (.own y)) y (.ins C dx [])) (upd F dx (.own y)) (gi X.K y C [] :: G) := by
  have s1 := s.frozen (o := .own y) hdx
  refine ⟨Ex.new (s.ex.free hdx), s1.own (by rw [upd_ne (Ne.symm ne)]; exact hx) (Holds.of ⟨_, rfl, dx, [], rfl, rfl⟩)⟩
/-- C(..) -/
theorem xge_make (c : Ctx N sc k X) (hd : MakeAt X.prog X.w X.K X.mg X.base j x C sp) (hj : j + 1 ≤ k) {Gn : List Str} {jg mm : Nat} (n : NmOk N Gn sc mm) (hg : Plc Gn x jg) (h : GA X F0 (e :: es) ds G fun rs G1 => ∀ y, CallK sp (.raw (.ref y) :: rs) (gi X.K y C [] :: G1) fun d G' => d = .non ∧ K (.raw (.ref y)) G')
    (he : starEach (e :: es) X.env = (false, eval e X.env) :: starEach es X.env) (hpl : (backTo pos (starEach es X.env)).any (·.1) = false) : GE X F0 (.Call (.Name x p) (e :: es) [] pos) ds G K := by
  obtain ⟨f, fd, ps, hm, M, F, hb⟩ := hd
  refine GE.of (pe_make M F (c.room.mono hj) (c.gl (n.gl hg)) hm hb .nil passL pa_self (n.db hg) he hpl) fun σ F H Q y z s w => h σ F H _ y z s fun rs G1 vs F1 H1 q e1 s1 r1 => ?_
  intro y dx hx hdx ne
  obtain ⟨ex, s2⟩ := make_sat (C := C) (X := X) s1 hx hdx ne
  show conc X.K sp (.ref y :: (vs ++ [])) _ _ E0
  rw [List.append_nil]
  exact (q y).conc (RepL.cons (rep_raw.mpr rfl) (RepL.ex ex _ r1)) s2 fun d G' v F' H' k' e' s' r' => ⟨by rw [k'.1] at r'; exact rep_non.mp r', w _ G' _ F' H' k'.2 ((e1.trans ex).trans e') s' (rep_raw.mpr rfl)⟩
theorem xge_make0 (c : Ctx N sc k X) (hd : MakeAt X.prog X.w X.K X.mg X.base j x C sp) (hj : j + 1 ≤ k) {Gn : List Str} {jg mm : Nat} (n : NmOk N Gn sc mm) (hg : Plc Gn x jg) (h : ∀ y, CallK sp [.raw (.ref y)] (gi X.K y C [] :: G) fun d G' => d = .non ∧ K (.raw (.ref y)) G') : GE X F0 (.Call (.Name x p) [] [] pos) ds G K := by
  obtain ⟨f, fd, ps, hm, M, F, hb⟩ := hd
  refine GE.of (pe_make0 M F (c.room.mono hj) (c.gl (n.gl hg)) hm hb .nil passL (n.db hg)) fun σ F H Q y z s w => ?_
  intro y dx hx hdx ne
  obtain ⟨ex, s2⟩ := make_sat (C := C) (X := X) s hx hdx ne
  exact (h y).conc (RepL.cons (rep_raw.mpr rfl) RepL.nil) s2 fun d G' v F' H' k' e' s' r' => ⟨by rw [k'.1] at r'; exact rep_non.mp r', w _ G' _ F' H' k'.2 (ex.trans e') s' (rep_raw.mpr rfl)⟩
/-- one's own instance told as data from now on -/
theorem GTE.freezeI {t : TE} (h : GTE X F0 t ds G fun d G1 => ∃ p C ks es R, d = .raw (.ref p) ∧ Rem G1 (gi X.K p C (ks.zip es)) R ∧ ks.length = es.length ∧ K (.ins C ks es) R) : GTE X F0 t ds G K := fun σ F H Q x y s z =>
  h σ F H _ x y s fun d G1 v F1 H1 ⟨p, C, ks, es, R, e, f, hl, q⟩ e1 s1 r1 => by
    subst e
    obtain ⟨o, F2, e2, ⟨dx, vs, rfl, r2⟩, hp, hf, s2⟩ := s1.freeze f
    have ex1 : Ex F1 (upd F1 p (.ins C dx vs)) := Ex.new hf
    refine z _ _ _ _ _ q (e1.trans ex1) s2 (rep_ins.mpr ?_)
    have r3 : RepF X.K (upd F1 p (.ins C dx vs)) (ks.zip es) vs := r2.ex (e2.trans ex1)
    obtain ⟨ws, ew, hw, rw'⟩ : ∃ ws, vs = ks.zip ws ∧ ks.length = ws.length ∧ RepL X.K (upd F1 p (.ins C dx vs)) es ws := by
      clear q f s2 hf hp r2 s1 r1 ex1
      generalize upd F1 p (.ins C dx vs) = F3 at r3
      induction ks generalizing es vs with
      | nil =>
        cases es with
        | nil => exact ⟨[], r3, rfl, RepL.nil⟩
        | cons _ _ => cases hl
      | cons k ks ih =>
        cases es with
        | nil => cases hl
        | cons d es =>
          obtain ⟨u, r, er, h1, h2⟩ := r3
          obtain ⟨ws, ew, hw, rw'⟩ := ih es (by simpa using hl) r h2
          exact ⟨u :: ws, by rw [er, ew] <;> rfl, by simp [hw], RepL.cons h1 rw'⟩
    exact ⟨p, dx, ws, rep_raw.mp r1, by rw [upd_same, ew], hw, rw'⟩
end
end Ly
/-! Ly5: list comprehensions. -/
namespace Ly
open PySem PySem.Spec PyProof.Rows L2
/-- a comprehension's block over X -/
abbrev Bk (X : Cx) (s : Shared) (H : Hp) (env : Env) (fp : List Addr) (fnv : Str → Bool) : Cx := { X with s_0 := s, H_0 := H, env := env, outer := X.stack, ex := fp, fn := fnv, pn := [], xe := fun _ _ => False }
def Bks (X : Cx) (N : List Str) (sc scope : Scope) (k : Nat) (φ : Cx → Prop) : Prop := ∀ s H env fp fnv, Ctx N (relS scope sc) k (Bk X s H env fp fnv) → φ (Bk X s H env fp fnv)
structure LcOk (N : List Str) (sc scope : Scope) (x : Str) (i : Nat) : Prop where
  blk : BlkOk N sc scope [(x, i)]
  own : scope.names.lookup x = some .local ∨ scope.names.lookup x = some .cell
def lcB (N : List Str) (sc scope : Scope) (x : Str) (i : Nat) : Bool := blkC N sc scope [(x, i)] && (match scope.names.lookup x with | some .local => true | some .cell => true | _ => false)
theorem lcOk_by {N : List Str} {sc scope : Scope} {x : Str} {i : Nat} (h : lcB N sc scope x i = true) : LcOk N sc scope x i := by
  obtain ⟨h1, h2⟩ := Bool.and_eq_true_iff.mp h
  refine ⟨blkOk_by h1, ?_⟩
  split at h2
  · rename_i e; exact .inl e
  · rename_i e; exact .inr e
  · cases h2
/-- the names that are seen in a block -/
def vmB (N Gn : List Str) (sc : Scope) (vis : List Nat) : Bool := (vis.all fun i => match N[i]? with | some x => (match sc.names.lookup x with | some .local => true | some .cell => true | some .free => true | _ => false) && (!(x == ("__debug__" : Str)) && !(x == ("__classdict__" : Str))) | none => false) &&
  nmB N Gn sc 0
structure VmOk (N Gn : List Str) (sc : Scope) (vis : List Nat) : Prop where
  at_ : ∀ i ∈ vis, ∀ x, N[i]? = some x → Vis sc x ∧ (x == ("__debug__" : Str)) = false ∧ (x == ("__classdict__" : Str)) = false
  gl_ : NmOk N Gn sc 0
theorem vmOk_by {N Gn : List Str} {sc : Scope} {vis : List Nat} (h : vmB N Gn sc vis = true) : VmOk N Gn sc vis := by
  obtain ⟨ha, hb⟩ := Bool.and_eq_true_iff.mp h
  refine ⟨fun i hi x e => ?_, nmOk_by hb⟩
  have h1 := List.all_eq_true.mp ha i hi
  rw [e] at h1
  obtain ⟨h2, h3⟩ := Bool.and_eq_true_iff.mp h1
  obtain ⟨h4, h5⟩ := Bool.and_eq_true_iff.mp h3
  refine ⟨?_, by simpa using h4, by simpa using h5⟩
  split at h2
  · rename_i e; exact .inl e
  · rename_i e; exact .inr (.inl e)
  · rename_i e; exact .inr (.inr e)
  · cases h2
section
variable {X : Cx} {F0 : Hp} {ds : DS} {G : Gs} {K : D → Gs → Prop} {e a b elt : Expr} {pos : Pos} {N : List Str} {sc scope : Scope} {k : Nat} {d d' : D} {A : AE} {x : Str} {i : Nat} {ifs : List Expr}
theorem vmOk_of (c : Ctx N sc k X) {Gn : List Str} {vis : List Nat} (h : vmB N Gn sc vis = true) : VmOk N Gn sc vis := vmOk_by h
theorem xge_vm {x : Str} {i : Nat} {d : D} (c : Ctx N sc k X) {Gn : List Str} {vis : List Nat} (n : VmOk N Gn sc vis) (h : Rdn N x ds i d) (q : K d G) (hi : vis.contains i = true) : GE X F0 (.Name x pos) ds G K :=
  have h1 := n.at_ i (by simpa using hi) x h.ok.1
  xge_name c h h1.1 q h1.2.1 h1.2.2
def blkE (X : Cx) (scope : Scope) (e : Expr) : TE := fun σ H Q => ∀ (s0 : Shared) (H0 : Hp) (C : Addr) (cl : List (Str × Addr)) (fp : List Addr), wpE (X.blk s0 H0 scope (compEnvC scope cl C X.env) fp) e σ H Q
def blkT (X : Cx) (scope : Scope) (e : Expr) : TT := fun σ H Q => ∀ (s0 : Shared) (H0 : Hp) (C : Addr) (cl : List (Str × Addr)) (fp : List Addr), wpT (X.blk s0 H0 scope (compEnvC scope cl C X.env) fp) e σ H Q
def blkTs (X : Cx) (scope : Scope) : List Expr → TT
  | [] => tYes
  | [c] => blkT X scope c
  | _ => fun _ _ _ => False
theorem blk_pe (s0 : Shared) (H0 : Hp) (C : Addr) (cl : List (Str × Addr)) (fp : List Addr) : PE (X.blk s0 H0 scope (compEnvC scope cl C X.env) fp) e (blkE X scope e) := ⟨fun pins s σ H Q I h => h s0 H0 C cl fp pins s I⟩
theorem blk_pts (hif : ifs.length ≤ 1) (s0 : Shared) (H0 : Hp) (C : Addr) (cl : List (Str × Addr)) (fp : List Addr) : PTs (X.blk s0 H0 scope (compEnvC scope cl C X.env) fp) ifs (blkTs X scope ifs) := by
  cases ifs with
  | nil => exact pts_nil
  | cons c r =>
    cases r with
    | nil => exact pts_one ⟨fun pins s σ H Q I h => h s0 H0 C cl fp pins s I⟩
    | cons _ _ => simp at hif
theorem Ctx.blk (c : Ctx N sc k X) (s0 : Shared) (H0 : Hp) (C : Addr) (cl : List (Str × Addr)) (fp : List Addr) : Ctx N (relS scope sc) k (X.blk s0 H0 scope (compEnvC scope cl C X.env) fp) :=
  ⟨c.hN, c.nd, by rw [← c.hsc]; rfl, c.room, c.calm, PassesOwn.never⟩
theorem blk_pg (c : Ctx N sc k X) (ok : LcOk N sc scope x i) (s0 : Shared) (H0 : Hp) (C : Addr) (cl : List (Str × Addr)) (fp : List Addr) : PG (X.blk s0 H0 scope (compEnvC scope cl C X.env) fp) (.Name x pos) (gName i) := by
  have hb := c.blk (scope := scope) s0 H0 C cl fp
  refine pg_name (by rw [hb.hN]; exact c.nd) (by rw [hb.hN]; exact ok.blk.ix (x, i) (List.mem_singleton.mpr rfl)) ?_ ?_
  · rw [hb.hsc]
    exact ok.own.elim (fun h => .inl (lookup_relS_keep (by decide) h)) fun h => .inr (lookup_relS_keep (by decide) h)
  · rw [hb.hsc]
    exact ok.own.elim (fun h => .inr (lookup_relS_keep (by decide) h)) fun h => .inl (by show (scope.names.lookup x == some .cell) = true; rw [h]; rfl)
/-- the item's end: what it adds -/
abbrev EltA (K : PySem.W.Frag) (p : Addr) (acc : List D) (Pn : List D → Gs → Prop) : D → Gs → Prop := fun d G' => ∃ G2, Ent G' (gl K p acc :: G2) ∧ acc.length < 100000 ∧ Pn (acc ++ [d]) G2
/-- a turn: the tests, the item -/
def LcTurn (X : Cx) (F0 : Hp) (N : List Str) (sc scope : Scope) (k : Nat) (elt : Expr) (p : Addr) (acc : List D) (Pn : List D → Gs → Prop) (ds : DS) (G : Gs) : List Expr → Prop
  | [] => Bks X N sc scope k fun X' => GE X' F0 elt ds (gl X.K p acc :: G) (EltA X.K p acc Pn)
  | [c] => Bks X N sc scope k fun X' => GT X' F0 c ds (gl X.K p acc :: G) fun b G1 => (b = true → Bks X N sc scope k fun X' => GE X' F0 elt ds G1 (EltA X.K p acc Pn)) ∧ (b = false → ∃ G2, Ent G1 (gl X.K p acc :: G2) ∧ Pn acc G2)
  | _ => False
def LcP (X : Cx) (F : Hp) (p : Addr) (P : List D → Gs → Prop) (H : Hp) : Prop := ∃ acc G' F', P acc G' ∧ Ex F F' ∧ Sat H F' (gl X.K p acc :: G')
theorem elt_run (c : Ctx N sc k X) {p : Addr} {acc : List D} {Pn : List D → Gs → Prop} (h : Bks X N sc scope k fun X' => GE X' F0 elt ds G (EltA X.K p acc Pn)) {F F1 H : Hp} {σ : L2.St} (e0 : Ex F0 F1) (e1 : Ex F F1) (y : EnvOk X.K F1 ds σ) (s : Sat H F1 G) :
    blkE X scope elt σ H fun y H4 => ∃ acc, H4 p = some (.lst acc) ∧ acc.length < sizeLine ∧ LcP X F p Pn (upd H4 p (.lst (acc ++ [y]))) := fun s0 H0 C cl fp =>
  h s0 H0 _ fp _ (c.blk s0 H0 C cl fp) σ F1 H _ e0 y s fun d G' v F' H' ⟨G2, en, hl, q⟩ e' s' r' => by
    have s2 := en.sat s'
    obtain ⟨vs, h1, h2⟩ := s2.getL Foc.here
    exact ⟨vs, h1, by rw [← h2.length]; exact sz_ok hl, _, G2, F', q, e1.trans e', s2.setL Foc.here (h2.append (RepL.cons r' RepL.nil))⟩
theorem turn_run (c : Ctx N sc k X) {p : Addr} {acc : List D} {Pn : List D → Gs → Prop} (h : LcTurn X F0 N sc scope k elt p acc Pn ds G ifs) {F F1 H : Hp} {σ : L2.St} (e0 : Ex F0 F1) (e1 : Ex F F1) (y : EnvOk X.K F1 ds σ) (s : Sat H F1 (gl X.K p acc :: G)) :
    blkTs X scope ifs σ H fun b H3 => if b = true then blkE X scope elt σ H3 fun y H4 => ∃ acc, H4 p = some (.lst acc) ∧ acc.length < sizeLine ∧ LcP X F p Pn (upd H4 p (.lst (acc ++ [y]))) else LcP X F p Pn H3 := by
  match ifs, h with
  | [], h =>
    simp only [blkTs, tYes, if_true]
    exact elt_run c h e0 e1 y s
  | [t], h =>
    refine fun s0 H0 C cl fp => h s0 H0 _ fp _ (c.blk s0 H0 C cl fp) σ F1 H _ e0 y s fun b G1 F2 H2 q e2 s2 => ?_
    cases b with
    | true =>
      rw [if_pos rfl]
      exact elt_run c (q.1 rfl) (e0.trans e2) (e1.trans e2) (y.ex e2) s2
    | false =>
      rw [if_neg (by decide)]
      obtain ⟨G2, en, q2⟩ := q.2 rfl
      exact ⟨acc, G2, F2, q2, e1.trans e2, en.sat s2⟩
theorem wipe1 {σ : L2.St} {i : Nat} : wipe σ [i] = σ.set i none := rfl
theorem wipe_back {σ : L2.St} {i : Nat} {v : V} : wipe ((wipe σ [i]).set i (some v)) [i] = wipe σ [i] := by
  rw [wipe1, wipe1, List.set_set, List.set_set]
/-- what a comprehension comes to: over lo, lo + 1, ..; over a list, a tuple -/
def LcR (X : Cx) (F0 : Hp) (N : List Str) (sc scope : Scope) (k : Nat) (elt : Expr) (ifs : List Expr) (f : D → DS) (G : Gs) (lo : Int) (n : Nat) (K : D → Gs → Prop) : Prop := ∀ p, ∃ Pv : Nat → List D → Gs → Prop, Pv 0 [] G ∧
  (∀ (j : Nat) acc G', j < n → Pv j acc G' → LcTurn X F0 N sc scope k elt p acc (Pv (j + 1)) (f (.int (lo + j))) G' ifs) ∧ ∀ acc G', Pv n acc G' → K (.raw (.ref p)) (gl X.K p acc :: G')
def LcS (At : Gs → D → List D → Prop) (X : Cx) (F0 : Hp) (N : List Str) (sc scope : Scope) (k : Nat) (elt : Expr) (ifs : List Expr) (f : D → DS) (G : Gs) (d : D) (xs : List D) (K : D → Gs → Prop) : Prop := ∀ p, ∃ Pv : Nat → List D → Gs → Prop, Pv 0 [] G ∧
  (∀ (j : Nat) acc G', j ≤ xs.length → Pv j acc G' → At (gl X.K p acc :: G') d xs) ∧
  (∀ (j : Nat) y acc G', xs[j]? = some y → Pv j acc G' → LcTurn X F0 N sc scope k elt p acc (Pv (j + 1)) (f y) G' ifs) ∧ ∀ acc G', Pv xs.length acc G' → K (.raw (.ref p)) (gl X.K p acc :: G')
abbrev LcL (X : Cx) := LcS (LstAt X.K) X
abbrev LcT (X : Cx) := LcS (TupAt X.K) X
theorem lcR_run {lo : Int} {n : Nat} {f : D → DS} (c : Ctx N sc k X) (ht : Tgt N x ds i f) (q : LcR X F0 N sc scope k elt ifs f G lo n K) {F H : Hp} {σ : L2.St} {Q : VK} (e0 : Ex F0 F) (y : EnvOk X.K F ds σ) (s : Sat H F G)
    (z : ∀ d G' v F' H', K d G' → Ex F F' → Sat H' F' G' → Rep X.K F' d v → Q v H') : ∀ D, H D = none → ∃ W : Nat → Nat → Hp → Prop, (∃ m, W 0 m (upd H D (.lst []))) ∧ ∀ j m H, W j m H →
      ((Itr lo n).stop j H ∧ Q (.ref D) H) ∨ ((Itr lo n).go j H ∧ ∃ Nx : Hp → Prop, (∀ H', Nx H' → ∃ m', m' < m ∧ W (j + 1) m' H') ∧ ∀ x H', (Itr lo n).yld j H x H' → gName i x (wipe σ [i]) H' fun σ2 H2 => wipe σ2 [i] = wipe σ [i] ∧ blkTs X scope ifs σ2 H2 fun b H3 =>
        if b = true then blkE X scope elt σ2 H3 fun y H4 => ∃ acc, H4 D = some (.lst acc) ∧ acc.length < sizeLine ∧ Nx (upd H4 D (.lst (acc ++ [y]))) else Nx H3) := fun p hp => by
  obtain ⟨Pv, p0, pt, pe⟩ := q p
  refine lc_range (vs := [i]) (σ := σ) (g := gName i) (fun j => LcP X F p (Pv j)) ⟨[], G, F, p0, Ex.refl F, s.ownL hp RepL.nil⟩ ?_ ?_
  · rintro j H1 hj ⟨acc, G1, F1, q1, e1, s1⟩
    refine ⟨wipe_back, turn_run c (pt j acc G1 hj q1) (e0.trans e1) e1 ?_ s1⟩
    rw [ht.ok.2, wipe1, List.set_set]
    exact (y.ex e1).set (rep_int.mpr rfl)
  · rintro H1 ⟨acc, G1, F1, q1, e1, s1⟩
    exact z _ _ _ F1 H1 (pe acc G1 q1) e1 s1 (rep_raw.mpr rfl)
theorem lcL_run {xs : List _} {f : D → DS} {v : V} {a : Addr} (c : Ctx N sc k X) (ht : Tgt N x ds i f) (ev : v = .ref a) {F H : Hp} (r : Rep X.K F d v) (q : LcL X F0 N sc scope k elt ifs f G d xs K) {σ : L2.St} {Q : VK} (e0 : Ex F0 F) (y : EnvOk X.K F ds σ) (s : Sat H F G)
    (z : ∀ d G' v F' H', K d G' → Ex F F' → Sat H' F' G' → Rep X.K F' d v → Q v H') : ∀ D, H D = none → ∃ W : Nat → Nat → Hp → Prop, (∃ m, W 0 m (upd H D (.lst []))) ∧ ∀ j m H, W j m H →
      ((Itl X.K a).stop j H ∧ Q (.ref D) H) ∨ ((Itl X.K a).go j H ∧ ∃ Nx : Hp → Prop, (∀ H', Nx H' → ∃ m', m' < m ∧ W (j + 1) m' H') ∧ ∀ x H', (Itl X.K a).yld j H x H' → gName i x (wipe σ [i]) H' fun σ2 H2 => wipe σ2 [i] = wipe σ [i] ∧ blkTs X scope ifs σ2 H2 fun b H3 =>
        if b = true then blkE X scope elt σ2 H3 fun y H4 => ∃ acc, H4 D = some (.lst acc) ∧ acc.length < sizeLine ∧ Nx (upd H4 D (.lst (acc ++ [y]))) else Nx H3) := fun p hp => by
  obtain ⟨Pv, p0, pl, pt, pe⟩ := q p
  have s0 := s.ownL (K := X.K) hp RepL.nil
  refine ⟨fun j m H => m = xs.length - j ∧ j ≤ xs.length ∧ LcP X F p (Pv j) H, ⟨xs.length, by simp, Nat.zero_le _, [], G, F, p0, Ex.refl F, s0⟩, ?_⟩
  rintro j m H1 ⟨rfl, hj, acc, G1, F1, q1, e1, s1⟩
  obtain ⟨a', vs, ev', h1, h2⟩ := pl j acc G1 hj q1 F1 H1 v s1 (Rep.ex e1 _ r)
  rw [ev] at ev'
  cases ev'
  by_cases hlt : j < xs.length
  · obtain ⟨u, h3, h4⟩ := h2.get (List.getElem?_eq_getElem hlt)
    refine .inr ⟨⟨vs, u, SqL.of h1, h3⟩, LcP X F p (Pv (j + 1)), fun H' p' => ⟨xs.length - (j + 1), by omega, rfl, hlt, p'⟩, fun x H' yl => ?_⟩
    obtain ⟨eH, yl⟩ := yl
    subst eH
    have ex := yl vs (SqL.of h1)
    rw [h3] at ex
    cases ex
    refine ⟨wipe_back, turn_run c (pt j xs[j] acc G1 (List.getElem?_eq_getElem hlt) q1) (e0.trans e1) e1 ?_ s1⟩
    rw [ht.ok.2, wipe1, List.set_set]
    exact (y.ex e1).set h4
  · have ej : j = xs.length := by omega
    subst ej
    exact .inl ⟨⟨vs, SqL.of h1, by rw [h2.length]; exact Nat.le_refl _⟩, z _ _ _ F1 H1 (pe acc G1 q1) e1 s1 (rep_raw.mpr rfl)⟩
theorem lcT_run {xs : List _} {f : D → DS} {v : V} {a : Addr} (c : Ctx N sc k X) (ht : Tgt N x ds i f) (ev : v = .ref a) {F H : Hp} (r : Rep X.K F d v) (q : LcT X F0 N sc scope k elt ifs f G d xs K) {σ : L2.St} {Q : VK} (e0 : Ex F0 F) (y : EnvOk X.K F ds σ) (s : Sat H F G)
    (z : ∀ d G' v F' H', K d G' → Ex F F' → Sat H' F' G' → Rep X.K F' d v → Q v H') : ∀ D, H D = none → ∃ W : Nat → Nat → Hp → Prop, (∃ m, W 0 m (upd H D (.lst []))) ∧ ∀ j m H, W j m H →
      ((Itt X.K a).stop j H ∧ Q (.ref D) H) ∨ ((Itt X.K a).go j H ∧ ∃ Nx : Hp → Prop, (∀ H', Nx H' → ∃ m', m' < m ∧ W (j + 1) m' H') ∧ ∀ x H', (Itt X.K a).yld j H x H' → gName i x (wipe σ [i]) H' fun σ2 H2 => wipe σ2 [i] = wipe σ [i] ∧ blkTs X scope ifs σ2 H2 fun b H3 =>
        if b = true then blkE X scope elt σ2 H3 fun y H4 => ∃ acc, H4 D = some (.lst acc) ∧ acc.length < sizeLine ∧ Nx (upd H4 D (.lst (acc ++ [y]))) else Nx H3) := fun p hp => by
  obtain ⟨Pv, p0, pl, pt, pe⟩ := q p
  have s0 := s.ownL (K := X.K) hp RepL.nil
  refine ⟨fun j m H => m = xs.length - j ∧ j ≤ xs.length ∧ LcP X F p (Pv j) H, ⟨xs.length, by simp, Nat.zero_le _, [], G, F, p0, Ex.refl F, s0⟩, ?_⟩
  rintro j m H1 ⟨rfl, hj, acc, G1, F1, q1, e1, s1⟩
  obtain ⟨a', vs, ev', h1, h2⟩ := pl j acc G1 hj q1 F1 H1 v s1 (Rep.ex e1 _ r)
  rw [ev] at ev'
  cases ev'
  by_cases hlt : j < xs.length
  · obtain ⟨u, h3, h4⟩ := h2.get (List.getElem?_eq_getElem hlt)
    refine .inr ⟨⟨vs, u, h1, h3⟩, LcP X F p (Pv (j + 1)), fun H' p' => ⟨xs.length - (j + 1), by omega, rfl, hlt, p'⟩, fun x H' yl => ?_⟩
    obtain ⟨eH, yl⟩ := yl
    subst eH
    have ex := yl vs h1
    rw [h3] at ex
    cases ex
    refine ⟨wipe_back, turn_run c (pt j xs[j] acc G1 (List.getElem?_eq_getElem hlt) q1) (e0.trans e1) e1 ?_ s1⟩
    rw [ht.ok.2, wipe1, List.set_set]
    exact (y.ex e1).set h4
  · have ej : j = xs.length := by omega
    subst ej
    exact .inl ⟨⟨vs, h1, by rw [h2.length]; exact Nat.le_refl _⟩, z _ _ _ F1 H1 (pe acc G1 q1) e1 s1 (rep_raw.mpr rfl)⟩
/-! the three sources, as what a comprehension wants -/
abbrev tLcA (X : Cx) (scope : Scope) (elt : Expr) (ifs : List Expr) (i : Nat) (wi : TI) : TE := tLc wi (gName i) (blkTs X scope ifs) (blkE X scope elt) [i]
theorem xgt_lcR1 {f : D → DS} (c : Ctx N sc k X) (ht : Tgt N x ds i f) (h : GA X F0 [e] ds G fun rs G1 => ∃ hi : Int, rs = [.int hi] ∧ (-(2 ^ 62) ≤ hi ∧ hi < 2 ^ 62) ∧ LcR X F0 N sc scope k elt ifs f G1 0 hi.toNat K) : GTE X F0 (tLcA X scope elt ifs i (iRng1 (wpA X [e]))) ds G K := fun σ F H Q y z s w =>
  h σ F H _ y z s fun rs G1 vs F1 H1 ⟨n, er, ⟨b1, b2⟩, q⟩ e1 s1 r1 => by
    subst er
    obtain ⟨u, us, ev, h1, h2⟩ := RepL.cons_iff.mp r1
    exact ⟨n, by rw [ev, rep_int.mp h1, RepL.nil_iff.mp h2], b1, b2, lcR_run c ht q (y.trans e1) (z.ex e1) s1 fun d3 G3 v3 F3 H3 q3 e3 s3 r3 => w d3 G3 v3 F3 H3 q3 (e1.trans e3) s3 r3⟩
theorem xgt_lcR2 {f : D → DS} (c : Ctx N sc k X) (ht : Tgt N x ds i f) (h : GA X F0 [a, b] ds G fun rs G1 => ∃ lo hi : Int, rs = [.int lo, .int hi] ∧ (-(2 ^ 62) ≤ lo ∧ lo < 2 ^ 62 ∧ -(2 ^ 62) ≤ hi ∧ hi < 2 ^ 62) ∧ LcR X F0 N sc scope k elt ifs f G1 lo (hi - lo).toNat K) : GTE X F0 (tLcA X scope elt ifs i (iRng2 (wpA X [a, b]))) ds G K := fun σ F H Q y z s w =>
  h σ F H _ y z s fun rs G1 vs F1 H1 ⟨lo, n, er, b1, q⟩ e1 s1 r1 => by
    subst er
    obtain ⟨u, us, ev, h1, h2⟩ := RepL.cons_iff.mp r1
    obtain ⟨u2, us2, ev2, h3, h4⟩ := RepL.cons_iff.mp h2
    exact ⟨lo, n, by rw [ev, ev2, rep_int.mp h1, rep_int.mp h3, RepL.nil_iff.mp h4], b1, lcR_run c ht q (y.trans e1) (z.ex e1) s1 fun d3 G3 v3 F3 H3 q3 e3 s3 r3 => w d3 G3 v3 F3 H3 q3 (e1.trans e3) s3 r3⟩
theorem xgt_lcL {f : D → DS} (c : Ctx N sc k X) (ht : Tgt N x ds i f) (h : GE X F0 e ds G fun d G1 => ∃ xs, LstAt X.K G1 d xs ∧ LcL X F0 N sc scope k elt ifs f G1 d xs K) : GTE X F0 (tLcA X scope elt ifs i (iList X.K (wpE X e))) ds G K := fun σ F H Q y z s w =>
  h σ F H _ y z s fun d G1 v F1 H1 ⟨xs, la, q⟩ e1 s1 r1 => by
    obtain ⟨p, vs, ev, h1, h2⟩ := la F1 H1 v s1 r1
    exact ⟨p, ev, ⟨vs, SqL.of h1⟩, lcL_run c ht ev r1 q (y.trans e1) (z.ex e1) s1 fun d3 G3 v3 F3 H3 q3 e3 s3 r3 => w d3 G3 v3 F3 H3 q3 (e1.trans e3) s3 r3⟩
theorem xgt_lcT {f : D → DS} (c : Ctx N sc k X) (ht : Tgt N x ds i f) (h : GE X F0 e ds G fun d G1 => ∃ xs, TupAt X.K G1 d xs ∧ LcT X F0 N sc scope k elt ifs f G1 d xs K) : GTE X F0 (tLcA X scope elt ifs i (iTup X.K (wpE X e))) ds G K := fun σ F H Q y z s w =>
  h σ F H _ y z s fun d G1 v F1 H1 ⟨xs, la, q⟩ e1 s1 r1 => by
    obtain ⟨p, vs, ev, h1, h2⟩ := la F1 H1 v s1 r1
    exact ⟨p, ev, ⟨vs, h1⟩, lcT_run c ht ev r1 q (y.trans e1) (z.ex e1) s1 fun d3 G3 v3 F3 H3 q3 e3 s3 r3 => w d3 G3 v3 F3 H3 q3 (e1.trans e3) s3 r3⟩
/-- a source, as it is read off the text -/
structure Src (X : Cx) (tg iter : Expr) (wi : TI) : Prop where
  pi : PI X tg iter wi
  hs : ∀ x, foldedSetIterable iter X.env x = pure x
theorem src_R1 {pr p2 px : Pos} (c : Ctx N sc k X) {Gn : List Str} {jg mm : Nat} {N' : List Str} (n : NmOk N' Gn sc mm) (hg : Plc Gn "range" jg) (hm : X.mg "range" = none) (hs : starEach [e] X.env = [(false, eval e X.env)]) (hf : ∀ x, foldedSetIterable (.Call (.Name "range" pr) [e] [] p2) X.env x = pure x) : Src X (.Name x px) (.Call (.Name "range" pr) [e] [] p2) (iRng1 (wpA X [e])) := ⟨pi_range1 (c.gl (n.gl hg)) hm pa_self hs, hf⟩
theorem src_R2 {pr p2 px : Pos} (c : Ctx N sc k X) {Gn : List Str} {jg mm : Nat} {N' : List Str} (n : NmOk N' Gn sc mm) (hg : Plc Gn "range" jg) (hm : X.mg "range" = none) (hs : starEach [a, b] X.env = [(false, eval a X.env), (false, eval b X.env)]) (hs2 : starEach [b] X.env = [(false, eval b X.env)]) (hf : ∀ x, foldedSetIterable (.Call (.Name "range" pr) [a, b] [] p2) X.env x = pure x) : Src X (.Name x px) (.Call (.Name "range" pr) [a, b] [] p2) (iRng2 (wpA X [a, b])) := ⟨pi_range2 (c.gl (n.gl hg)) hm pa_self hs hs2, hf⟩
theorem src_L {px : Pos} (hf : ∀ x, foldedSetIterable e X.env x = pure x) : Src X (.Name x px) e (iList X.K (wpE X e)) := ⟨pi_list pe_self, hf⟩
theorem src_T {px : Pos} (hf : ∀ x, foldedSetIterable e X.env x = pure x) : Src X (.Name x px) e (iTup X.K (wpE X e)) := ⟨pi_tup pe_self, hf⟩
/-- [.. for x in ..] -/
theorem xge_lc {px : Pos} {wi : TI} (c : Ctx N sc k X) (ok : LcOk N sc scope x i) (src : Src X (.Name x px) e wi) (hif : ifs.length ≤ 1) (h : GTE X F0 (tLcA X scope elt ifs i wi) ds G K) : GE X F0 (.ListComp elt [⟨.Name x px, e, ifs, 0⟩] scope pos) ds G K :=
  GE.of (pe_lc (own := [(x, i)]) c.calm (by rw [c.hN]; exact c.nd) src.pi (by rw [c.hN, c.hsc]; exact ok.blk) (fun s H C cl fp => blk_pg c ok s H C cl fp) (fun s H C cl fp => blk_pts hif s H C cl fp) (fun s H C cl fp => blk_pe s H C cl fp) src.hs) h
/-- y = [.. for x in ..] on one line -/
theorem xgs_setLc {px py spos : Pos} {wi : TI} {y : Str} {j : Nat} {f : D → DS} (c : Ctx N sc k X) (hy : Tgt N y ds j f) (hyl : sc.names.lookup y = some .local) (hk : sc.kind = .function) (hln : (py.line == pos.line) = true) (ha : (scope.names.any fun (n, k) => n == y && (k == .local || k == .cell)) = false) (ok : LcOk N sc scope x i) (src : Src X (.Name x px) e wi) (hif : ifs.length ≤ 1)
    (h : GTE X F0 (tLcA X scope elt ifs i wi) ds G fun d G1 => A.nx (f d) G1) : GS X F0 (.Assign [.Name y py] (.ListComp elt [⟨.Name x px, e, ifs, 0⟩] scope pos) spos) ds G A :=
  GS.of (ps_setLc (own := [(x, i)]) (i := j) c.calm (by rw [c.hN]; exact c.nd) (by rw [c.hN]; exact hy.ok.1) (by rw [c.hsc]; exact hyl) (sw_true (by rw [c.hsc]; exact hk) (by rw [c.hsc]; exact hyl) hln ha) src.pi (by rw [c.hN, c.hsc]; exact ok.blk) (fun s H C cl fp => blk_pg c ok s H C cl fp) (fun s H C cl fp => blk_pts hif s H C cl fp) (fun s H C cl fp => blk_pe s H C cl fp) src.hs) fun σ F H D x2 z s w => h σ F H _ x2 z s fun d G' v F' H' q e1 s1 r1 => by
    refine w.nx _ G' (σ.set j (some v)) F' H' q e1 ?_ s1
    rw [hy.ok.2 d]
    exact (z.ex e1).set r1
end
end Ly
/-! Ly6: in, index, insert, +, *, slices, isinstance. -/
namespace Ly
open PySem PySem.Spec PyProof.Rows L2
section
variable {X : Cx} {F0 : Hp} {ds : DS} {G : Gs} {K : D → Gs → Prop} {e a b : Expr} {pos : Pos} {N : List Str} {sc : Scope} {k : Nat} {d d' : D}
theorem nm_In {b : Expr} (h : behindInMarks .In b = false) : behindInMarks .In b = false := h
/-- what a list of data without addresses is -/
theorem repL_str {K : PySem.W.Frag} {F : Hp} : ∀ {zs : List Str} {vs : List V}, RepL K F (zs.map D.str) vs → vs = zs.map V.str
  | [], vs, h => RepL.nil_iff.mp h
  | z :: zs, vs, h => by
    obtain ⟨v, r, e, h1, h2⟩ := RepL.cons_iff.mp h
    rw [e, rep_str.mp h1, repL_str h2]
    rfl
theorem repL_int {K : PySem.W.Frag} {F : Hp} : ∀ {zs : List Int} {vs : List V}, RepL K F (zs.map D.int) vs → vs = zs.map V.int
  | [], vs, h => RepL.nil_iff.mp h
  | z :: zs, vs, h => by
    obtain ⟨v, r, e, h1, h2⟩ := RepL.cons_iff.mp h
    rw [e, rep_int.mp h1, repL_int h2]
    rfl
theorem repL_bl {K : PySem.W.Frag} {F : Hp} : ∀ {zs : List Bool} {vs : List V}, RepL K F (zs.map D.bl) vs → vs = zs.map V.bl
  | [], vs, h => RepL.nil_iff.mp h
  | z :: zs, vs, h => by
    obtain ⟨v, r, e, h1, h2⟩ := RepL.cons_iff.mp h
    rw [e, rep_bl.mp h1, repL_bl h2]
    rfl
theorem inV_str {z : Str} {zs : List Str} : inV (.str z) (zs.map V.str) = decide (z ∈ zs) := by
  unfold inV
  rw [List.any_map, Bool.eq_iff_iff, List.any_eq_true, decide_eq_true_iff]
  constructor
  · rintro ⟨x, hx, q⟩
    have : (x == z) = true := q
    rw [← eq_of_beq this]
    exact hx
  · exact fun h => ⟨z, h, beq_self_eq_true z⟩
theorem inV_int {z : Int} {zs : List Int} : inV (.int z) (zs.map V.int) = decide (z ∈ zs) := by
  unfold inV
  rw [List.any_map, Bool.eq_iff_iff, List.any_eq_true, decide_eq_true_iff]
  constructor
  · rintro ⟨x, hx, q⟩
    have : (x == z) = true := q
    rw [← eq_of_beq this]
    exact hx
  · exact fun h => ⟨z, h, beq_self_eq_true z⟩
theorem inV_bl {z : Bool} {zs : List Bool} : inV (.bl z) (zs.map V.bl) = decide (z ∈ zs) := by
  unfold inV
  rw [List.any_map, Bool.eq_iff_iff, List.any_eq_true, decide_eq_true_iff]
  constructor
  · rintro ⟨x, hx, q⟩
    have : (x == z) = true := q
    rw [← eq_of_beq this]
    exact hx
  · exact fun h => ⟨z, h, beq_self_eq_true z⟩
theorem flat_all_str {zs : List Str} : (zs.map V.str).all flatV = true := by rw [List.all_map]; exact List.all_eq_true.mpr fun _ _ => rfl
theorem flat_all_int {zs : List Int} : (zs.map V.int).all flatV = true := by rw [List.all_map]; exact List.all_eq_true.mpr fun _ _ => rfl
theorem flat_all_bl {zs : List Bool} : (zs.map V.bl).all flatV = true := by rw [List.all_map]; exact List.all_eq_true.mpr fun _ _ => rfl
theorem rk_inS {z : Str} {zs : List Str} (h : SeqAt X.K G d' (zs.map D.str)) (q : K (.bl (decide (z ∈ zs))) G) : RK2 X F0 (wpR X (compareOp .In)) (.str z) d' G K := RK2.of op_in_seq fun F H x y Q a s r1 r2 w => by
  obtain ⟨p, vs, ev, h1, h2⟩ := h.sq s r2
  have e := repL_str h2
  subst e
  exact ⟨p, _, ev, h1, by rw [rep_str.mp r1]; rfl, flat_all_str, by rw [rep_str.mp r1, if_neg (by decide), inV_str]; exact w _ _ _ F H q (Ex.refl F) s (rep_bl.mpr rfl)⟩
theorem rk_ninS {z : Str} {zs : List Str} (h : SeqAt X.K G d' (zs.map D.str)) (q : K (.bl (!decide (z ∈ zs))) G) : RK2 X F0 (wpR X (compareOp .NotIn)) (.str z) d' G K := RK2.of op_notIn_seq fun F H x y Q a s r1 r2 w => by
  obtain ⟨p, vs, ev, h1, h2⟩ := h.sq s r2
  have e := repL_str h2
  subst e
  exact ⟨p, _, ev, h1, by rw [rep_str.mp r1]; rfl, flat_all_str, by rw [rep_str.mp r1, if_pos rfl, inV_str]; exact w _ _ _ F H q (Ex.refl F) s (rep_bl.mpr rfl)⟩
theorem rk_inI {z : Int} {zs : List Int} (h : SeqAt X.K G d' (zs.map D.int)) (q : K (.bl (decide (z ∈ zs))) G) : RK2 X F0 (wpR X (compareOp .In)) (.int z) d' G K := RK2.of op_in_seq fun F H x y Q a s r1 r2 w => by
  obtain ⟨p, vs, ev, h1, h2⟩ := h.sq s r2
  have e := repL_int h2
  subst e
  exact ⟨p, _, ev, h1, by rw [rep_int.mp r1]; rfl, flat_all_int, by rw [rep_int.mp r1, if_neg (by decide), inV_int]; exact w _ _ _ F H q (Ex.refl F) s (rep_bl.mpr rfl)⟩
theorem rk_ninI {z : Int} {zs : List Int} (h : SeqAt X.K G d' (zs.map D.int)) (q : K (.bl (!decide (z ∈ zs))) G) : RK2 X F0 (wpR X (compareOp .NotIn)) (.int z) d' G K := RK2.of op_notIn_seq fun F H x y Q a s r1 r2 w => by
  obtain ⟨p, vs, ev, h1, h2⟩ := h.sq s r2
  have e := repL_int h2
  subst e
  exact ⟨p, _, ev, h1, by rw [rep_int.mp r1]; rfl, flat_all_int, by rw [rep_int.mp r1, if_pos rfl, inV_int]; exact w _ _ _ F H q (Ex.refl F) s (rep_bl.mpr rfl)⟩
theorem rk_inB {z : Bool} {zs : List Bool} (h : SeqAt X.K G d' (zs.map D.bl)) (q : K (.bl (decide (z ∈ zs))) G) : RK2 X F0 (wpR X (compareOp .In)) (.bl z) d' G K := RK2.of op_in_seq fun F H x y Q a s r1 r2 w => by
  obtain ⟨p, vs, ev, h1, h2⟩ := h.sq s r2
  have e := repL_bl h2
  subst e
  exact ⟨p, _, ev, h1, by rw [rep_bl.mp r1]; rfl, flat_all_bl, by rw [rep_bl.mp r1, if_neg (by decide), inV_bl]; exact w _ _ _ F H q (Ex.refl F) s (rep_bl.mpr rfl)⟩
theorem rk_ninB {z : Bool} {zs : List Bool} (h : SeqAt X.K G d' (zs.map D.bl)) (q : K (.bl (!decide (z ∈ zs))) G) : RK2 X F0 (wpR X (compareOp .NotIn)) (.bl z) d' G K := RK2.of op_notIn_seq fun F H x y Q a s r1 r2 w => by
  obtain ⟨p, vs, ev, h1, h2⟩ := h.sq s r2
  have e := repL_bl h2
  subst e
  exact ⟨p, _, ev, h1, by rw [rep_bl.mp r1]; rfl, flat_all_bl, by rw [rep_bl.mp r1, if_pos rfl, inV_bl]; exact w _ _ _ F H q (Ex.refl F) s (rep_bl.mpr rfl)⟩
/-- xs.index(i) of ints -/
theorem rm_index {zs : List Int} {z : Int} {j : Nat} (h : LstAt X.K G d (zs.map D.int)) (hj : zs[j]? = some z) (hf : ∀ m, m < j → zs[m]? ≠ some z) (q : K (.int (j : Nat)) G) : RKM X F0 (rIndex X.K) d [.int z] G K := fun F H x us Q a s r1 r2 w => by
  obtain ⟨u, t, e1, h3, h4⟩ := RepL.cons_iff.mp r2
  obtain ⟨p, vs, ev, h1, h2⟩ := h F H x s r1
  have e := repL_int h2
  subst e
  refine ⟨p, _, .int z, j, .int z, ev, by rw [e1, rep_int.mp h3, RepL.nil_iff.mp h4], SqL.of h1, rfl, flat_all_int, by rw [List.getElem?_map, hj]; rfl, beq_self_eq_true z, fun m z' hm hz => ?_, w _ _ _ F H q (Ex.refl F) s (rep_int.mpr rfl)⟩
  rw [List.getElem?_map] at hz
  cases q2 : zs[m]? with
  | none => rw [q2] at hz; cases hz
  | some y =>
    rw [q2] at hz
    cases hz
    show (y == z) = false
    refine beq_eq_false_iff_ne.mpr fun q3 => hf m hm (by rw [q2, q3])
/-- xs.insert(i, y) -/
theorem rm_insert {p : Addr} {xs : List D} {i : Int} {c : Grp → Gs} (f : Foc G (gl X.K p xs) c) (hl : xs.length < 100000) (hi : 0 ≤ i ∧ i < 2 ^ 63) (q : K .non (c (gl X.K p (xs.take i.toNat ++ [d] ++ xs.drop i.toNat)))) :
    RKM X F0 (fun x vs H Q => ∃ (l : Addr) (xs : List V) (i : Int) (y : V), x = .ref l ∧ vs = [.int i, y] ∧ H l = some (.lst xs) ∧ xs.length < sizeLine ∧ 0 ≤ i ∧ i < 2 ^ 63 ∧ Q .non (upd H l (.lst (xs.take i.toNat ++ [y] ++ xs.drop i.toNat)))) (.raw (.ref p)) [.int i, d] G K := fun F H x us Q a s r1 r2 z => by
  obtain ⟨vs, h1, h2⟩ := s.getL f
  obtain ⟨u, w, e1, h3, h4⟩ := RepL.cons_iff.mp r2
  obtain ⟨u2, w2, e2, h5, h6⟩ := RepL.cons_iff.mp h4
  exact ⟨p, vs, i, u2, rep_raw.mp r1, by rw [e1, e2, rep_int.mp h3, RepL.nil_iff.mp h6], h1, by rw [← h2.length]; exact sz_ok hl, hi.1, hi.2, z _ _ _ F _ q (Ex.refl F) (s.setL f ((RepL.append (RepL.append (h2.take _) (RepL.cons h5 RepL.nil)) (h2.drop _)))) (rep_non.mpr rfl)⟩
/-- xs + ys: a new list of one's own -/
theorem rk_cat {xs ys : List D} (h : LstAt X.K G d xs) (h' : LstAt X.K G d' ys) (hl : xs.length + ys.length ≤ 100000) (q : ∀ p, K (.raw (.ref p)) (gl X.K p (xs ++ ys) :: G)) : RK2 X F0 (wpR X (binaryOp .Add)) d d' G K := RK2.of op_cat fun F H x y Q a s r1 r2 z => by
  obtain ⟨p1, vs, e1, h1, h2⟩ := h F H x s r1
  obtain ⟨p2, us, e2, h3, h4⟩ := h' F H y s r2
  exact ⟨p1, p2, vs, us, e1, e2, h1, h3, by rw [← h2.length, ← h4.length]; exact Nat.le_trans hl (by decide), fun p hp => z _ _ _ F _ (q p) (Ex.refl F) (s.ownL hp (h2.append h4)) (rep_raw.mpr rfl)⟩
theorem repL_flat {K : PySem.W.Frag} {F : Hp} {xs : List D} {vs : List V} (h : RepL K F xs vs) : ∀ n, RepL K F (List.replicate n xs).flatten (List.replicate n vs).flatten
  | 0 => RepL.nil
  | n + 1 => by
    rw [List.replicate_succ, List.flatten_cons, List.replicate_succ, List.flatten_cons]
    exact h.append (repL_flat h n)
/-- [x] * n -/
theorem rk_rep {xs : List D} {i : Int} (h : LstAt X.K G d xs) (hi : -(2 ^ 63) ≤ i ∧ i < 2 ^ 63) (hl : xs.length * i.toNat ≤ 100000) (q : ∀ p, K (.raw (.ref p)) (gl X.K p (List.replicate i.toNat xs).flatten :: G)) : RK2 X F0 (wpR X (binaryOp .Mult)) d (.int i) G K := RK2.of op_rep fun F H x y Q a s r1 r2 z => by
  obtain ⟨p1, vs, e1, h1, h2⟩ := h F H x s r1
  exact ⟨p1, i, vs, e1, rep_int.mp r2, h1, hi.1, hi.2, by rw [← h2.length]; exact Nat.le_trans hl (by decide), fun p hp => z _ _ _ F _ (q p) (Ex.refl F) (s.ownL hp (repL_flat h2 _)) (rep_raw.mpr rfl)⟩
/-! slices with a lower end: t[n:], n in range and not 0 -/
theorem sIx_nat {l n d : Nat} (h : n ≤ l) : HT.sIx l d (some (n : Int)) = n := by
  unfold HT.sIx
  simp
  split <;> omega
theorem cutV_lo {vs : List V} {n : Nat} (h : n ≤ vs.length) : cutV vs (some (n : Int)) none = vs.drop n := by
  unfold cutV
  have e1 : HT.sIx vs.length 0 (some (n : Int)) = n := sIx_nat (by omega)
  have e2 : HT.sIx vs.length vs.length none = vs.length := by unfold HT.sIx; simp
  rw [e1, e2]
  exact List.take_of_length_le (by rw [List.length_drop]; exact Nat.le_refl _)
theorem xge_cutT {p2 : Pos} {lo : Expr} (h : GE X F0 e ds G fun d1 G1 => GE X F0 lo ds G1 fun d2 G2 => ∃ xs n, TupAt X.K G2 d1 xs ∧ d2 = .int (n : Nat) ∧ 0 < n ∧ n ≤ xs.length ∧ K (.tup (xs.drop n)) G2) : GE X F0 (.Subscript e (.Slice (some lo) none none p2) pos) ds G K :=
  GE.of (pe_slice sl_tup pe_self (po_some pe_self) po_none) fun σ F H Q x y s z => h σ F H _ x y s fun d1 G1 v1 F1 H1 h1 e1 s1 r1 => h1 σ F1 H1 _ (x.trans e1) (y.ex e1) s1 fun d2 G2 v2 F2 H2 ⟨xs, n, ht, ed, hn, hl, q⟩ e2 s2 r2 => by
    subst ed
    obtain ⟨p, vs, ev, h3, h4⟩ := ht F2 H2 v1 s2 (Rep.ex e2 _ r1)
    have hlen := h4.length
    refine ⟨(n : Int), rep_int.mp r2, p, vs, ev, h3, fun hw => ?_, fun q1 hq => ?_⟩
    · have e1 : HT.sIx vs.length 0 (some (n : Int)) = n := sIx_nat (by omega)
      rw [e1] at hw
      exact absurd hw.1 (by omega)
    · have ex := Ex.new (o := HO.tup (cutV vs (some (n : Int)) none)) (s2.ex.free hq)
      refine z _ _ _ (upd F2 q1 _) _ q ((e1.trans e2).trans ex) (s2.frozen hq) (rep_tup.mpr ⟨q1, _, rfl, upd_same, ?_⟩)
      rw [cutV_lo (by omega)]
      rw [cutV_lo (by omega)] at ex
      exact RepL.ex ex _ (h4.drop n)
theorem xge_cutL {p2 : Pos} {lo : Expr} (h : GE X F0 e ds G fun d1 G1 => GE X F0 lo ds G1 fun d2 G2 => ∃ xs n, LstAt X.K G2 d1 xs ∧ d2 = .int (n : Nat) ∧ n ≤ xs.length ∧ ∀ p, K (.raw (.ref p)) (gl X.K p (xs.drop n) :: G2)) : GE X F0 (.Subscript e (.Slice (some lo) none none p2) pos) ds G K :=
  GE.of (pe_slice sl_list pe_self (po_some pe_self) po_none) fun σ F H Q x y s z => h σ F H _ x y s fun d1 G1 v1 F1 H1 h1 e1 s1 r1 => h1 σ F1 H1 _ (x.trans e1) (y.ex e1) s1 fun d2 G2 v2 F2 H2 ⟨xs, n, ht, ed, hl, q⟩ e2 s2 r2 => by
    subst ed
    obtain ⟨p, vs, ev, h3, h4⟩ := ht F2 H2 v1 s2 (Rep.ex e2 _ r1)
    have hlen := h4.length
    refine ⟨(n : Int), rep_int.mp r2, p, vs, ev, SqL.of h3, fun q1 hq => ?_⟩
    rw [cutV_lo (by omega)]
    exact z _ _ _ F2 _ (q q1) (e1.trans e2) (s2.ownL hq (h4.drop n)) (rep_raw.mpr rfl)
end
end Ly
/-! Ly7: pure tests and expressions, what stands among more groups. -/
namespace Ly
open PySem PySem.Spec PyProof.Rows L2
section
variable {X : Cx} {F0 : Hp} {ds : DS} {G G2 : Gs} {K : D → Gs → Prop} {e a b : Expr} {pos : Pos} {N : List Str} {sc : Scope} {k : Nat} {d d' : D}
/-- a test that leaves all as it is -/
theorem xgt_val {K : Bool → Gs → Prop} (B : Bool) (h : GT X F0 e ds G fun b G1 => b = B ∧ G1 = G) (q : K B G) : GT X F0 e ds G K := GTT.mono h fun b G1 ⟨e1, e2⟩ => by rw [e1, e2]; exact q
theorem xge_val (v : D) (h : GE X F0 e ds G fun d G1 => d = v ∧ G1 = G) (q : K v G) : GE X F0 e ds G K := GTE.mono h fun b G1 ⟨e1, e2⟩ => by rw [e1, e2]; exact q
theorem Sat.left {H F : Hp} (s : Sat H F (G ++ G2)) : Sat H F G := by
  obtain ⟨l, h1, st⟩ := s.gs
  obtain ⟨l1, l2, e, h2, h3⟩ := h1.split
  rw [e] at st
  exact ⟨s.ex, l1, h2, st.left⟩
theorem LstAt.mono {K : PySem.W.Frag} {xs : List D} (h : LstAt K G d xs) : LstAt K (G ++ G2) d xs := fun F H v s r => h F H v s.left r
theorem TupAt.mono {K : PySem.W.Frag} {xs : List D} (h : TupAt K G d xs) : TupAt K (G ++ G2) d xs := fun F H v s r => h F H v s.left r
theorem SeqAt.mono {K : PySem.W.Frag} {xs : List D} (h : SeqAt K G d xs) : SeqAt K (G ++ G2) d xs := h.imp LstAt.mono TupAt.mono
theorem LstAt.cons {K : PySem.W.Frag} {xs : List D} {g : Grp} (h : LstAt K G d xs) : LstAt K (g :: G) d xs := fun F H v s r => h F H v (Ent.drop.sat s) r
theorem TupAt.cons {K : PySem.W.Frag} {xs : List D} {g : Grp} (h : TupAt K G d xs) : TupAt K (g :: G) d xs := fun F H v s r => h F H v (Ent.drop.sat s) r
/-- d = what is wanted of the groups: everything that was there -/
theorem CallK.frame {a : ASp} {es : List D} {G : Gs} {KN : D → Gs → Prop} (h : a es [] (fun d G' => KN d (G' ++ G)) NoX) : CallK a es G KN := ⟨[], G, Ent.refl _, h⟩
theorem CallK.all {a : ASp} {es : List D} {G : Gs} {KN : D → Gs → Prop} (h : a es G (fun d G' => KN d (G' ++ [])) NoX) : CallK a es G KN := ⟨G, [], by rw [List.append_nil]; exact Ent.refl _, h⟩
theorem tru_bl {K : Bool → Gs → Prop} {Kf : PySem.W.Frag} {c : Bool} (q : K c G) : TruK K Kf (.bl c) G := ⟨c, fun F H v s r => by rw [rep_bl.mp r]; exact rfl, q⟩
end
end Ly
/-! Ly8: what the module has (globals, written dicts), dicts of one's own. -/
namespace Ly
open PySem PySem.Spec PyProof.Rows L2
section
variable {X : Cx} {F0 : Hp} {ds : DS} {G G2 : Gs} {K : D → Gs → Prop} {e a b o : Expr} {pos apos cpos : Pos} {N : List Str} {sc : Scope} {k : Nat} {d d' : D} {x : Str}
/-- a global name -/
theorem xge_glob {Gn : List Str} {jg m : Nat} {v : V} {u : Value} (c : Ctx N sc k X) (n : NmOk N Gn sc m) (hg : Plc Gn x jg) (hm : X.mg x = some u) (r : RelV v u) (q : K (.raw v) G) : GE X F0 (.Name x pos) ds G K :=
  GE.of (pe_glob (c.gl (n.gl hg)) hm r (n.db hg)) fun σ F H Q a b s z => z _ _ _ _ _ q (Ex.refl F) s (rep_raw.mpr rfl)
theorem xge_globI {Gn : List Str} {jg m : Nat} {i : Int} {t : Tok} (c : Ctx N sc k X) (n : NmOk N Gn sc m) (hg : Plc Gn x jg) (hm : X.mg x = some (.int i t)) (q : K (.int i) G) : GE X F0 (.Name x pos) ds G K :=
  GE.of (pe_glob (v := .int i) (c.gl (n.gl hg)) hm ⟨t, rfl⟩ (n.db hg)) fun σ F H Q a b s z => z _ _ _ _ _ q (Ex.refl F) s (rep_int.mpr rfl)
theorem xge_globT {Gn : List Str} {jg m : Nat} {T : String} (c : Ctx N sc k X) (n : NmOk N Gn sc m) (hg : Plc Gn x jg) (hm : X.mg x = none) (hv : bootBuiltins x = some (.type T)) (q : K (.raw (.ty T)) G) : GE X F0 (.Name x pos) ds G K :=
  GE.of (pe_bltn (v := .ty T) (c.gl (n.gl hg)) hm hv rfl (n.nn hg) (n.db hg)) fun σ F H Q a b s z => z _ _ _ _ _ q (Ex.refl F) s (rep_raw.mpr rfl)
/-- D.get(text), D a written dict of the module -/
def tKGet (K : PySem.W.Frag) (d : Addr) (td ty : TE) : TE := fun σ H Q => td σ H fun x H1 => x = .ref d ∧ ty σ H1 fun y H2 => ∃ z v, y = .str z ∧ ((PySem.W.nsIn K d z = some none ∧ v = .non) ∨ ∃ u, PySem.W.nsIn K d z = some (some u) ∧ RelV v u) ∧ Q v H2
theorem pe_kget {dd : Addr} {es : Array DictEntry} {n : Nat} {td ty : TE} (D : KDict X.K X.w dd es n) (ho : PE X o td) (he : PE X e ty) (m : M1 X o "get" apos e cpos) : PE X (.Call (.Attribute o "get" apos) [e] [] cpos) (tKGet X.K dd td ty) := by
  refine ⟨fun pins s σ H Q I h => ?_⟩
  refine wpAny_Call_method m.base m.few m.line PySem.F.plainAttrs_dict PySem.F.slot_dict_get PySem.F.type_dict_get (thn (ho.run pins s σ H _ I h) fun u s1 ⟨x, H1, I1, rx, ex, q1⟩ => ?_)
  subst ex
  obtain rfl : u = Value.ref dd := rx
  have hm1 := PySem.W.mapOf_K (prog := X.prog) I1.kIn D.at_ D.lit
  refine ⟨hm1.typeIs, hm1.noDict, ?_⟩
  rw [m.trees]
  refine wpAny_dict_get1 (knd := PySem.strKind X.prog X.w) D.low (thn (he.run pins s1 σ H1 _ I1 q1) fun iv s2 ⟨y, H2, I2, ry, z, v, ey, hv, q2⟩ => ?_)
  subst ey
  obtain ⟨t, rfl⟩ := ry
  refine ⟨z, _, PySem.strKind_is X.prog X.w z t, PySem.W.mapOf_K (prog := X.prog) I2.kIn D.at_ D.lit, ?_⟩
  rcases hv with ⟨e1, rfl⟩ | ⟨u, e1, r⟩
  · rw [PySem.W.find_K D.at_ e1]
    exact ⟨.non, H2, I2.tok _, rfl, q2⟩
  · rw [PySem.W.find_K D.at_ e1]
    exact ⟨v, H2, I2.tok _, r, q2⟩
theorem m1_of {f : Str} (h1 : attributeBase o f X.env (eval o X.env) = eval o X.env) (h2 : ((backTo cpos (starEach [e] X.env)).all (fun x => !x.1) && (backToKw cpos (keywordEach [] X.env)).all (fun x => x.1.isSome)
    && decide (([e] : List Expr).length + ([] : List Keyword).length + (if ([] : List Keyword).isEmpty then 0 else 1) < 30)) = true) (h3 : (apos.endLine == cpos.line) = true) (h4 : backTo cpos (starEach [e] X.env) = [(false, eval e X.env)]) : M1 X o f apos e cpos := ⟨h1, h2, h3, h4⟩
theorem xge_kget {dd : Addr} {es : Array DictEntry} {n : Nat} (D : KDict X.K X.w dd es n) (h : GE X F0 o ds G fun d G1 => d = .raw (.ref dd) ∧ GE X F0 e ds G1 fun d2 G2 => ∃ z, d2 = .str z ∧ ((PySem.W.nsIn X.K dd z = some none ∧ K .non G2) ∨ ∃ i t, PySem.W.nsIn X.K dd z = some (some (.int i t)) ∧ K (.int i) G2)) (m : M1 X o "get" apos e cpos) : GE X F0 (.Call (.Attribute o "get" apos) [e] [] cpos) ds G K :=
  GE.of (pe_kget D pe_self pe_self m) fun σ F H Q y z s w => h σ F H _ y z s fun d1 G1 v1 F1 H1 ⟨ed, q1⟩ e1 s1 r1 => by
    subst ed
    refine ⟨rep_raw.mp r1, q1 σ F1 H1 _ (y.trans e1) (z.ex e1) s1 fun d2 G2 v2 F2 H2 ⟨zz, ed, q2⟩ e2 s2 r2 => ?_⟩
    subst ed
    rcases q2 with ⟨e3, q3⟩ | ⟨i, t, e3, q3⟩
    · exact ⟨zz, .non, rep_str.mp r2, .inl ⟨e3, rfl⟩, w _ G2 _ F2 H2 q3 (e1.trans e2) s2 (rep_non.mpr rfl)⟩
    · exact ⟨zz, .int i, rep_str.mp r2, .inr ⟨_, e3, ⟨t, rfl⟩⟩, w _ G2 _ F2 H2 q3 (e1.trans e2) s2 (rep_int.mpr rfl)⟩
/-! ### dicts of one's own: d[k], k in d, d[k] = v -/
def valD {κ : Type} [DecidableEq κ] (kvs : List (κ × D)) (k : κ) : Option D := (kvs.find? fun kv => decide (kv.1 = k)).map (·.2)
def putK' {κ : Type} [DecidableEq κ] (kvs : List (κ × D)) (k : κ) (v : D) : List (κ × D) :=
  if (kvs.any fun kv => decide (kv.1 = k)) = true then kvs.map (fun kv => if kv.1 = k then (kv.1, v) else kv) else kvs ++ [(k, v)]
theorem repK_val {κ : Type} [DecidableEq κ] {K : PySem.W.Frag} {F : Hp} {k : κ} : ∀ {kvs : List (κ × D)} {vs : List (κ × V)}, RepK K F kvs vs → (valD kvs k = none ∧ valV vs k = none) ∨ ∃ d v, valD kvs k = some d ∧ valV vs k = some v ∧ Rep K F d v
  | [], vs, h => by
    rw [show vs = [] from h]
    exact .inl ⟨rfl, rfl⟩
  | a :: kvs, vs, ⟨v, r, e, h1, h2⟩ => by
    rw [e]
    by_cases q : a.1 = k
    · refine .inr ⟨a.2, v, by simp [valD, List.find?_cons, q], by simp [valV, List.find?_cons, q], h1⟩
    · have e1 : valD (a :: kvs) k = valD kvs k := by simp [valD, List.find?_cons, q]
      have e2 : valV ((a.1, v) :: r) k = valV r k := by simp [valV, List.find?_cons, q]
      rw [e1, e2]
      exact repK_val h2
theorem repK_any {κ : Type} [DecidableEq κ] {K : PySem.W.Frag} {F : Hp} {k : κ} : ∀ {kvs : List (κ × D)} {vs : List (κ × V)}, RepK K F kvs vs → (kvs.any fun kv => decide (kv.1 = k)) = vs.any fun kv => decide (kv.1 = k)
  | [], vs, h => by
    rw [show vs = [] from h] <;> rfl
  | a :: kvs, vs, ⟨v, r, e, h1, h2⟩ => by
    rw [e, List.any_cons, List.any_cons, repK_any h2]
theorem repK_app {κ : Type} {K : PySem.W.Frag} {F : Hp} : ∀ {kvs kws : List (κ × D)} {vs ws : List (κ × V)}, RepK K F kvs vs → RepK K F kws ws → RepK K F (kvs ++ kws) (vs ++ ws)
  | [], _, vs, ws, h, t => by
    rw [show vs = [] from h]
    exact t
  | a :: kvs, _, vs, ws, ⟨v, r, e, h1, h2⟩, t => by
    rw [e]
    exact ⟨v, r ++ ws, rfl, h1, repK_app h2 t⟩
theorem repK_map {κ : Type} [DecidableEq κ] {K : PySem.W.Frag} {F : Hp} {k : κ} {d : D} {u : V} (hu : Rep K F d u) : ∀ {kvs : List (κ × D)} {vs : List (κ × V)}, RepK K F kvs vs → RepK K F (kvs.map fun kv => if kv.1 = k then (kv.1, d) else kv) (vs.map fun kv => if kv.1 = k then (kv.1, u) else kv)
  | [], vs, h => by
    rw [show vs = [] from h]
    exact (rfl : ([] : List (κ × V)) = [])
  | a :: kvs, vs, ⟨v, r, e, h1, h2⟩ => by
    rw [e, List.map_cons, List.map_cons]
    by_cases q : a.1 = k
    · rw [if_pos q, if_pos q]
      exact ⟨u, _, rfl, hu, repK_map hu h2⟩
    · rw [if_neg q, if_neg q]
      exact ⟨v, _, rfl, h1, repK_map hu h2⟩
theorem repK_put {κ : Type} [DecidableEq κ] {K : PySem.W.Frag} {F : Hp} {k : κ} {d : D} {u : V} {kvs : List (κ × D)} {vs : List (κ × V)} (h : RepK K F kvs vs) (hu : Rep K F d u) : RepK K F (putK' kvs k d) (L2.putK vs k u) := by
  unfold putK' L2.putK
  rw [repK_any h]
  split
  · exact repK_map hu h
  · exact repK_app h ⟨u, [], rfl, hu, rfl⟩
theorem repK_len {κ : Type} {K : PySem.W.Frag} {F : Hp} : ∀ {kvs : List (κ × D)} {vs : List (κ × V)}, RepK K F kvs vs → kvs.length = vs.length
  | [], vs, h => by rw [show vs = [] from h] <;> rfl
  | a :: kvs, vs, ⟨v, r, e, h1, h2⟩ => by rw [e, List.length_cons, List.length_cons, repK_len h2]
theorem RepK.ex {κ : Type} {K : PySem.W.Frag} {F F' : Hp} (e : Ex F F') : ∀ {kvs : List (κ × D)} {vs : List (κ × V)}, RepK K F kvs vs → RepK K F' kvs vs
  | [], _, h => h
  | a :: kvs, vs, ⟨v, r, e1, h1, h2⟩ => ⟨v, r, e1, Rep.ex e _ h1, RepK.ex e h2⟩
/-- a key: an int, a text; a tuple of these -/
def kD : Key → D
  | .inl i => .int i
  | .inr x => .str x
theorem kD_rep {K : PySem.W.Frag} {F : Hp} {k : Key} {v : V} (r : Rep K F (kD k) v) : v = kV k := by
  cases k with
  | inl i => exact rep_int.mp r
  | inr x => exact rep_str.mp r
theorem kDs_rep {K : PySem.W.Frag} {F : Hp} : ∀ {ks : List Key} {vs : List V}, RepL K F (ks.map kD) vs → vs = ks.map kV
  | [], vs, h => RepL.nil_iff.mp h
  | k :: ks, vs, h => by
    obtain ⟨v, r, e, h1, h2⟩ := RepL.cons_iff.mp h
    rw [e, kD_rep h1, kDs_rep h2]
    rfl
/-- what a look at key data gives -/
inductive LookD (K : PySem.W.Frag) (G : Gs) (p : Addr) : D → Option D → Prop
  | k {kvs : List (Key × D)} {c : Grp → Gs} {k : Key} (f : Foc G (gdK K p kvs) c) : LookD K G p (kD k) (valD kvs k)
  | t {kvs : List (List Key × D)} {c : Grp → Gs} {ks : List Key} (f : Foc G (gdT K p kvs) c) : LookD K G p (.tup (ks.map kD)) (valD kvs ks)
theorem LookD.get {K : PySem.W.Frag} {p : Addr} {y : D} {r : Option D} (l : LookD K G p y r) {F H : Hp} {v : V} (s : Sat H F G) (rv : Rep K F y v) : (r = none ∧ DGet H p v none) ∨ ∃ d u, r = some d ∧ DGet H p v (some u) ∧ Rep K F d u := by
  cases l with
  | @k kvs c key f =>
    obtain ⟨o, F0, e0, ⟨vs, rfl, h1⟩, h2, _⟩ := s.get1 f
    rw [kD_rep rv]
    rcases repK_val (k := key) (h1.ex e0) with ⟨q1, q2⟩ | ⟨d, u, q1, q2, q3⟩
    · exact .inl ⟨q1, by rw [← q2]; exact DGet.k h2⟩
    · exact .inr ⟨d, u, q1, by rw [← q2]; exact DGet.k h2, q3⟩
  | @t kvs c ks f =>
    obtain ⟨o, F0, e0, ⟨vs, rfl, h1⟩, h2, _⟩ := s.get1 f
    obtain ⟨a, us, e1, h3, h4⟩ := rep_tup.mp rv
    rw [e1]
    have h5 : H a = some (.tup (ks.map kV)) := by rw [← kDs_rep h4]; exact s.ex a _ h3
    rcases repK_val (k := ks) (h1.ex e0) with ⟨q1, q2⟩ | ⟨d, u, q1, q2, q3⟩
    · exact .inl ⟨q1, by rw [← q2]; exact DGet.t h2 h5⟩
    · exact .inr ⟨d, u, q1, by rw [← q2]; exact DGet.t h2 h5, q3⟩
theorem Ctx.u1 (c : Ctx N sc k X) : X.A.units + 1 < cLine := by have := c.room.units; omega
/-- y in d -/
theorem xgt_din {K : Bool → Gs → Prop} (c : Ctx N sc k X) (h : GE X F0 a ds G fun y G1 => GE X F0 b ds G1 fun d G2 => ∃ p r, d = .raw (.ref p) ∧ LookD X.K G2 p y r ∧ K r.isSome G2) (hm : behindInMarks .In b = false) : GT X F0 (.Compare a [.In] [b] pos) ds G K :=
  GT.of (pt_cmp (pc_din c.u1 pe_self pe_self) hm) (xgt_test (t := tDIn (wpE X a) (wpE X b)) fun σ F H Q x y s z => h σ F H _ x y s fun y1 G1 v1 F1 H1 h1 e1 s1 r1 => h1 σ F1 H1 _ (x.trans e1) (y.ex e1) s1 fun d2 G2 v2 F2 H2 ⟨p, r, ed, l, q⟩ e2 s2 r2 => by
    subst ed
    rcases l.get s2 (Rep.ex e2 _ r1) with ⟨er, g⟩ | ⟨d, u, er, g, _⟩
    · exact ⟨p, _, rep_raw.mp r2, g, z (.bl false) G2 _ F2 H2 ⟨false, rfl, by rw [er] at q; exact q⟩ (e1.trans e2) s2 (rep_bl.mpr rfl)⟩
    · exact ⟨p, _, rep_raw.mp r2, g, z (.bl true) G2 _ F2 H2 ⟨true, rfl, by rw [er] at q; exact q⟩ (e1.trans e2) s2 (rep_bl.mpr rfl)⟩)
theorem xgt_dnin {K : Bool → Gs → Prop} (c : Ctx N sc k X) (h : GE X F0 a ds G fun y G1 => GE X F0 b ds G1 fun d G2 => ∃ p r, d = .raw (.ref p) ∧ LookD X.K G2 p y r ∧ K (!r.isSome) G2) (hm : behindInMarks .NotIn b = false) : GT X F0 (.Compare a [.NotIn] [b] pos) ds G K :=
  GT.of (pt_cmp (pc_dnotin c.u1 pe_self pe_self) hm) (xgt_test (t := tDNotIn (wpE X a) (wpE X b)) fun σ F H Q x y s z => h σ F H _ x y s fun y1 G1 v1 F1 H1 h1 e1 s1 r1 => h1 σ F1 H1 _ (x.trans e1) (y.ex e1) s1 fun d2 G2 v2 F2 H2 ⟨p, r, ed, l, q⟩ e2 s2 r2 => by
    subst ed
    rcases l.get s2 (Rep.ex e2 _ r1) with ⟨er, g⟩ | ⟨d, u, er, g, _⟩
    · exact ⟨p, _, rep_raw.mp r2, g, z (.bl true) G2 _ F2 H2 ⟨true, rfl, by rw [er] at q; exact q⟩ (e1.trans e2) s2 (rep_bl.mpr rfl)⟩
    · exact ⟨p, _, rep_raw.mp r2, g, z (.bl false) G2 _ F2 H2 ⟨false, rfl, by rw [er] at q; exact q⟩ (e1.trans e2) s2 (rep_bl.mpr rfl)⟩)
theorem xge_din (c : Ctx N sc k X) (h : GE X F0 a ds G fun y G1 => GE X F0 b ds G1 fun d G2 => ∃ p r, d = .raw (.ref p) ∧ LookD X.K G2 p y r ∧ K (.bl r.isSome) G2) (hm : behindInMarks .In b = false) : GE X F0 (.Compare a [.In] [b] pos) ds G K :=
  GE.of (pe_cmp (pc_din c.u1 pe_self pe_self) hm) fun σ F H Q x y s z => h σ F H _ x y s fun y1 G1 v1 F1 H1 h1 e1 s1 r1 => h1 σ F1 H1 _ (x.trans e1) (y.ex e1) s1 fun d2 G2 v2 F2 H2 ⟨p, r, ed, l, q⟩ e2 s2 r2 => by
    subst ed
    rcases l.get s2 (Rep.ex e2 _ r1) with ⟨er, g⟩ | ⟨d, u, er, g, _⟩
    · exact ⟨p, _, rep_raw.mp r2, g, z (.bl false) G2 _ F2 H2 (by rw [er] at q; exact q) (e1.trans e2) s2 (rep_bl.mpr rfl)⟩
    · exact ⟨p, _, rep_raw.mp r2, g, z (.bl true) G2 _ F2 H2 (by rw [er] at q; exact q) (e1.trans e2) s2 (rep_bl.mpr rfl)⟩
/-- {}: to be a dict with such keys -/
theorem xge_dnewK (q : ∀ p, K (.raw (.ref p)) (gdK X.K p [] :: G)) : GE X F0 (.Dict [] [] pos) ds G K := GE.of pe_dnewK fun σ F H Q x y s z => fun p hp => z _ _ _ F _ (q p) (Ex.refl F) (s.own hp (Holds.of ⟨_, rfl, [], rfl, rfl⟩)) (rep_raw.mpr rfl)
theorem xge_dnewT (q : ∀ p, K (.raw (.ref p)) (gdT X.K p [] :: G)) : GE X F0 (.Dict [] [] pos) ds G K := GE.of pe_dnewT fun σ F H Q x y s z => fun p hp => z _ _ _ F _ (q p) (Ex.refl F) (s.own hp (Holds.of ⟨_, rfl, [], rfl, rfl⟩)) (rep_raw.mpr rfl)
/-- what a store at key data leaves -/
inductive PutD (K : PySem.W.Frag) (G : Gs) (p : Addr) : D → D → Gs → Prop
  | k {kvs : List (Key × D)} {c : Grp → Gs} {k : Key} {v : D} (f : Foc G (gdK K p kvs) c) (hl : kvs.length < 100000) : PutD K G p (kD k) v (c (gdK K p (putK' kvs k v)))
  | t {kvs : List (List Key × D)} {c : Grp → Gs} {ks : List Key} {v : D} (f : Foc G (gdT K p kvs) c) (hl : kvs.length < 100000) : PutD K G p (.tup (ks.map kD)) v (c (gdT K p (putK' kvs ks v)))
theorem PutD.put {K : PySem.W.Frag} {p : Addr} {y v : D} {G' : Gs} (l : PutD K G p y v G') {F H : Hp} {u x : V} (s : Sat H F G) (ry : Rep K F y x) (rv : Rep K F v u) : ∃ H', DPut H p x u H' ∧ Sat H' F G' := by
  cases l with
  | @k kvs c key _ f hl =>
    obtain ⟨o, F0, e0, ⟨vs, rfl, h1⟩, h2, _⟩ := s.get1 f
    rw [kD_rep ry]
    exact ⟨_, DPut.k h2 (by rw [← repK_len h1]; exact sz_ok hl), s.set1 f ⟨_, rfl, repK_put (h1.ex e0) rv⟩⟩
  | @t kvs c ks _ f hl =>
    obtain ⟨o, F0, e0, ⟨vs, rfl, h1⟩, h2, _⟩ := s.get1 f
    obtain ⟨a, us, e1, h3, h4⟩ := rep_tup.mp ry
    rw [e1]
    have h5 : H a = some (.tup (ks.map kV)) := by rw [← kDs_rep h4]; exact s.ex a _ h3
    exact ⟨_, DPut.t h2 h5 (by rw [← repK_len h1]; exact sz_ok hl), s.set1 f ⟨_, rfl, repK_put (h1.ex e0) rv⟩⟩
/-- d[y] = v -/
theorem xgs_dput {A : AE} {i value : Expr} {pos' : Pos} (c : Ctx N sc k X) (h : GE X F0 value ds G fun v G1 => GE X F0 o ds G1 fun d2 G2 => GE X F0 i ds G2 fun y G3 => ∃ p G4, d2 = .raw (.ref p) ∧ PutD X.K G3 p y v G4 ∧ A.nx ds G4)
    (hs : swapsWith value (some (.Subscript o i pos')) pos.line X.env = pure false) : GS X F0 (.Assign [.Subscript o i pos'] value pos) ds G A :=
  GS.of (ps_dput c.u1 pe_self pe_self pe_self hs) fun σ F H D x y s w => h σ F H _ x y s fun d1 G1 v1 F1 H1 q1 e1 s1 r1 => q1 σ F1 H1 _ (x.trans e1) (y.ex e1) s1 fun d2 G2 v2 F2 H2 q2 e2 s2 r2 =>
    q2 σ F2 H2 _ ((x.trans e1).trans e2) ((y.ex e1).ex e2) s2 fun d3 G3 v3 F3 H3 ⟨p, G4, ed, pd, q⟩ e3 s3 r3 => by
      subst ed
      obtain ⟨H4, g, s4⟩ := pd.put s3 r3 (Rep.ex (e2.trans e3) _ r1)
      exact ⟨p, H4, rep_raw.mp r2, g, w.nx ds G4 σ F3 H4 q ((e1.trans e2).trans e3) (((y.ex e1).ex e2).ex e3) s4⟩
/-- d[y], there -/
theorem xge_dget {i : Expr} (c : Ctx N sc k X) (h : GE X F0 o ds G fun d1 G1 => GE X F0 i ds G1 fun y G2 => ∃ p v, d1 = .raw (.ref p) ∧ LookD X.K G2 p y (some v) ∧ K v G2) (hs : NoSl i) : GE X F0 (.Subscript o i pos) ds G K :=
  GE.of (pe_dget c.u1 pe_self pe_self hs) fun σ F H Q x y s z => h σ F H _ x y s fun d1 G1 v1 F1 H1 h1 e1 s1 r1 => h1 σ F1 H1 _ (x.trans e1) (y.ex e1) s1 fun d2 G2 v2 F2 H2 ⟨p, v, ed, l, q⟩ e2 s2 r2 => by
    subst ed
    rcases l.get s2 r2 with ⟨er, g⟩ | ⟨d, u, er, g, r⟩
    · cases er
    · cases er
      exact ⟨p, u, rep_raw.mp (Rep.ex e2 _ r1), g, z _ G2 _ F2 H2 q (e1.trans e2) s2 r⟩
end
end Ly
/-! Ly9: arrays of one's own objects; properties. -/
namespace Ly
open PySem PySem.Spec PyProof.Rows L2
section
variable {X : Cx} {F0 : Hp} {ds : DS} {G G2 : Gs} {K : D → Gs → Prop} {e a b o : Expr} {pos apos cpos : Pos} {N : List Str} {sc : Scope} {k j : Nat} {d d' : D} {x f : Str} {C : Addr} {sp : ASp}
/-- list(d), d a dict of one's own -/
theorem rl_listD {p : Addr} {kvs : List (Key × D)} {c : Grp → Gs} (hc : X.calm = true) (f : Foc G (gdK X.K p kvs) c) (q : ∀ l, K (.raw (.ref l)) (gl X.K l (kvs.map fun kv => kD kv.1) :: G)) : RKL X F0 (wpC X (.type "list")) [.raw (.ref p)] G K := RKL.of (call_list_dK hc) fun F H us Q a s r z => by
  obtain ⟨u, w, e1, h1, h2⟩ := RepL.cons_iff.mp r
  obtain ⟨o, F2, e0, ⟨vs, rfl, h3⟩, h4, _⟩ := s.get1 f
  refine ⟨p, vs, by rw [e1, rep_raw.mp h1, RepL.nil_iff.mp h2], h4, fun l hl => z _ _ _ F _ (q l) (Ex.refl F) (s.ownL hl ?_) (rep_raw.mpr rfl)⟩
  have h5 := h3.ex e0
  clear h3 h4 q s r z f
  induction kvs generalizing vs with
  | nil =>
    rw [show vs = [] from h5]
    exact RepL.nil
  | cons kv kvs ih =>
    obtain ⟨v, r, e, h6, h7⟩ := h5
    rw [e]
    refine RepL.cons ?_ (ih r h7)
    rcases kv with ⟨i | x, dv⟩
    · exact rep_int.mpr rfl
    · exact rep_str.mpr rfl
/-- an array: a list of one's own with objects of one's own -/
abbrev refs (qs : List Addr) : List D := qs.map fun q => .raw (.ref q)
abbrev arrG (φs : List (Hp → HO → Prop)) (qs : List Addr) : Gs := List.zipWith one qs φs
abbrev Arr (K : PySem.W.Frag) (p : Addr) (φs : List (Hp → HO → Prop)) (qs : List Addr) : Gs := [gl K p (refs qs), gb (arrG φs qs)]
def gA (K : PySem.W.Frag) (p : Addr) (φs : List (Hp → HO → Prop)) : Grp := gx fun qs : {qs : List Addr // qs.length = φs.length} => Arr K p φs qs.1
theorem arr_at {φs : List (Hp → HO → Prop)} {qs : List Addr} {i : Nat} (h : qs.length = φs.length) (hi : i < φs.length) : (arrG φs qs)[i]? = some (one (qs[i]'(by omega)) φs[i]) := by
  rw [List.getElem?_eq_getElem (by simp; omega)]
  simp
theorem arr_ref {qs : List Addr} {i : Nat} (hi : i < qs.length) : atI (refs qs) ((i : Nat) : Int) = some (.raw (.ref qs[i])) := Ly.atI_nat (by rw [List.getElem?_map, List.getElem?_eq_getElem hi] <;> rfl)
theorem arr_set {φs : List (Hp → HO → Prop)} {φ : Hp → HO → Prop} {qs : List Addr} {i : Nat} (hi : i < qs.length) : (arrG φs qs).set i (one qs[i] φ) = arrG (φs.set i φ) qs := by
  apply List.ext_getElem?
  intro n
  rw [List.getElem?_set]
  by_cases h : i = n
  · subst h
    rw [if_pos rfl]
    split
    · rename_i hl
      rw [List.getElem?_eq_getElem (by simpa using hl)]
      simp
    · rename_i hl
      rw [List.getElem?_eq_none (by simpa using hl)]
  · rw [if_neg h]
    simp [List.getElem?_zipWith, List.getElem?_set_ne h]
theorem arr_app {φs : List (Hp → HO → Prop)} {φ : Hp → HO → Prop} {qs : List Addr} {q : Addr} (h : qs.length = φs.length) : arrG (φs ++ [φ]) (qs ++ [q]) = arrG φs qs ++ [one q φ] := by
  unfold arrG
  rw [List.zipWith_append h]
  rfl
theorem gb_app {gs : Gs} {g : Grp} {G : Gs} : Ent (g :: gb gs :: G) (gb (gs ++ [g]) :: G) :=
  (Ent.cons g gb_open).trans ((Ent.perm (show (g :: (gs ++ G)).Perm ((gs ++ [g]) ++ G) by
    rw [List.append_assoc]
    exact List.perm_middle.symm)).trans gb_close)
theorem gA_close {p : Addr} {Kf : PySem.W.Frag} {φs : List (Hp → HO → Prop)} {qs : List Addr} (h : qs.length = φs.length) : Ent (gl Kf p (refs qs) :: gb (arrG φs qs) :: G) (gA Kf p φs :: G) := gx_close (f := fun qs : {qs : List Addr // qs.length = φs.length} => Arr Kf p φs qs.1) ⟨qs, h⟩
/-- a property, read -/
def PropAt (P : Program) (w : World) (K : PySem.W.Frag) (mg : Str → Option Value) (base : Heap) (k : Nat) (C : Addr) (f : Str) (a : ASp) : Prop := ∃ p g fd ps, PropOf K C f p g ∧ FnOk P w K mg base (L2.CX P w) k g fd ps (conc K a) ∧ Binds K fd ps []
theorem xge_prop (c : Ctx N sc k X) (hc : Cls X.K C) (hd : PropAt X.prog X.w X.K X.mg X.base j C f sp) (hj : j + 1 ≤ k) (h : GE X F0 o ds G fun d G1 => (∃ fs, InsAt X.K G1 d C fs) ∧ CallK sp [d] G1 K)
    (hb : attributeBase o f X.env (eval o X.env) = eval o X.env) : GE X F0 (.Attribute o f pos) ds G K := by
  obtain ⟨p, g, fd, ps, hp, F, hbi⟩ := hd
  refine GE.of (pe_prop pe_self hc hp F (c.room.mono hj) hbi .nil passL hb) fun σ F H Q y z s w => h σ F H _ y z s fun d1 G1 v1 F1 H1 ⟨⟨fs, hi⟩, q⟩ e1 s1 r1 => ?_
  obtain ⟨a, dx, vs, ev, h1, h2⟩ := hi F1 H1 v1 s1 r1
  refine ⟨a, dx, vs, ev, h1, ?_⟩
  show conc X.K sp (.ref a :: []) H1 Q E0
  rw [← ev]
  exact q.conc (RepL.cons r1 RepL.nil) s1 fun d G' v F' H' k' e' s' r' => w d G' v F' H' k' (e1.trans e') s' r'
/-- a class's number, read off an instance -/
theorem xge_conI {u : Value} {i : Int} (h : GE X F0 o ds G fun d G1 => ∃ C fs, InsAt X.K G1 d C fs ∧ Cls X.K C ∧ Con X.K C f (.int i) u ∧ fs.lookup f = none ∧ K (.int i) G1) (hb : attributeBase o f X.env (eval o X.env) = eval o X.env) : GE X F0 (.Attribute o f pos) ds G K :=
  GE.of (pe_con pe_self hb) fun σ F H Q y z s w => h σ F H _ y z s fun d1 G1 v1 F1 H1 ⟨C, fs, hi, hc, hk, hn, q⟩ e1 s1 r1 => by
    obtain ⟨a, dx, vs, ev, h1, h2⟩ := hi F1 H1 v1 s1 r1
    exact ⟨a, C, dx, vs, .int i, u, ev, h1, hc, hk, h2.look_none hn, w _ G1 _ F1 H1 q e1 s1 (rep_int.mpr rfl)⟩
end
end Ly
/-! Ly10: own special methods: o[i], o[i] = v, <, %, len, o(..). -/
namespace Ly
open PySem PySem.Spec PyProof.Rows L2
/-- a special method of the class at C: a promise by position -/
def SpecAt (P : Program) (w : World) (K : PySem.W.Frag) (mg : Str → Option Value) (base : Heap) (k : Nat) (C : Addr) (m : Str) (a : ASp) : Prop := ∃ f, Meth K C m f ∧ PySem.W.fnIn K f = true ∧ FnR P w K mg base (L2.CX P w) k f (conc K a)
theorem MethAt.spec {P : Program} {w : World} {K : PySem.W.Frag} {mg : Str → Option Value} {base : Heap} {k : Nat} {C f : Addr} {m : Str} {a : ASp} {fd : FuncData} {ps : List Str} (hm : Meth K C m f) (hf : PySem.W.fnIn K f = true) (F : FnOk P w K mg base (L2.CX P w) k f fd ps (conc K a)) (hb : Binds K fd ps []) : SpecAt P w K mg base k C m a :=
  ⟨f, hm, hf, FnR.imp (F.raw hb .nil) fun vs H Q E h => by rw [List.append_nil]; exact h⟩
theorem fnIn_of {K : PySem.W.Frag} {x qual : Str} {params : Arguments} {body : List Stmt} {scope : Scope} {dvs : List V} {kws : List (Str × V)} {f : Addr} {fd : FuncData} (F : FunD K x qual params body scope dvs kws f fd) : PySem.W.fnIn K f = true := by
  obtain ⟨oc, od, dV, kV, doc, pm, an, cdv, ct, osl, rfl, lk, hcd, hD, hK⟩ := F.ex
  unfold PySem.W.fnIn
  rw [lk]
section
variable {X : Cx} {F0 : Hp} {ds : DS} {G G2 : Gs} {K : D → Gs → Prop} {e a b o : Expr} {es : List Expr} {pos apos cpos : Pos} {N : List Str} {sc : Scope} {k j : Nat} {d d' : D} {x f m : Str} {C : Addr} {sp : ASp} {fs : List (Str × D)}
/-- a callee runs somewhere below -/
theorem run_sub {CX : CXT} {n : Nat} {A : Around} {f : Addr} {sp : Sp} {E : XK} {Q : VK} {us : List Value} {vs : List V} {pins : List (Addr × Obj)} {σ : L2.St} {H : Hp} {s : Shared} (sb : L2.Sub X n A) (F : FnR X.prog X.w X.K X.mg X.base CX n f sp) (hx : Passes CX X E) (I : Inv X pins σ H s) (r : Vals vs us) (h : sp vs H Q E) :
    wpAny (model X.prog X.w) A (call (.ref f) us) (EP X pins σ Q) X.xe s := by
  have e0 : Env0 X.prog X.w X.K X.mg X.base A X.stack s H := by
    have e := I.env0
    exact ⟨by rw [sb.fr]; exact e.frames, e.mod, e.bs, e.bsz, e.funs, e.frf, e.hok, e.bare⟩
  refine wpAny_call (codeAny_mono (F A X.stack s H us vs Q E sb.room e0 r h) fun r s' hq => ?_)
  cases r with
  | error e => exact hx pins σ H s e s' I hq
  | ok fl =>
    cases fl with
    | ret u => exact I.after hq
    | next => exact False.elim hq
    | brk => exact False.elim hq
    | cont => exact False.elim hq
theorem Ctx.sub (c : Ctx N sc k X) (h : j ≤ k) : L2.Sub X j X.A := ⟨c.room.mono h, rfl⟩
theorem Ctx.sub1 (c : Ctx N sc k X) (h : j + 1 ≤ k) : L2.Sub X j X.A.in1 := ⟨(c.room.mono h).in1, rfl⟩
theorem ins_at {pins : List (Addr × Obj)} {σ : L2.St} {H : Hp} {s : Shared} {a dx : Addr} {vs : List (Str × V)} (I : Inv X pins σ H s) (h : H a = some (.ins C dx vs)) : ∃ ox od, PySem.W.InstAt s.heap a ox C od := by
  obtain ⟨mA, O, _⟩ := ins_get I.hok h
  obtain ⟨od, J, _⟩ := O.look
  exact ⟨_, _, J⟩
/-- the callee's promise, at values that stand for data -/
theorem CallK.at2 {F H : Hp} {u v : V} {Q : VK} {KN : D → Gs → Prop} (h : CallK sp [d, d'] G KN) (r1 : Rep X.K F d u) (r2 : Rep X.K F d' v) (s : Sat H F G) (q : ∀ d G' v F' H', KN d G' → Ex F F' → Sat H' F' G' → Rep X.K F' d v → Q v H') : Ly.conc X.K sp [u, v] H Q E0 :=
  CallK.conc h (RepL.cons r1 (RepL.cons r2 RepL.nil)) s q
/-- o[i] by an own __getitem__ -/
theorem rk_ixM (c : Ctx N sc k X) (hd : SpecAt X.prog X.w X.K X.mg X.base j C "__getitem__" sp) (hj : j + 1 ≤ k) (hi : InsAt X.K G d C fs) (h : CallK sp [d, d'] G K) : RK2 X F0 (wpIx X) d d' G K := fun F H x y Q e0 s r1 r2 z value slice pins s0 σ v u hs I rx ry => by
  obtain ⟨f, hm, hf, FR⟩ := hd
  obtain ⟨p, dx, vs, ev, h1, h2⟩ := hi F H x s r1
  subst ev
  obtain rfl : v = Value.ref p := rx
  obtain ⟨ox, od, J⟩ := ins_at I h1
  obtain ⟨m, hF⟩ := I.fr
  refine PySem.W.sub_K hF I.ok.mod.kin J hm.at_ hf hm.fn ?_ (hs true _ _)
  exact run_sub (E := E0) (c.sub1 hj) FR passL I (show Vals [V.ref p, y] [Value.ref p, u] from .cons rfl (.cons ry .nil)) (CallK.at2 h r1 r2 s z)
/-- o[i] = v by an own __setitem__ -/
theorem st_M {R : Gs → Prop} {d3 : D} (c : Ctx N sc k X) (hq : PySem.W.noSeq X.K C = true) (hd : SpecAt X.prog X.w X.K X.mg X.base j C "__setitem__" sp) (hj : j ≤ k) (hi : InsAt X.K G d C fs) (h : CallK sp [d, d', d3] G fun _ G' => R G') :
    ∀ (F H : Hp) (x y z : V) (Q : Hp → Prop), Ex F0 F → Sat H F G → Rep X.K F d3 x → Rep X.K F d y → Rep X.K F d' z → (∀ G' F' H', R G' → Ex F F' → Sat H' F' G' → Q H') → wpSt X y z x H Q := fun F H x y z Q e0 s r3 r1 r2 q pins s0 σ ov iv u I ro ri rv => by
  obtain ⟨f, hm, hf, FR⟩ := hd
  obtain ⟨p, dx, vs, ev, h1, h2⟩ := hi F H y s r1
  subst ev
  obtain rfl : ov = Value.ref p := ro
  obtain ⟨ox, od, J⟩ := ins_at I h1
  obtain ⟨m, hF⟩ := I.fr
  refine PySem.W.ksp_setItem hF I.ok.mod.kin J hq hm.at_ hm.fn (thn (run_sub (E := E0) (Q := fun _ H' => Q H') (c.sub hj) FR passL I (show Vals [V.ref p, z, x] [Value.ref p, iv, u] from .cons rfl (.cons ri (.cons rv .nil))) ?_) fun u s1 ⟨v, H', I', r, q'⟩ => ⟨H', I', q'⟩)
  exact CallK.conc h (RepL.cons r1 (RepL.cons r2 (RepL.cons r3 RepL.nil))) s fun d G' v F' H' k' e' s' r' => q G' F' H' k' e' s'
/-- a < b, .. by the class's own method: a bool -/
def cmpN : CmpOp → Str
  | .Lt => "__lt__" | .LtE => "__le__" | .Gt => "__gt__" | .GtE => "__ge__" | .Eq => "__eq__" | .NotEq => "__ne__" | _ => ""
theorem rk_cmpM {op : CmpOp} {fs' : List (Str × D)} (ho : op = .Lt ∨ op = .LtE ∨ op = .Gt ∨ op = .GtE ∨ op = .Eq ∨ op = .NotEq) (c : Ctx N sc k X) (hd : SpecAt X.prog X.w X.K X.mg X.base j C (cmpN op) sp) (hj : j ≤ k) (hi : InsAt X.K G d C fs) (hi' : InsAt X.K G d' C fs') (h : CallK sp [d, d'] G fun r G' => ∃ b, r = .bl b ∧ K (.bl b) G') : RK2 X F0 (wpR X (compareOp op)) d d' G K := fun F H x y Q e0 s r1 r2 z pins s0 σ v u I rx ry => by
  obtain ⟨f, hm, hf, FR⟩ := hd
  obtain ⟨p, dx, vs, ev, h1, h2⟩ := hi F H x s r1
  subst ev
  obtain ⟨p', dx', vs', ev', h1', h2'⟩ := hi' F H y s r2
  subst ev'
  obtain rfl : v = Value.ref p := rx
  obtain rfl : u = Value.ref p' := ry
  obtain ⟨ox, od, J⟩ := ins_at I h1
  obtain ⟨ox', od', J'⟩ := ins_at I h1'
  obtain ⟨m, hF⟩ := I.fr
  have hb := run_sub (E := E0) (Q := fun v H' => ∃ b, v = .bl b ∧ Q (.bl b) H') (c.sub hj) FR passL I (show Vals [V.ref p, V.ref p'] [Value.ref p, Value.ref p'] from .cons rfl (.cons rfl .nil)) (CallK.at2 h r1 r2 s fun d3 G3 v3 F3 H3 ⟨b, eb, q⟩ e3 s3 r3 => ⟨b, by subst eb; exact rep_bl.mp r3, z _ G3 _ F3 H3 q e3 s3 (rep_bl.mpr rfl)⟩)
  have hu : X.A.units < cLine := by have := c.room.un; omega
  have hc : wpAny (model X.prog X.w) X.A (richCompare op (.ref p) (.ref p')) (EP X pins σ Q) X.xe s0 := by
    refine PySem.W.cmp_K hu hF I.ok.mod.kin J J'.type (by simp [PySem.W.notFirst]) (f := f) (by rcases ho with rfl | rfl | rfl | rfl | rfl | rfl <;> exact hm.at_) hm.fn (thn hb fun w s1 ⟨v1, H1, I1, rv, b, eb, q⟩ => ?_)
    subst eb
    obtain rfl : w = Value.bool b := rv
    exact ⟨.bl b, H1, I1, rfl, q⟩
  rcases ho with rfl | rfl | rfl | rfl | rfl | rfl <;> exact hc
/-- a % i, .. by the class's own method, i an int -/
structure BinI (K : PySem.W.Frag) (C : Addr) (op : Operator) : Prop where
  sf : PySem.W.selfFirst K C = true
  hr : PySem.W.findIn K (.ref C) (dunderR op.info.2) = some none
  h1 : ∃ fo, PySem.W.findIn K (.type "int") (PySem.dunder op.info.2) = some fo
  h2 : ∃ ro, PySem.W.findIn K (.type "int") (dunderR op.info.2) = some ro
  hs : PySem.W.subIn K (.type "int") (.ref C) = some false
theorem rk_binM {op : Operator} {i : Int} (B : BinI X.K C op) (c : Ctx N sc k X) (hd : SpecAt X.prog X.w X.K X.mg X.base j C (PySem.dunder op.info.2) sp) (hj : j ≤ k) (hi : InsAt X.K G d C fs) (h : CallK sp [d, .int i] G fun r G' => (∀ F v, Rep X.K F r v → ∃ q, v = .ref q) ∧ K r G') : RK2 X F0 (wpR X (binaryOp op)) d (.int i) G K := fun F H x y Q e0 s r1 r2 z pins s0 σ v u I rx ry => by
  obtain ⟨f, hm, hf, FR⟩ := hd
  obtain ⟨p, dx, vs, ev, h1, h2⟩ := hi F H x s r1
  subst ev
  obtain rfl : v = Value.ref p := rx
  rw [rep_int.mp r2] at ry
  obtain ⟨t, rfl⟩ := ry
  obtain ⟨ox, od, J⟩ := ins_at I h1
  obtain ⟨m, hF⟩ := I.fr
  obtain ⟨fo, hfo⟩ := B.h1
  obtain ⟨ro, hro⟩ := B.h2
  have hb := run_sub (E := E0) (Q := fun v H' => (∃ q, v = .ref q) ∧ Q v H') (c.sub hj) FR passL I (show Vals [V.ref p, V.int i] [Value.ref p, Value.int i t] from .cons rfl (.cons ⟨t, rfl⟩ .nil)) (CallK.at2 h r1 (rep_int.mpr rfl) s fun d3 G3 v3 F3 H3 ⟨hn, q⟩ e3 s3 r3 => ⟨hn _ _ r3, z _ G3 _ F3 H3 q e3 s3 r3⟩)
  refine PySem.W.ksp_binT (T := "int") hF I.ok.mod.kin J rfl B.sf hm.at_ hm.fn B.hr (.inl rfl) hfo hro B.hs (thn hb fun w s1 ⟨v1, H1, I1, rv, ⟨b, eb⟩, q⟩ => ?_)
  subst eb
  obtain rfl : w = Value.ref b := rv
  exact ⟨.ref b, H1, I1, rfl, q⟩
/-- len(o) by an own __len__ -/
theorem rl_lenM (c : Ctx N sc k X) (hd : SpecAt X.prog X.w X.K X.mg X.base j C "__len__" sp) (hj : j + 1 ≤ k) (hi : InsAt X.K G d C fs) (h : CallK sp [d] G fun r G' => ∃ i : Int, r = .int i ∧ (0 ≤ i ∧ i < 2 ^ 63) ∧ K (.int i) G') : RKL X F0 (wpC X (.builtin "len")) [d] G K := fun F H xs Q e0 s r z pins s0 σ us I rx => by
  obtain ⟨f, hm, hf, FR⟩ := hd
  obtain ⟨x, w, e1, r1, h4⟩ := RepL.cons_iff.mp r
  rw [e1, RepL.nil_iff.mp h4] at rx
  obtain ⟨p, dx, vs, ev, h1, h2⟩ := hi F H x s r1
  subst ev
  cases rx with
  | cons ra rb =>
    cases rb
    cases ra
    obtain ⟨ox, od, J⟩ := ins_at I h1
    obtain ⟨m, hF⟩ := I.fr
    have hb := run_sub (E := E0) (Q := fun v H' => ∃ i : Int, v = .int i ∧ (0 ≤ i ∧ i < 2 ^ 63) ∧ Q (.int i) H') (c.sub1 hj) FR passL I (show Vals [V.ref p] [Value.ref p] from .cons rfl .nil) (CallK.conc h (RepL.cons r1 RepL.nil) s fun d3 G3 v3 F3 H3 ⟨i, ei, hb, q⟩ e3 s3 r3 => ⟨i, by subst ei; exact rep_int.mp r3, hb, z _ G3 _ F3 H3 q e3 s3 (rep_int.mpr rfl)⟩)
    refine PySem.W.len_K hF I.ok.mod.kin J hm.at_ hm.fn (thn hb fun w s1 ⟨v1, H1, I1, rv, i, ei, hb, q⟩ => ?_)
    subst ei
    obtain ⟨t, rfl⟩ := rv
    exact ⟨hb, .int i, H1, I1.tok _, ⟨_, rfl⟩, q⟩
/-- f(..), f an expression that gives an instance whose class has __call__ -/
theorem SpecAt.callO {P : Program} {w : World} {K : PySem.W.Frag} {mg : Str → Option Value} {base : Heap} (hd : SpecAt P w K mg base k C "__call__" sp) : ∃ g, StX.CallO K C g ∧ FnR P w K mg base (L2.CX P w) k g (Ly.conc K sp) := by
  obtain ⟨f, hm, hf, FR⟩ := hd
  exact ⟨f, ⟨hm.at_, hm.fn, hf⟩, FR⟩
theorem FnR.lift {CX : CXT} {f : Addr} {sp : Sp} (h : FnR X.prog X.w X.K X.mg X.base CX j f sp) (hj : j ≤ k) : FnR X.prog X.w X.K X.mg X.base CX k f sp := h.mono hj
theorem xge_callO {fe : Expr} (c : Ctx N sc k X) (hd : SpecAt X.prog X.w X.K X.mg X.base j C "__call__" sp) (hj : j ≤ k) (h : GE X F0 fe ds G fun d G1 => (∃ fs, InsAt X.K G1 d C fs) ∧ GA X F0 (e :: es) ds G1 fun rs G2 => (∃ fs, InsAt X.K G2 d C fs) ∧ CallK sp (d :: rs) G2 K)
    (ht : eval (.Call fe (e :: es) [] pos) X.env = (do callWith pos (← eval fe X.env) [] (backTo pos (starEach (e :: es) X.env)) (backToKw pos (keywordEach [] X.env))))
    (he : starEach (e :: es) X.env = (false, eval e X.env) :: starEach es X.env) (hpl : (backTo pos (starEach es X.env)).any (·.1) = false) : GE X F0 (.Call fe (e :: es) [] pos) ds G K := by
  obtain ⟨g, co, FR⟩ := hd.callO
  refine GE.of (StX.pe_callO (E := E0) pe_self co FR (c.room.mono hj) passL pa_self ht he hpl) fun σ F H Q y z s w => h σ F H _ y z s fun d G1 v F1 H1 ⟨⟨fs, hi⟩, q⟩ e1 s1 r1 => ?_
  obtain ⟨p, dx, vs, ev, h1, h2⟩ := hi F1 H1 v s1 r1
  subst ev
  refine ⟨p, rfl, q σ F1 H1 _ (y.trans e1) (z.ex e1) s1 fun rs G2 us F2 H2 ⟨⟨fs2, hi2⟩, q2⟩ e2 s2 r2 => ?_⟩
  obtain ⟨p', dx', vs', ev', h1', h2'⟩ := hi2 F2 H2 _ s2 (Rep.ex e2 _ r1)
  cases ev'
  exact ⟨.inr ⟨dx', vs', h1'⟩, CallK.conc q2 (RepL.cons (Rep.ex e2 _ r1) r2) s2 fun d G' v F' H' k' e' s' r' => w d G' v F' H' k' ((e1.trans e2).trans e') s' r'⟩
/-- o.m(..), m an attribute that holds such an instance -/
theorem xge_callFld {pl : Sem Bool} {C2 : Addr} (c : Ctx N sc k X) (hd : SpecAt X.prog X.w X.K X.mg X.base j C2 "__call__" sp) (hj : j ≤ k) (hc : Cls X.K C) (hn : NoAttr X.K C m) (h : GE X F0 o ds G fun d G1 => ∃ fs r, InsAt X.K G1 d C fs ∧ fs.lookup m = some r ∧ (∃ fs, InsAt X.K G1 r C2 fs) ∧ GA X F0 (e :: es) ds G1 fun rs G2 => (∃ fs, InsAt X.K G2 r C2 fs) ∧ CallK sp (r :: rs) G2 K)
    (hst : starEach (e :: es) X.env = (false, eval e X.env) :: starEach es X.env) (hpl : (backTo pos (starEach es X.env)).any (·.1) = false)
    (ht : eval (.Call (.Attribute o m apos) (e :: es) [] pos) X.env = (do
      let ov ← eval o X.env
      standAt apos.atName
      let (f, first) ← holding [ov] (getMethod ov m pl)
      callWith pos f first (backTo pos (starEach (e :: es) X.env)) (backToKw pos (keywordEach [] X.env)))) : GE X F0 (.Call (.Attribute o m apos) (e :: es) [] pos) ds G K := by
  obtain ⟨g, co, FR⟩ := hd.callO
  intro σ F H Q y z s w pins s0 I
  refine PySem.W.methodCall_KW (pl := pl) (thn (h σ F H (fun x H1 => ∃ p dx vs, x = .ref p ∧ H1 p = some (.ins C dx vs) ∧ ∃ b, vs.lookup m = some (.ref b) ∧ wpA X (e :: es) σ H1 fun us H2 => StX.InsC X H2 b C2 ∧ Ly.conc X.K sp (.ref b :: us) H2 Q E0) y z s (fun d G1 v F1 H1 ⟨fs, r, hi, hl, ⟨fs1, hi1⟩, q⟩ e1 s1 r1 => ?_) pins s0 I) fun u s1 ⟨x, H1, I1, rx, p, dx, vs, ex, h1, b, hb, q⟩ => ?_) ht
  · obtain ⟨p, dx, vs, ev, h1, h2⟩ := hi F1 H1 v s1 r1
    obtain ⟨u, h3, h4⟩ := h2.look hl
    obtain ⟨b, dxb, vsb, eb, h5, h6⟩ := hi1 F1 H1 u s1 h4
    subst eb
    refine ⟨p, dx, vs, ev, h1, b, h3, q σ F1 H1 _ (y.trans e1) (z.ex e1) s1 fun rs G2 us F2 H2 ⟨⟨fs2, hi2⟩, q2⟩ e2 s2 r2 => ?_⟩
    obtain ⟨p', dx', vs', ev', h1', h2'⟩ := hi2 F2 H2 _ s2 (Rep.ex e2 _ h4)
    cases ev'
    exact ⟨.inr ⟨dx', vs', h1'⟩, CallK.conc q2 (RepL.cons (Rep.ex e2 _ h4) r2) s2 fun d G' v F' H' k' e' s' r' => w d G' v F' H' k' ((e1.trans e2).trans e') s' r'⟩
  · subst ex
    obtain rfl : u = Value.ref p := rx
    obtain ⟨ox, od, J⟩ := ins_at I1 h1
    refine PySem.W.method_usual (r := none) I1.kIn J (PySem.W.plainGet_of (hc.get m)).1 (PySem.W.plainGet_of (hc.get m)).2 hn rfl ?_
    refine getattr_ok I1 h1 hc hn hb fun u2 s2 I2 ru => ?_
    obtain rfl : u2 = Value.ref b := ru
    refine StX.callO_with (thn (q pos pins s2 I2) fun us s3 ⟨vs3, H3, I3, r3, hi3, q3⟩ => ?_) hst hpl
    obtain ⟨ox3, od3, J3, hd3⟩ := StX.insC_at I3 hi3
    exact ⟨⟨C2, ox3, od3, J3, hd3⟩, StX.run_callO co FR (c.room.mono hj) passL I3 hi3 r3 q3⟩
end
end Ly
/-! Ly11: keywords, stars, classes' constants and classmethods, several targets, isinstance. -/
namespace Ly
open PySem PySem.Spec PyProof.Rows L2
section
variable (X : Cx) (F0 : Hp)
def wpK (kws : List Keyword) : TA := fun σ H Q => ∀ (pos : Pos) (pins : List (Addr × Obj)) (s : Shared), Inv X pins σ H s → wpAny (model X.prog X.w) X.A (evalAll ((backToKw pos (keywordEach kws X.env)).map (·.2))) (AP X pins σ Q) X.xe s
abbrev GK (kws : List Keyword) := GTA X F0 (wpK X kws)
end
section
variable {X : Cx} {F0 : Hp} {ds : DS} {G G2 : Gs} {K : D → Gs → Prop} {KA : List D → Gs → Prop} {e a b o : Expr} {es : List Expr} {kws : List Keyword} {ks : List Str} {pos apos cpos kpos p : Pos} {N : List Str} {sc : Scope} {k j n : Nat} {d d' : D} {x f m : Str} {C : Addr} {sp : ASp} {fs : List (Str × D)} {nm : Option Str}
theorem pk_self : PK X kws (wpK X kws) := ⟨fun pos pins s σ H Q I h => h pos pins s I⟩
theorem xgk_nil (q : KA [] G) : GK X F0 [] ds G KA := fun σ F H Q x y s z pos pins s0 I => pk_nil.run pos pins s0 σ H Q I (z _ _ _ _ _ q (Ex.refl F) s RepL.nil)
theorem xgk_cons (h : GE X F0 e ds G fun d G1 => GK X F0 kws ds G1 fun r G2 => KA (d :: r) G2) : GK X F0 (⟨nm, e, kpos⟩ :: kws) ds G KA := fun σ F H Q x y s z pos pins s0 I =>
  (pk_cons pe_self pk_self).run pos pins s0 σ H Q I (h σ F H _ x y s fun d G1 v F1 H1 q e1 s1 r1 => q σ F1 H1 _ (x.trans e1) (y.ex e1) s1 fun es G2 vs F2 H2 q2 e2 s2 r2 => z _ _ _ F2 H2 q2 (e1.trans e2) s2 (RepL.cons (Rep.ex e2 _ r1) r2))
/-- *e in an argument list -/
theorem xga_star (h : GE X F0 e ds G fun d G1 => ∃ xs, SeqAt X.K G1 d xs ∧ GA X F0 es ds G1 fun r G2 => KA (xs ++ r) G2) (hs : starEach (.Starred e p :: es) X.env = (true, eval e X.env) :: starEach es X.env) : GA X F0 (.Starred e p :: es) ds G KA := fun σ F H Q x y s z pos pins s0 I =>
  (StX.pa_star pe_self pa_self hs).run pos pins s0 σ H Q I (h σ F H _ x y s fun d G1 v F1 H1 ⟨xs, hx, q⟩ e1 s1 r1 => by
    obtain ⟨p, vs, ev, h1, h2⟩ := hx.sq s1 r1
    exact ⟨p, vs, ev, h1.elim .inr .inl, q σ F1 H1 _ (x.trans e1) (y.ex e1) s1 fun es G2 us F2 H2 q2 e2 s2 r2 => z _ _ _ F2 H2 q2 (e1.trans e2) s2 (RepL.append (RepL.ex e2 _ h2) r2)⟩)
/-! ### C(.., k = v, ..), cls(k = v, ..) -/
def MakeAtK (P : Program) (w : World) (K : PySem.W.Frag) (mg : Str → Option Value) (base : Heap) (k : Nat) (C : Addr) (n : Nat) (ks : List Str) (a : ASp) : Prop := ∃ f fd ps us, Mk K C f ∧ FnOk P w K mg base (L2.CX P w) k f fd ps (conc K a) ∧ KBn K fd ps (n + 1) ks us (fun vs zs => vs ++ zs)
theorem make_run {rs : List D} {y : Addr} {F H : Hp} {vs : List V} {dx : Addr} {Q : VK} (s : Sat H F G) (hx : H y = none) (hdx : H dx = none) (ne : dx ≠ y) (r : RepL X.K F rs vs) (q : CallK sp (.raw (.ref y) :: rs) (gi X.K y C [] :: G) fun d G' => d = .non ∧ K (.raw (.ref y)) G')
    (w : ∀ d G' v F' H', K d G' → Ex F F' → Sat H' F' G' → Rep X.K F' d v → Q v H') : conc X.K sp (.ref y :: vs) (upd (upd H dx (.own y)) y (.ins C dx [])) (fun v H2 => v = .non ∧ Q (.ref y) H2) E0 := by
  obtain ⟨ex, s2⟩ := make_sat (C := C) (X := X) s hx hdx ne
  exact q.conc (RepL.cons (rep_raw.mpr rfl) (RepL.ex ex _ r)) s2 fun d G' v F' H' k' e' s' r' => ⟨by rw [k'.1] at r'; exact rep_non.mp r', w _ G' _ F' H' k'.2 (ex.trans e') s' (rep_raw.mpr rfl)⟩
theorem xge_makeK (c : Ctx N sc k X) (hd : MakeAtK X.prog X.w X.K X.mg X.base j C n ks sp) (hm : X.mg x = some (.ref C)) (hj : j + 1 ≤ k) {Gn : List Str} {jg mm : Nat} (nk : NmOk N Gn sc mm) (hg : Plc Gn x jg)
    (h : GA X F0 (e :: es) ds G fun rs G1 => GK X F0 kws ds G1 fun zs G2 => rs.length = n ∧ zs.length = ks.length ∧ ∀ y, CallK sp (.raw (.ref y) :: (rs ++ zs)) (gi X.K y C [] :: G2) fun d G' => d = .non ∧ K (.raw (.ref y)) G')
    (hall : (backToKw pos (keywordEach kws X.env)).all (·.1.isSome) = true) (hks : (backToKw pos (keywordEach kws X.env)).filterMap (·.1) = ks)
    (he : starEach (e :: es) X.env = (false, eval e X.env) :: starEach es X.env) (hpl : ((backTo pos (starEach (e :: es) X.env)).any (·.1) || (backToKw pos (keywordEach kws X.env)).any (·.1.isNone)) = false) : GE X F0 (.Call (.Name x p) (e :: es) kws pos) ds G K := by
  obtain ⟨f, fd, ps, us, M, F, hb⟩ := hd
  refine GE.of (pe_makeK (E := E0) M F (c.room.mono hj) (c.gl (nk.gl hg)) hm hb passL pa_self pk_self hall hks (nk.db hg) he hpl) fun σ F H Q y z s w => h σ F H _ y z s fun rs G1 vs F1 H1 q e1 s1 r1 => q σ F1 H1 _ (y.trans e1) (z.ex e1) s1 fun zs G2 vz F2 H2 ⟨l1, l2, q2⟩ e2 s2 r2 => ?_
  refine ⟨r1.length.symm.trans l1, r2.length.symm.trans l2, fun y dx hx hdx ne => ?_⟩
  exact make_run s2 hx hdx ne (RepL.append (RepL.ex e2 _ r1) r2) (q2 y) fun d G' v F' H' k' e' s' r' => w d G' v F' H' k' ((e1.trans e2).trans e') s' r'
theorem xge_makeK0 (c : Ctx N sc k X) (hd : MakeAtK X.prog X.w X.K X.mg X.base j C 0 ks sp) (hm : X.mg x = some (.ref C)) (hj : j + 1 ≤ k) {Gn : List Str} {jg mm : Nat} (nk : NmOk N Gn sc mm) (hg : Plc Gn x jg)
    (h : GK X F0 kws ds G fun zs G2 => zs.length = ks.length ∧ ∀ y, CallK sp (.raw (.ref y) :: zs) (gi X.K y C [] :: G2) fun d G' => d = .non ∧ K (.raw (.ref y)) G')
    (hall : (backToKw pos (keywordEach kws X.env)).all (·.1.isSome) = true) (hks : (backToKw pos (keywordEach kws X.env)).filterMap (·.1) = ks)
    (hpl : ((backTo pos (starEach [] X.env)).any (·.1) || (backToKw pos (keywordEach kws X.env)).any (·.1.isNone)) = false) : GE X F0 (.Call (.Name x p) [] kws pos) ds G K := by
  obtain ⟨f, fd, ps, us, M, F, hb⟩ := hd
  refine GE.of (pe_makeK0 (E := E0) M F (c.room.mono hj) (c.gl (nk.gl hg)) hm hb passL pk_self hall hks (nk.db hg) hpl) fun σ F H Q y z s w => h σ F H _ y z s fun zs G2 vz F2 H2 ⟨l2, q2⟩ e2 s2 r2 => ?_
  refine ⟨rfl, r2.length.symm.trans l2, fun y dx hx hdx ne => ?_⟩
  exact make_run s2 hx hdx ne r2 (q2 y) fun d G' v F' H' k' e' s' r' => w d G' v F' H' k' (e2.trans e') s' r'
/-- cls(k = v, ..), cls a name of the def that holds the class -/
theorem xge_clsK0 {i : Nat} (c : Ctx N sc k X) (hd : MakeAtK X.prog X.w X.K X.mg X.base j C 0 ks sp) (hj : j + 1 ≤ k) {Gn : List Str} {mm : Nat} (nk : NmOk N Gn sc mm) (hr : Rdn N x ds i (.raw (.ref C)))
    (h : GK X F0 kws ds G fun zs G2 => zs.length = ks.length ∧ ∀ y, CallK sp (.raw (.ref y) :: zs) (gi X.K y C [] :: G2) fun d G' => d = .non ∧ K (.raw (.ref y)) G')
    (hi : Nat.blt i mm = true) (hall : (backToKw pos (keywordEach kws X.env)).all (·.1.isSome) = true) (hks : (backToKw pos (keywordEach kws X.env)).filterMap (·.1) = ks)
    (hpl : ((backTo pos (starEach [] X.env)).any (·.1) || (backToKw pos (keywordEach kws X.env)).any (·.1.isNone)) = false) : GE X F0 (.Call (.Name x p) [] kws pos) ds G K := by
  obtain ⟨f, fd, ps, us, M, FO, hb⟩ := hd
  have hn := nk.mem hr.ok.1 hi
  have hN : X.N[i]? = some x := by rw [c.hN]; exact hr.ok.1
  have hv : Vis X.env.scope x := by rw [c.hsc]; exact hn.1.elim .inl fun z => .inr (.inl z)
  intro σ F H Q y z s w pins s0 I
  obtain ⟨v, hv1, hv2⟩ := z.at_ i _ hr.ok.2
  refine wpAny_Call_Name_kw (thn ((pe_var (pos := p) hN hv hn.2.1 hn.2.2).run pins s0 σ H (fun v H1 => v = .ref C ∧ H1 = H) I ⟨v, hv1, rep_raw.mp hv2, rfl⟩) fun u s1 ⟨v, H1, I1, r1, q1⟩ => ?_)
  obtain ⟨rfl, rfl⟩ := q1
  cases r1
  refine PySem.W.callWith_KW0 (h₀ := X.base) I.ok.mod.kin M.kp hall ?_ hpl
  refine thn (h σ F H1 (fun zs H2 => zs.length = ks.length ∧ ∀ x dx, H2 x = none → H2 dx = none → dx ≠ x → conc X.K sp (.ref x :: zs) (upd (upd H2 dx (.own x)) x (.ins C dx [])) (fun v H3 => v = .non ∧ Q (.ref x) H3) E0) y z s (fun zs G2 vz F2 H2 ⟨l2, q2⟩ e2 s2 r2 => ?_) pos pins s1 I1) fun ws s2 ⟨zs, H2, I2, rz, l2, q2⟩ => ⟨I2.kIn, ?_⟩
  · refine ⟨r2.length.symm.trans l2, fun y dx hx hdx ne => ?_⟩
    exact make_run s2 hx hdx ne r2 (q2 y) fun d G' v F' H' k' e' s' r' => w d G' v F' H' k' (e2.trans e') s' r'
  · rw [hks]
    exact run_makeK (us := []) (vs := []) M FO (c.room.mono hj) hb passL I2 .nil rz rfl l2 q2
/-! ### an __init__ with *args -/
def MakeR (P : Program) (w : World) (K : PySem.W.Frag) (mg : Str → Option Value) (base : Heap) (k : Nat) (x : Str) (C : Addr) (a : ASp) : Prop := ∃ f, mg x = some (.ref C) ∧ Mk K C f ∧ FnR P w K mg base (L2.CX P w) k f (conc K a)
theorem xge_makeR (c : Ctx N sc k X) (hd : MakeR X.prog X.w X.K X.mg X.base j x C sp) (hj : j + 1 ≤ k) {Gn : List Str} {jg mm : Nat} (nk : NmOk N Gn sc mm) (hg : Plc Gn x jg) (h : GA X F0 (e :: es) ds G fun rs G1 => ∀ y, CallK sp (.raw (.ref y) :: rs) (gi X.K y C [] :: G1) fun d G' => d = .non ∧ K (.raw (.ref y)) G')
    (he : starEach (e :: es) X.env = (false, eval e X.env) :: starEach es X.env) (hpl : (backTo pos (starEach es X.env)).any (·.1) = false) : GE X F0 (.Call (.Name x p) (e :: es) [] pos) ds G K := by
  obtain ⟨f, hm, M, FR⟩ := hd
  refine GE.of (StX.pe_makeR (E := E0) M FR (c.room.mono hj) (c.gl (nk.gl hg)) hm passL pa_self (nk.db hg) he hpl) fun σ F H Q y z s w => h σ F H _ y z s fun rs G1 vs F1 H1 q e1 s1 r1 => ?_
  intro y dx hx hdx ne
  exact make_run s1 hx hdx ne r1 (q y) fun d G' v F' H' k' e' s' r' => w d G' v F' H' k' (e1.trans e') s' r'
/-- C(e, .., *y) -/
theorem xge_makeS (c : Ctx N sc k X) (hd : MakeR X.prog X.w X.K X.mg X.base j x C sp) (hj : j + 1 ≤ k) {Gn : List Str} {jg mm : Nat} (nk : NmOk N Gn sc mm) (hg : Plc Gn x jg) (h : GA X F0 (e :: es) ds G fun rs G1 => ∀ y, CallK sp (.raw (.ref y) :: rs) (gi X.K y C [] :: G1) fun d G' => d = .non ∧ K (.raw (.ref y)) G')
    (he : starEach (e :: es) X.env = (false, eval e X.env) :: starEach es X.env) (hst : (backTo pos (starEach es X.env)).any (·.1) = true) : GE X F0 (.Call (.Name x p) (e :: es) [] pos) ds G K := by
  obtain ⟨f, hm, M, FR⟩ := hd
  intro σ F H Q y z s w pins s0 I
  refine wpAny_Call_Name_kw (ld_glob I (c.gl (nk.gl hg)) hm ?_ (nk.db hg))
  refine PySem.W.callWith_S2 (h₀ := X.base) I.ok.mod.kin M.kp (thn (h σ F H (fun vs H1 => ∀ x dx, H1 x = none → H1 dx = none → dx ≠ x → conc X.K sp (.ref x :: vs) (upd (upd H1 dx (.own x)) x (.ins C dx [])) (fun v H3 => v = .non ∧ Q (.ref x) H3) E0) y z s (fun rs G1 vs F1 H1 q e1 s1 r1 => ?_) pos pins s0 I) fun us s1 ⟨vs, H1, I1, r, q⟩ => ⟨I1.kIn, ?_⟩) he hst
  · intro y dx hx hdx ne
    exact make_run s1 hx hdx ne r1 (q y) fun d G' v F' H' k' e' s' r' => w d G' v F' H' k' (e1.trans e') s' r'
  · exact StX.run_makeR M FR (c.room.mono hj) passL I1 r q
/-- what a def f(a, .., *v) promises, by what its body does with a tuple -/
def starA (n : Nat) (a : ASp) : ASp := fun es G KN KE => n ≤ es.length ∧ (es.drop n).length ≤ 1000 ∧ a (es.take n ++ [.tup (es.drop n)]) G KN KE
theorem conc_star {K : PySem.W.Frag} {vs : List V} {H : Hp} {Q : VK} {E : XK} (h : conc K (starA n sp) vs H Q E) : ∃ ws rest, vs = ws ++ rest ∧ ws.length = n ∧ rest.length ≤ sizeLine ∧ ∀ p, H p = none → conc K sp (ws ++ [V.ref p]) (upd H p (.tup rest)) Q E := by
  obtain ⟨F, es, G, G2, KN, KE, r, s, ⟨hn, hz, ha⟩, hQ, hE⟩ := h
  have hl := r.length
  refine ⟨vs.take n, vs.drop n, (List.take_append_drop n vs).symm, by rw [List.length_take]; omega, ?_, fun p hp => ?_⟩
  · have : (vs.drop n).length = (es.drop n).length := by simp [hl]
    rw [this]
    exact Nat.le_trans hz (by decide)
  · have ex : Ex F (upd F p (.tup (vs.drop n))) := Ex.new (s.ex.free hp)
    exact ⟨upd F p (.tup (vs.drop n)), _, G, G2, KN, KE, RepL.append (RepL.ex ex _ (r.take n)) (RepL.cons (rep_tup.mpr ⟨p, _, rfl, upd_same, RepL.ex ex _ (r.drop n)⟩) RepL.nil), s.frozen hp, ha, fun d G' v F' H' k' e' => hQ d G' v F' H' k' (ex.trans e'), fun C fs G' dd F' H' k' e' => hE C fs G' dd F' H' k' (ex.trans e')⟩
end
section
variable {P : Program} {w : World} {K : PySem.W.Frag} {mg : Str → Option Value} {base : Heap}
/-- the body's part of a def's rule -/
theorem body_ok {x qual : Str} {body : List Stmt} {scope : Scope} {f : Addr} {N Gn ps : List Str} {k : Nat} {a : ASp} (S : FnScope N ps scope) {mm : Nat} (nm : NmOk N Gn scope mm)
    (h : ∀ (X : Cx) (F0 : Hp) (es : List D) (G G2 : Gs) (KN : D → Gs → Prop) (KE : KX), X.prog = P → X.w = w → X.K = K → X.mg = mg → X.base = base → Ctx N scope k X → (∀ x, X.fn x = true) → NmOk N Gn scope mm → Rz X F0 (fun C fs G' => ∃ G1, Ent G' (G1 ++ G2) ∧ KE C fs G1) → a es G KN KE →
      GSs X F0 body (startD N es) (G ++ G2) (bodyA KN G2)) (cdv : Value) (A : Around) (outer : List Env) (s : Shared) (H : Hp) (vs : List V) (Q : VK) (E : XK) (hr : Room k (A.deeper (envOfC qual scope s.heap.objs.size f cdv))) (hc : conc K a vs H Q E) :
    ∃ t, PSs (cxOf (L2.CX P w) P w K mg base N qual scope f cdv A outer s H E) body t ∧ t { nx := fun _ H' => Q .non H', rt := Q } (L2.start N vs) H := by
  obtain ⟨F, es, G, G2, KN, KE, r, sat, ha, hQ, hE⟩ := hc
  refine ⟨_, pss_self, ?_⟩
  refine h (cxOf (L2.CX P w) P w K mg base N qual scope f cdv A outer s H E) F es G G2 KN KE rfl rfl rfl rfl rfl ⟨rfl, S.nd, rfl, hr, rfl, passes_of rfl⟩ (fun _ => rfl) nm ⟨_, takes_of rfl rfl rfl rfl, ?_⟩ ha (L2.start N vs) F H _ (Ex.refl F) (start_env r) sat ⟨?_, ?_, ?_, ?_⟩
  · rintro C fs G' dd σ F' H' ⟨G1, en, q⟩ e s' xr
    exact hE C fs G1 dd F' H' q e (en.sat s') xr
  · rintro ds' G' σ' F' H' ⟨G1, en, q⟩ e y s'
    exact hQ .non G1 .non F' H' q e (en.sat s') (rep_non.mpr rfl)
  · rintro d G' v F' H' ⟨G1, en, q⟩ e s' r'
    exact hQ d G1 v F' H' q e (en.sat s') r'
  · rintro _ _ _ _ _ q
    exact q.elim
  · rintro _ _ _ _ _ q
    exact q.elim
/-- THE RULE for a def f(a, .., *v) -/
theorem def_star {x qual : Str} {params : Arguments} {body : List Stmt} {scope : Scope} {kws : List (Str × V)} {f : Addr} {fd : FuncData} {N Gn ps : List Str} {pv : Str} {k : Nat} {a : ASp} (F : FunD K x qual params body scope [] kws f fd) (S : FnScope N (ps ++ [pv]) scope) {mm : Nat} (nm : NmOk N Gn scope mm)
    (hb : ∀ (kV doc pm : Value) (an : Option Addr) (cdv ct : Value) (us rest : List Value), us.length = ps.length → bindArgs (PySem.W.fnOf x qual params body scope .none kV doc pm an cdv ct) ⟨us ++ rest, []⟩ = (newTuple rest >>= fun t => pure (ps.zip us ++ [(pv, t)])))
    (h : ∀ (X : Cx) (F0 : Hp) (es : List D) (G G2 : Gs) (KN : D → Gs → Prop) (KE : KX), X.prog = P → X.w = w → X.K = K → X.mg = mg → X.base = base → Ctx N scope k X → (∀ x, X.fn x = true) → NmOk N Gn scope mm → Rz X F0 (fun C fs G' => ∃ G1, Ent G' (G1 ++ G2) ∧ KE C fs G1) → a es G KN KE →
      GSs X F0 body (startD N es) (G ++ G2) (bodyA KN G2)) : FnR P w K mg base (L2.CX P w) (k + 1) f (conc K (starA ps.length a)) := by
  obtain ⟨oc, od, dV, kV, doc, pm, an, cdv, ct, osl, rfl, lk, hcd, hD, _⟩ := F.ex
  obtain rfl : dV = .none := hD.elim (fun h => h.2) fun h => absurd rfl h.1
  refine FnR.imp (StX.fn_star (sp := conc K a) lk hcd S StX.cxUp (hb kV doc pm an cdv ct) ?_) fun vs H Q E h => conc_star h
  intro A outer s H vs Q E hr hc
  exact body_ok (x := x) S nm h cdv A outer s H vs Q E hr hc
end
section
variable {X : Cx} {F0 : Hp} {ds : DS} {G G2 : Gs} {K : D → Gs → Prop} {KA : List D → Gs → Prop} {e a b o : Expr} {es : List Expr} {kws : List Keyword} {ks : List Str} {pos apos cpos kpos p : Pos} {N : List Str} {sc : Scope} {k j n : Nat} {d d' : D} {x f m : Str} {C : Addr} {sp : ASp} {fs : List (Str × D)} {nm : Option Str} {A : AE}
/-! ### a class's constant, a classmethod without arguments -/
/-- e.f, e a class -/
theorem xge_cval {mc : Value} {i : Int} {u : Value} (r : ClX.CRead X.K C mc) (q0 : ClX.CVal X.K C mc f (.int i) u) (h : GE X F0 e ds G fun d G1 => d = .raw (.ref C) ∧ K (.int i) G1) (hb : attributeBase e f X.env (eval e X.env) = eval e X.env) : GE X F0 (.Attribute e f pos) ds G K :=
  GE.of (ClX.pe_cval pe_self hb) fun σ F H Q y z s w => h σ F H _ y z s fun d G1 v F1 H1 ⟨ed, q⟩ e1 s1 r1 => by
    subst ed
    exact ⟨C, mc, .int i, u, rep_raw.mp r1, r, q0, w _ G1 _ F1 H1 q e1 s1 (rep_int.mpr rfl)⟩
/-- C.m(), m a classmethod -/
theorem xge_cmeth0 {pl : Sem Bool} {mc : Value} {pp g : Addr} (c : Ctx N sc k X) (r : ClX.CRead X.K C mc) (cm : ClX.CMet X.K C mc m pp g) (FR : FnR X.prog X.w X.K X.mg X.base (L2.CX X.prog X.w) j g (conc X.K sp)) (hj : j ≤ k) (h : GE X F0 o ds G fun d G1 => d = .raw (.ref C) ∧ CallK sp [.raw (.ref C)] G1 K)
    (ht : eval (.Call (.Attribute o m apos) [] [] pos) X.env = (do
      let ov ← eval o X.env
      standAt apos.atName
      let (f, first) ← holding [ov] (getMethod ov m pl)
      callWith pos f first (backTo pos (starEach [] X.env)) (backToKw pos (keywordEach [] X.env)))) : GE X F0 (.Call (.Attribute o m apos) [] [] pos) ds G K := by
  intro σ F H Q y z s w pins s0 I
  refine PySem.W.methodCall_KW (pl := pl) (thn (h σ F H (fun v H1 => v = .ref C ∧ conc X.K sp [.ref C] H1 Q E0) y z s (fun d G1 v F1 H1 ⟨ed, q⟩ e1 s1 r1 => ?_) pins s0 I) fun u s1 ⟨x, H1, I1, rx, ex, q⟩ => ?_) ht
  · subst ed
    exact ⟨rep_raw.mp r1, q.conc (RepL.cons (rep_raw.mpr rfl) RepL.nil) s1 fun d G' v F' H' k' e' s' r' => w d G' v F' H' k' (e1.trans e') s' r'⟩
  · subst ex
    obtain rfl : u = Value.ref C := rx
    refine ClX.getmethcm_ok I1 r cm fun s2 I2 => ?_
    refine PySem.W.callWith_M0 (self := .ref C) ⟨ClX.pin_at I2, I2.kIn⟩ cm.fi ?_
    exact ClX.run_cm (E := E0) (us := []) (vs := []) FR (c.room.mono hj) passL I2 .nil q
/-! ### several targets -/
theorem xgs_par {A : AE} {x y : Str} {i i' : Nat} {f f' : D → DS} {px py pt pt2 : Pos} {kt k2 : Nat} {d1 : DS} (c : Ctx N sc k X) (hx : Plc N x i) (hy : Plc N y i') (hij : i ≠ i') (hlx : sc.names.lookup x = some .local) (hly : sc.names.lookup y = some .local)
    (h : GA X F0 [a, b] ds G fun rs G1 => ∃ v w, rs = [v, w] ∧ A.nx ((ds.set i (some v)).set i' (some w)) G1)
    (hw : swappedStores [.Tuple [.Name x px, .Name y py] kt pt] (.Tuple [a, b] k2 pt2) X.env = pure (some [x, y]))
    (hs : swapsWithSole [.Tuple [.Name x px, .Name y py] kt pt] (.Tuple [a, b] k2 pt2) pos.line X.env = pure false) : GS X F0 (.Assign [.Tuple [.Name x px, .Name y py] kt pt] (.Tuple [a, b] k2 pt2) pos) ds G A :=
  GS.of (ps_par (i := i) (j := i') c.calm (by rw [c.hN]; exact c.nd) (by rw [c.hN]; exact hx.ok) (by rw [c.hN]; exact hy.ok) hij (by rw [c.hsc]; exact hlx) (by rw [c.hsc]; exact hly) pa_self hw hs) fun σ F H D z t s w => h σ F H _ z t s fun rs G1 vs F1 H1 ⟨v, v', er, q⟩ e1 s1 r1 => by
    subst er
    obtain ⟨u, us, ev, h1, h2⟩ := RepL.cons_iff.mp r1
    obtain ⟨u2, us2, ev2, h3, h4⟩ := RepL.cons_iff.mp h2
    exact ⟨u, u2, by rw [ev, ev2, RepL.nil_iff.mp h4], w.nx _ G1 _ F1 H1 q e1 (((t.ex e1).set h1).set h3) s1⟩
/-- x = y = e -/
theorem xgs_asg2 {A : AE} {x y : Str} {i i' : Nat} {px py : Pos} (c : Ctx N sc k X) (hfn : ∀ x, X.fn x = true) {Gn : List Str} {mm : Nat} (nk : NmOk N Gn sc mm) (hx : Plc N x i) (hy : Plc N y i') (h : GE X F0 e ds G fun d G1 => A.nx ((ds.set i (some d)).set i' (some d)) G1) (hi : Nat.blt i mm = true) (hi' : Nat.blt i' mm = true)
    (ha : (assignEach [.Name x px, .Name y py] X.env).map (·.2) = [assign (.Name x px) X.env, assign (.Name y py) X.env]) (hw : swappedStores [.Name x px, .Name y py] e X.env = pure none) : GS X F0 (.Assign [.Name x px, .Name y py] e pos) ds G A :=
  GS.of (ps_asg2 pe_self (c.pg hfn hx (nk.loc hx hi)) (c.pg hfn hy (nk.loc hy hi')) ha hw) fun σ F H D z t s w => h σ F H _ z t s fun d G1 v F1 H1 q e1 s1 r1 => w.nx _ G1 _ F1 H1 q e1 (((t.ex e1).set r1).set r1) s1
end
end Ly
/-! Ly12: isinstance; a written tuple's index; o.m(e, *y, k = v). -/
namespace Ly
open PySem PySem.Spec PyProof.Rows L2
section
variable {X : Cx} {F0 : Hp} {ds : DS} {G G2 : Gs} {K : D → Gs → Prop} {KA : List D → Gs → Prop} {e a b o e1 e2 : Expr} {es : List Expr} {kws : List Keyword} {ks : List Str} {pos apos cpos kpos p : Pos} {N : List Str} {sc : Scope} {k j n : Nat} {d d' : D} {x f m : Str} {C : Addr} {sp : ASp} {fs : List (Str × D)} {nm : Option Str} {A : AE}
/-! ### isinstance -/
/-- what class d's value is of -/
def TyAt (K : PySem.W.Frag) (G : Gs) (d : D) (t : Value) : Prop := ∀ F H v, Sat H F G → Rep K F d v → TyX K H v t
theorem ty_non : TyAt X.K G .non (.type "NoneType") := fun F H v s r => by rw [rep_non.mp r]; exact .base .non
theorem ty_bl {i : Bool} : TyAt X.K G (.bl i) (.type "bool") := fun F H v s r => by rw [rep_bl.mp r]; exact .base (.bl _)
theorem ty_int {i : Int} : TyAt X.K G (.int i) (.type "int") := fun F H v s r => by rw [rep_int.mp r]; exact .base (.int _)
theorem ty_strs {i : Str} : TyAt X.K G (.str i) (.type "str") := fun F H v s r => by rw [rep_str.mp r]; exact .base (.str _)
theorem ty_lsts {xs : List D} (h : LstAt X.K G d xs) : TyAt X.K G d (.type "list") := fun F H v s r => by
  obtain ⟨p, vs, e, h1, _⟩ := h F H v s r
  subst e
  exact .base (.lst h1)
theorem ty_tups {xs : List D} : TyAt X.K G (.tup xs) (.type "tuple") := fun F H v s r => by
  obtain ⟨a, vs, h1, h2, h3⟩ := rep_tup.mp r
  subst h1
  exact .base (.tup (s.ex a _ h2))
/-- an own class, as isinstance looks at it -/
structure OwnTy (K : PySem.W.Frag) (C : Addr) : Prop where
  ha : PySem.W.findIn K (.ref C) "__class__" = some (some (.builtin "object.__class__"))
  hn : PySem.W.specialIn K (.builtin "object.__class__") "__get__" = some (some (.builtin "getset_descriptor.__get__"))
  htk : PySem.W.takesIn K (.builtin "object.__class__") = some true
  hm : PySem.W.mroIn K C (.type "object") = some true
theorem ty_ins (c : Cls X.K C) (q : OwnTy X.K C) (h : InsAt X.K G d C fs) : TyAt X.K G d (.ref C) := fun F H v s r => by
  obtain ⟨a, dx, vs, ev, h1, _⟩ := h F H v s r
  subst ev
  exact .base (.ins h1 c q.ha q.hn q.htk q.hm)
theorem rl_isi {t : Value} {T : String} {r : Bool} (h : TyAt X.K G d t) (hk : PySem.W.kitOne X.K t (.type T) = some r) (q : K (.bl r) G) : RKL X F0 (wpC X (.builtin "isinstance")) [d, .raw (.ty T)] G K := RKL.of call_isi fun F H us Q a s r1 z => by
  obtain ⟨u, w, e1, h1, h2⟩ := RepL.cons_iff.mp r1
  obtain ⟨u2, w2, e2, h3, h4⟩ := RepL.cons_iff.mp h2
  exact ⟨u, .ty T, t, .type T, r, by rw [e1, e2, rep_raw.mp h3, RepL.nil_iff.mp h4], .ty T, h F H u s h1, hk, z _ _ _ F H q (Ex.refl F) s (rep_bl.mpr rfl)⟩
theorem rl_isiO {t : Value} {C : Addr} {r : Bool} (h : TyAt X.K G d t) (hk : PySem.W.kitOne X.K t (.ref C) = some r) (q : K (.bl r) G) : RKL X F0 (wpC X (.builtin "isinstance")) [d, .raw (.ref C)] G K := RKL.of call_isi fun F H us Q a s r1 z => by
  obtain ⟨u, w, e1, h1, h2⟩ := RepL.cons_iff.mp r1
  obtain ⟨u2, w2, e2, h3, h4⟩ := RepL.cons_iff.mp h2
  exact ⟨u, .ref C, t, .ref C, r, by rw [e1, e2, rep_raw.mp h3, RepL.nil_iff.mp h4], .own C, h F H u s h1, hk, z _ _ _ F H q (Ex.refl F) s (rep_bl.mpr rfl)⟩
theorem kk {K : PySem.W.Frag} {a b : String} {r : Bool} (h : kitB a b = some r) : PySem.W.kitOne K (.type a) (.type b) = some r := kit_ty h
theorem k_int_bool : kitB "int" "bool" = some false := by decide +kernel
theorem k_bool_bool : kitB "bool" "bool" = some true := by decide +kernel
theorem k_bool_int : kitB "bool" "int" = some true := by decide +kernel
theorem k_int_int : kitB "int" "int" = some true := by decide +kernel
theorem k_str_bool : kitB "str" "bool" = some false := by decide +kernel
theorem k_str_int : kitB "str" "int" = some false := by decide +kernel
theorem k_str_str : kitB "str" "str" = some true := by decide +kernel
theorem k_list_bool : kitB "list" "bool" = some false := by decide +kernel
theorem k_list_int : kitB "list" "int" = some false := by decide +kernel
theorem k_list_str : kitB "list" "str" = some false := by decide +kernel
theorem k_list_list : kitB "list" "list" = some true := by decide +kernel
theorem k_list_tuple : kitB "list" "tuple" = some false := by decide +kernel
theorem k_tuple_bool : kitB "tuple" "bool" = some false := by decide +kernel
theorem k_tuple_int : kitB "tuple" "int" = some false := by decide +kernel
theorem k_tuple_str : kitB "tuple" "str" = some false := by decide +kernel
theorem k_tuple_list : kitB "tuple" "list" = some false := by decide +kernel
theorem k_tuple_tuple : kitB "tuple" "tuple" = some true := by decide +kernel
/-! ### t.index(x), t a written tuple of texts -/
theorem tup_written {a : Addr} {zs : List Str} (h : ∀ H, SqT X.K H a (zs.map V.str)) : TupAt X.K G (.raw (.ref a)) (zs.map D.str) := fun F H v s r => by
  refine ⟨a, zs.map V.str, rep_raw.mp r, h H, ?_⟩
  clear h r s
  induction zs with
  | nil => exact RepL.nil
  | cons z zs ih => exact RepL.cons (rep_str.mpr rfl) ih
theorem ty_tupW {a : Addr} (h : ∃ o, X.K.lookup a = some o ∧ o.cls = .type "tuple" ∧ o.dict = none) : TyK X "tuple" (.raw (.ref a)) G := fun F H v s r => by
  rw [rep_raw.mp r]
  exact .inr (.inl ⟨rfl, h⟩)
theorem rm_tindex {zs : List Str} {z : Str} {j : Nat} (h : TupAt X.K G d (zs.map D.str)) (hj : zs[j]? = some z) (hf : ∀ m, m < j → zs[m]? ≠ some z) (q : K (.int (j : Nat)) G) :
    RKM X F0 (fun x xs H Q => ∃ p, ∃ ys : List Str, ∃ z j, x = .ref p ∧ xs = [.str z] ∧ SqT X.K H p (ys.map V.str) ∧ ys[j]? = some z ∧ (∀ m, m < j → ys[m]? ≠ some z) ∧ Q (.int (j : Nat)) H) d [.str z] G K := fun F H x us Q a s r1 r2 w => by
  obtain ⟨u, t, e1, h3, h4⟩ := RepL.cons_iff.mp r2
  obtain ⟨p, vs, ev, h1, h2⟩ := h F H x s r1
  have e := repL_str h2
  subst e
  exact ⟨p, zs, z, j, ev, by rw [e1, rep_str.mp h3, RepL.nil_iff.mp h4], h1, hj, hf, w _ _ _ F H q (Ex.refl F) s (rep_int.mpr rfl)⟩
/-! ### o.m(e, *y, k = v) -/
theorem starcallK_of {M : Model} {A : Around} {E : Value → Shared → Prop} {s : Shared} {env : Env} {p : Pos} {Q : Value → Shared → Prop} (hbase : attributeBase o m env (eval o env) = eval o env)
    (hst : starEach [e1, .Starred e2 p] env = [(false, eval e1 env), (true, eval e2 env)])
    (hform : methodCallForm ([e1, Expr.Starred e2 p].length + kws.length) (backTo pos [(false, eval e1 env), (true, eval e2 env)]) (backToKw pos (keywordEach kws env)) = false)
    (h : wpAny M A (eval o env) (fun ov s₁ => wpAny M A (getAttr ov m true) (fun f s₂ => wpAny M A (callWith pos f [] (backTo pos [(false, eval e1 env), (true, eval e2 env)]) (backToKw pos (keywordEach kws env))) Q E s₂) E s₁) E s) :
    wpAny M A (eval (.Call (.Attribute o m apos) [e1, .Starred e2 p] kws pos) env) Q E s := by
  have hpos : methodCallPos false o env apos pos = pure pos := rfl
  have hcal : ∀ ov, calleeOf false o env ov m = (getAttr ov m true >>= fun v => pure (v, [])) := fun _ => rfl
  rw [arm_eval_Call, hbase, hst]
  refine wpAny_bind (wpAny_mono h (fun ov s₁ h₁ => ?_) fun _ _ x => x)
  refine wpAny_bind (wpAny_standAt ?_)
  unfold methodCall
  rw [hform, hpos, hcal]
  refine wpAny_bind (wpAny_holding (wpAny_bind (wpAny_mono h₁ (fun f s₂ h₂ => wpAny_pure ?_) fun _ _ x => x)))
  exact wpAny_bind (wpAny_pure h₂)
theorem ks_callK {M : Model} {A : Around} {E : Value → Shared → Prop} {s : Shared} {f : Value} {first : List Value} {pos : Pos} {Q : Value → Shared → Prop} {P : Heap → Prop} {args : List (Bool × Sem Value)} {keywords : List (Option Str × Sem Value)} (hst : args.any (·.1) = true)
    (hk : ∀ h, P h → ∃ k, (k = Keeper.frame ∨ k = Keeper.machine ∨ k = Keeper.boundFrame) ∧ PySem.W.Looks M h (keeperOf f) k)
    (h : wpAny M A (evalArgs f true args keywords) (fun a s₁ => P s₁.heap ∧ wpAny M A (call f (first ++ a.pos) a.kw) Q E s₁) E s) : wpAny M A (callWith pos f first args keywords) Q E s := by
  unfold callWith
  refine wpAny_bind (wpAny_holding (wpAny_mono h (fun a s₁ h₁ => wpAny_bind (wpAny_standAt ?_)) fun _ _ x => x))
  obtain ⟨k, hk', L⟩ := hk _ h₁.1
  simp only [hst, Bool.true_or]
  refine wpAny_bind (L.here ?_)
  have tail : ∀ {t : Sem Value}, wpAny M A t Q E s₁ → wpAny M A (t >>= fun r => holding [r] point >>= fun _ => pure r) Q E s₁ :=
    fun ht => wpAny_bind (wpAny_mono ht (fun r s₂ hr => wpAny_bind (wpAny_holding (wpAny_point (wpAny_pure hr)))) fun _ _ x => x)
  have marked (mk : Value) : wpAny M A (callMarked mk f (first ++ a.pos) a.kw) Q E s₁ := by unfold callMarked; exact Calls.wpAny_keep h₁.2
  rcases hk' with rfl | rfl | rfl <;> dsimp only <;> first | exact tail (marked _) | exact tail (wpAny_operating h₁.2)
/-- what a def f(a, .., *v, k = ..) does when it is called with all its keywords -/
def FnSK (P : Program) (w : World) (K : PySem.W.Frag) (mg : Str → Option Value) (base : Heap) (k : Nat) (f : Addr) (n : Nat) (ks : List Str) (a : ASp) : Prop :=
  ∀ (A : Around) (outer : List Env) (s : Shared) (H : Hp) (us rest ws : List Value) (vs rs zs : List V) (Q : VK) (E : XK), Room k A → Env0 P w K mg base A outer s H → Vals vs us → Vals rs rest → Vals zs ws → vs.length = n → zs.length = ks.length → rs.length ≤ sizeLine →
    (∀ p, H p = none → conc K a (vs ++ (zs ++ [V.ref p])) (upd H p (.tup rs)) Q E) → codeAny (model P w) A (.call (.ref f) ⟨us ++ rest, ks.zip ws⟩) (CR (L2.CX P w) outer P w H s Q E) s
theorem run_sk {g : Addr} {n : Nat} {Q : VK} {E : XK} {us rest ws : List Value} {vs rs zs : List V} {pins : List (Addr × Obj)} {σ : L2.St} {H : Hp} {s : Shared} (F : FnSK X.prog X.w X.K X.mg X.base k g n ks sp) (hr : Room k X.A) (hx : Passes (L2.CX X.prog X.w) X E) (I : Inv X pins σ H s) (r1 : Vals vs us) (r2 : Vals rs rest) (r3 : Vals zs ws) (l1 : vs.length = n) (l2 : zs.length = ks.length) (l3 : rs.length ≤ sizeLine)
    (h : ∀ p, H p = none → conc X.K sp (vs ++ (zs ++ [V.ref p])) (upd H p (.tup rs)) Q E) :
    codeAny (model X.prog X.w) X.A (.call (.ref g) ⟨us ++ rest, ks.zip ws⟩) (fun r s' => match r with | .ok (.ret v) => EP X pins σ Q v s' | .ok _ => False | .error e => X.xe e s') s := by
  refine codeAny_mono (F X.A X.stack s H us rest ws vs rs zs Q E hr I.env0 r1 r2 r3 l1 l2 l3 h) fun r s' hq => ?_
  cases r with
  | error e => exact hx pins σ H s e s' I hq
  | ok fl =>
    cases fl with
    | ret u => exact I.after hq
    | next => exact False.elim hq
    | brk => exact False.elim hq
    | cont => exact False.elim hq
theorem xge_methSK {g : Addr} (c : Ctx N sc k X) (hc : Cls X.K C) (bm : BMeth X.K C m g) (F : FnSK X.prog X.w X.K X.mg X.base j g 2 ks sp) (hj : j ≤ k)
    (h : GE X F0 o ds G fun d G1 => ∃ fs, InsAt X.K G1 d C fs ∧ fs.lookup m = none ∧ GE X F0 e1 ds G1 fun d1 G2 => GE X F0 e2 ds G2 fun d2 G3 => ∃ xs, SeqAt X.K G3 d2 xs ∧ xs.length ≤ 1000 ∧ GK X F0 kws ds G3 fun zs G4 => zs.length = ks.length ∧ CallK sp (d :: d1 :: (zs ++ [.tup xs])) G4 K)
    (hbase : attributeBase o m X.env (eval o X.env) = eval o X.env)
    (hst : starEach [e1, .Starred e2 p] X.env = [(false, eval e1 X.env), (true, eval e2 X.env)])
    (hform : methodCallForm ([e1, Expr.Starred e2 p].length + kws.length) (backTo pos [(false, eval e1 X.env), (true, eval e2 X.env)]) (backToKw pos (keywordEach kws X.env)) = false)
    (hall : (backToKw pos (keywordEach kws X.env)).all (·.1.isSome) = true) (hks : (backToKw pos (keywordEach kws X.env)).filterMap (·.1) = ks) : GE X F0 (.Call (.Attribute o m apos) [e1, .Starred e2 p] kws pos) ds G K := by
  intro σ F0' H Q y z s w pins s0 I
  refine starcallK_of hbase hst hform (thn (h σ F0' H (fun x H1 => ∃ a dx fs, x = .ref a ∧ H1 a = some (.ins C dx fs) ∧ fs.lookup m = none ∧ ∀ q, H1 q = none → wpE X e1 σ (upd H1 q (.met g a)) fun y1 H2 => wpE X e2 σ H2 fun y2 H3 => ∃ b vs, y2 = .ref b ∧ (SqT X.K H3 b vs ∨ SqL X.K H3 b vs) ∧ wpK X kws σ H3 fun zs H4 => H4 q = some (.met g a) ∧ zs.length = ks.length ∧ vs.length ≤ sizeLine ∧ ∀ p, H4 p = none → conc X.K sp ([.ref a, y1] ++ (zs ++ [V.ref p])) (upd H4 p (.tup vs)) Q E0) y z s (fun d G1 v F1 H1 ⟨fs, hi, hl, q⟩ e1' s1 r1 => ?_) pins s0 I) fun u s1 ⟨x, H1, I1, rx, a, dx, fs, ex, ea, l, q⟩ => ?_)
  · obtain ⟨a, dx, vs, ev, h1, h2⟩ := hi F1 H1 v s1 r1
    subst ev
    refine ⟨a, dx, vs, rfl, h1, h2.look_none hl, fun q' hq => ?_⟩
    have ex : Ex F1 (upd F1 q' (.met g a)) := Ex.new (s1.ex.free hq)
    have at_ : (upd F1 q' (.met g a)) q' = some (.met g a) := upd_same
    refine q σ _ _ _ ((y.trans e1').trans ex) ((z.ex e1').ex ex) (s1.frozen hq) fun d1 G2 v1 F2 H2 q2 e2' s2 r2 => q2 σ F2 H2 _ (((y.trans e1').trans ex).trans e2') (((z.ex e1').ex ex).ex e2') s2 fun d2 G3 v2 F3 H3 ⟨xs, hx, hz, q3⟩ e3' s3 r3 => ?_
    obtain ⟨b, us, eb, h3, h4⟩ := hx.sq s3 r3
    refine ⟨b, us, eb, h3.elim .inr .inl, q3 σ F3 H3 _ ((((y.trans e1').trans ex).trans e2').trans e3') ((((z.ex e1').ex ex).ex e2').ex e3') s3 fun zs G4 vz F4 H4 ⟨lz, q4⟩ e4' s4 r4 => ?_⟩
    refine ⟨s4.ex _ _ (e4' _ _ (e3' _ _ (e2' _ _ at_))), r4.length.symm.trans lz, by rw [← h4.length]; exact Nat.le_trans hz (by decide), fun p hp => ?_⟩
    have ex2 : Ex F4 (upd F4 p (.tup us)) := Ex.new (s4.ex.free hp)
    refine q4.conc (RepL.cons (Rep.ex ((((ex.trans e2').trans e3').trans e4').trans ex2) _ r1) (RepL.cons (Rep.ex ((e3'.trans e4').trans ex2) _ r2) (RepL.append (vs := vz) (us := [V.ref p]) (RepL.ex ex2 _ r4) (RepL.cons (rep_tup.mpr ⟨p, us, rfl, upd_same, RepL.ex (e4'.trans ex2) _ h4⟩) RepL.nil)))) (s4.frozen hp) fun d G' v F' H' k' e' s' r' => w d G' v F' H' k' ((((((e1'.trans ex).trans e2').trans e3').trans e4').trans ex2).trans e') s' r'
  · subst ex
    obtain rfl : u = Value.ref a := rx
    refine getbound_ok I1 ea hc bm l fun q1 s2 hq1 I2 => ?_
    refine ks_callK (P := PySem.W.MethP X.K q1 g (.ref a)) rfl (PySem.W.keeps_M bm.fi) (evalArgs_kw hall (Calls.spliced_cons (thn (q q1 hq1 pins s2 I2) fun v1 s3 ⟨y1, H2, I3, ry1, q2⟩ =>
      PySem.W.ks_spliced (thn (q2 pins s3 I3) fun v2 s4 ⟨y2, H3, I4, ry2, t, vs, ey, ht, q3⟩ => ?_))))
    subst ey
    obtain rfl : v2 = Value.ref t := ry2
    refine StX.star_any I4 ht fun us s5 I5 rv => Calls.spliced_nil ?_
    refine thn (q3 pos pins s5 I5) fun ws s6 ⟨zs, H4, I6, rz, hm, lz, lv, hc⟩ => ?_
    refine ⟨met_P I6 hm, ?_⟩
    rw [hks]
    refine wpAny_call (PySem.W.method_call (met_P I6 hm).1 ?_)
    show codeAny _ _ (.call (.ref g) ⟨Value.ref a :: ([] ++ v1 :: (us ++ [])), _⟩) _ _
    rw [List.append_nil]
    exact run_sk (us := [Value.ref a, v1]) (vs := [V.ref a, y1]) F (c.room.mono hj) passL I6 (.cons rfl (.cons ry1 .nil)) rv rz rfl lz lv hc
end
section
variable {P : Program} {w : World} {K : PySem.W.Frag} {mg : Str → Option Value} {base : Heap}
/-- THE RULE for a def f(a, .., *v, k = ..), called with all its keywords -/
theorem def_sk {x qual : Str} {params : Arguments} {body : List Stmt} {scope : Scope} {kws : List (Str × V)} {f : Addr} {fd : FuncData} {N Gn ps ks : List Str} {pv : Str} {k : Nat} {a : ASp} (F : FunD K x qual params body scope [] kws f fd) (S : FnScope N (ps ++ (ks ++ [pv])) scope) {mm : Nat} (nm : NmOk N Gn scope mm)
    (hb : ∀ (kV doc pm : Value) (an : Option Addr) (cdv ct : Value) (us rest ws : List Value), us.length = ps.length → ws.length = ks.length → bindArgs (PySem.W.fnOf x qual params body scope .none kV doc pm an cdv ct) ⟨us ++ rest, ks.zip ws⟩ = (newTuple rest >>= fun t => pure (ps.zip us ++ (ks.zip ws ++ [(pv, t)]))))
    (h : ∀ (X : Cx) (F0 : Hp) (es : List D) (G G2 : Gs) (KN : D → Gs → Prop) (KE : KX), X.prog = P → X.w = w → X.K = K → X.mg = mg → X.base = base → Ctx N scope k X → (∀ x, X.fn x = true) → NmOk N Gn scope mm → Rz X F0 (fun C fs G' => ∃ G1, Ent G' (G1 ++ G2) ∧ KE C fs G1) → a es G KN KE →
      GSs X F0 body (startD N es) (G ++ G2) (bodyA KN G2)) : FnSK P w K mg base (k + 1) f ps.length ks a := by
  obtain ⟨oc, od, dV, kV, doc, pm, an, cdv, ct, osl, rfl, lk, hcd, hD, _⟩ := F.ex
  obtain rfl : dV = .none := hD.elim (fun h => h.2) fun h => absurd rfl h.1
  intro A outer s H us rest ws vs rs zs Q E hr e0 r1 r2 r3 l1 l2 l3 hc
  have hn : H s.heap.objs.size = Option.none := e0.hok.fresh (Nat.le_refl _)
  have hl1 : us.length = ps.length := by rw [← r1.length]; exact l1
  have hl2 : rest.length ≤ sizeLine := by rw [← r2.length]; exact l3
  have hl3 : ws.length = ks.length := by rw [← r3.length]; exact l2
  refine StX.run_bnd lk hcd S hr e0 (G := fun xs H2 => ∃ p, H p = Option.none ∧ xs = vs ++ (zs ++ [V.ref p]) ∧ H2 = upd H p (.tup rs)) (fun A' Ex Q' hh => ?_) fun s2 H2 xs ⟨p, hp, ex, eH⟩ hr' => ?_
  · rw [hb kV doc pm an cdv ct us rest ws hl1 hl3]
    refine wpAny_bind (wpAny_newTuple (wpAny_pure ?_) hl2)
    have new : ObjOk P w (upd H s.heap.objs.size (.tup rs)) (s.heap.push ({ cls := .type "tuple", data := .seq rest.toArray } : Obj)) s.heap.objs.size (.tup rs) := ⟨l3, rest, r2, ⟨_, Heap.get?_push_size _ rfl, rfl, _, rfl⟩⟩
    have un := StX.un_laid (fs := frs outer) (s := s) (o := ({ cls := .type "tuple", data := .seq rest.toArray } : Obj)) (u := .tup rs) hn
    have z := hh _ _ (vs ++ (zs ++ [V.ref s.heap.objs.size])) (us ++ (ws ++ [Value.ref s.heap.objs.size])) (StX.env0_laid e0 new) un rfl (fun e s' => StX.cxUp outer s H _ _ E e s' un (fun b o q => Heap.get?_push_of_some _ q) rfl) (r1.append (r3.append (.cons rfl .nil)))
      (by rw [List.length_append, List.length_append, List.length_append, List.length_append, l1, l2] <;> rfl) ⟨_, hn, rfl, rfl⟩
    rw [List.zip_append hl1.symm, List.zip_append hl3.symm] at z
    exact z
  · subst ex eH
    exact body_ok (x := x) S nm h cdv A outer s2 _ _ Q E hr' (hc p hp)
end
end Ly
/-! Ly13: small things. -/
namespace Ly
open PySem PySem.Spec PyProof.Rows L2
theorem brQ0 {b : Bool} {U W : Prop} (h : b = false) (w : W) : (b = true → U) ∧ (b = false → W) := ⟨fun q => absurd q (by rw [h]; decide), fun _ => w⟩
theorem brQ1 {b : Bool} {U W : Prop} (h : b = true) (u : U) : (b = true → U) ∧ (b = false → W) := ⟨fun _ => u, fun q => absurd q (by rw [h]; decide)⟩
/-- groups taken one by one: Ent G (g1 :: g2 :: .. ++ R) -/
theorem Ent.take {G R R' : Gs} {g : Grp} (h : Rem G g R) (t : Ent R R') : Ent G (g :: R') := Ent.trans h (Ent.cons g t)
theorem Ent.takeA {G R R' : Gs} {g : Grp} {L : Gs} (h : Rem G g R) (t : Ent R (L ++ R')) : Ent G ((g :: L) ++ R') := Ent.trans h (Ent.cons g t)
theorem Ent.endA {R : Gs} : Ent R (([] : Gs) ++ R) := Ent.refl R
section
variable {X : Cx} {F0 : Hp} {ds : DS} {G G2 : Gs} {K : D → Gs → Prop} {KA : List D → Gs → Prop} {e a b o e1 e2 : Expr} {es : List Expr} {kws : List Keyword} {ks : List Str} {pos apos cpos kpos p : Pos} {N : List Str} {sc : Scope} {k j n : Nat} {d d' : D} {x f m : Str} {C : Addr} {sp : ASp} {fs : List (Str × D)} {nm : Option Str} {A : AE}
theorem xge_con2 {u : Value} {i : Int} (hk : Con X.K C f (.int i) u) (hc : Cls X.K C) (h : GE X F0 o ds G fun d G1 => ∃ fs, InsAt X.K G1 d C fs ∧ fs.lookup f = none ∧ K (.int i) G1) (hb : attributeBase o f X.env (eval o X.env) = eval o X.env) : GE X F0 (.Attribute o f pos) ds G K :=
  xge_conI (h.mono fun d G1 ⟨fs, h1, h2, h3⟩ => ⟨C, fs, h1, hc, hk, h2, h3⟩) hb
theorem callK_all {a : ASp} {es : List D} {G : Gs} {KN : D → Gs → Prop} (h : a es G KN NoX) : CallK a es G KN := ⟨G, [], by rw [List.append_nil]; exact Ent.refl _, by
  have e : (fun d G' => KN d (G' ++ [])) = KN := by funext d G'; rw [List.append_nil]
  rw [e]
  exact h⟩
/-- tuples of ints compared -/
theorem rk_ltT {ns ms : List Int} (hu : X.A.units < cLine) (h : TupAt X.K G d (ns.map D.int)) (h' : TupAt X.K G d' (ms.map D.int)) (q : K (.bl (HT.lexLt ns ms)) G) : RK2 X F0 (wpR X (compareOp .Lt)) d d' G K := RK2.of (op_ltT hu) fun F H x y Q a s r1 r2 z => by
  obtain ⟨p1, vs, e1, h1, h2⟩ := h F H x s r1
  obtain ⟨p2, us, e2, h3, h4⟩ := h' F H y s r2
  have a1 := repL_int h2
  have a2 := repL_int h4
  subst a1 a2
  exact ⟨p1, p2, ns, ms, e1, e2, h1, h3, z _ _ _ F H q (Ex.refl F) s (rep_bl.mpr rfl)⟩
/-- a global that holds an object -/
theorem xge_globR {Gn : List Str} {jg mm : Nat} {a : Addr} (c : Ctx N sc k X) (n : NmOk N Gn sc mm) (hg : Plc Gn x jg) (hm : X.mg x = some (.ref a)) (q : K (.raw (.ref a)) G) : GE X F0 (.Name x pos) ds G K := xge_glob (v := .ref a) c n hg hm rfl q
/-- what a store to an attribute leaves, written out -/
inductive PutF : Str → D → List (Str × D) → List (Str × D) → Prop
  | nil {f : Str} {d : D} : PutF f d [] [(f, d)]
  | here {f : Str} {d x : D} {r : List (Str × D)} : PutF f d ((f, x) :: r) ((f, d) :: r)
  | there {f g : Str} {d x : D} {r r' : List (Str × D)} (h : g ≠ f) : PutF f d r r' → PutF f d ((g, x) :: r) ((g, x) :: r')
theorem PutF.ok {f : Str} {d : D} {r r' : List (Str × D)} (h : PutF f d r r') : putD f d r = r' := by
  induction h with
  | nil => rfl
  | here => unfold putD; rw [if_pos rfl]
  | there h _ ih => unfold putD; rw [if_neg h, ih]
theorem xgs_fld2 {value : Expr} {pos' : Pos} (h : GE X F0 value ds G fun d1 G1 => GE X F0 o ds G1 fun d2 G2 => ∃ p C fs fs' c, d2 = .raw (.ref p) ∧ Foc G2 (gi X.K p C fs) c ∧ Cls X.K C ∧ NoAttr X.K C f ∧ fs.length < 1000 ∧ PutF f d1 fs fs' ∧ A.nx ds (c (gi X.K p C fs')))
    (hs : swapsWith value (some (.Attribute o f pos')) pos.line X.env = pure false) : GS X F0 (.Assign [.Attribute o f pos'] value pos) ds G A :=
  xgs_fld (h.mono fun d1 G1 q => q.mono fun d2 G2 ⟨p, C, fs, fs', c, h1, h2, h3, h4, h5, h6, h7⟩ => ⟨p, C, fs, c, h1, h2, h3, h4, h5, by rw [h6.ok]; exact h7⟩) hs
theorem Ctx.u0 (c : Ctx N sc k X) : X.A.units < cLine := by have := c.room.un; omega
/-- a written tuple of texts, its index -/
theorem rm_tindexW {a : Addr} {zs : List Str} {z : Str} {j : Nat} (h : ∀ H, SqT X.K H a (zs.map V.str)) (hj : zs[j]? = some z) (hf : ∀ m, m < j → zs[m]? ≠ some z) (q : K (.int (j : Nat)) G) :
    RKM X F0 (fun x xs H Q => ∃ p, ∃ ys : List Str, ∃ z j, x = .ref p ∧ xs = [.str z] ∧ SqT X.K H p (ys.map V.str) ∧ ys[j]? = some z ∧ (∀ m, m < j → ys[m]? ≠ some z) ∧ Q (.int (j : Nat)) H) (.raw (.ref a)) [.str z] G K := rm_tindex (tup_written h) hj hf q
end
end Ly
namespace Ly
open PySem PySem.Spec PyProof.Rows L2
theorem LstAt.ent {K : PySem.W.Frag} {G G' : Gs} {d : D} {xs : List D} (en : Ent G' G) (h : LstAt K G d xs) : LstAt K G' d xs := fun F H v s r => h F H v (en.sat s) r
theorem TupAt.ent {K : PySem.W.Frag} {G G' : Gs} {d : D} {xs : List D} (en : Ent G' G) (h : TupAt K G d xs) : TupAt K G' d xs := fun F H v s r => h F H v (en.sat s) r
theorem InsAt.ent {K : PySem.W.Frag} {G G' : Gs} {d : D} {C : Addr} {fs : List (Str × D)} (en : Ent G' G) (h : InsAt K G d C fs) : InsAt K G' d C fs := fun F H v s r => h F H v (en.sat s) r
/-- dicts: what is in them -/
theorem valD_some {κ : Type} [DecidableEq κ] {k : κ} : ∀ {kvs : List (κ × D)}, (valD kvs k).isSome = kvs.any fun kv => decide (kv.1 = k)
  | [] => rfl
  | a :: kvs => by
    by_cases q : a.1 = k
    · simp [valD, List.find?_cons, q]
    · have e1 : valD (a :: kvs) k = valD kvs k := by simp [valD, List.find?_cons, q]
      rw [e1, valD_some, List.any_cons, decide_eq_false q, Bool.false_or]
theorem any_put {κ : Type} [DecidableEq κ] {k k' : κ} {v : D} {kvs : List (κ × D)} : ((putK' kvs k v).any fun kv => decide (kv.1 = k')) = (decide (k = k') || kvs.any fun kv => decide (kv.1 = k')) := by
  unfold putK'
  split
  · rename_i h
    have e : (kvs.map fun kv => if kv.1 = k then (kv.1, v) else kv).any (fun kv => decide (kv.1 = k')) = kvs.any fun kv => decide (kv.1 = k') := by
      rw [List.any_map]
      congr 1
      funext kv
      show decide ((if kv.1 = k then (kv.1, v) else kv).1 = k') = _
      split <;> rfl
    rw [e]
    by_cases q : k = k'
    · subst q
      rw [h, decide_eq_true rfl, Bool.true_or]
    · rw [decide_eq_false q, Bool.false_or]
  · rw [List.any_append, Bool.or_comm]
    simp
theorem len_put {κ : Type} [DecidableEq κ] {k : κ} {v : D} {kvs : List (κ × D)} : (putK' kvs k v).length ≤ kvs.length + 1 := by
  unfold putK'
  split <;> simp
end Ly
namespace Ly
open PySem PySem.Spec PyProof.Rows L2
theorem Foc.nilA {G : Gs} {g : Grp} {c : Grp → Gs} (h : Foc G g c) : Foc (([] : Gs) ++ G) g c := h
theorem Foc.consA {G L : Gs} {x g : Grp} {c : Grp → Gs} (h : Foc (x :: (L ++ G)) g c) : Foc ((x :: L) ++ G) g c := h
theorem Foc.assA {G L M : Gs} {g : Grp} {c : Grp → Gs} (h : Foc (L ++ (M ++ G)) g c) : Foc ((L ++ M) ++ G) g c := by rw [List.append_assoc]; exact h
theorem Rem.nilA {G R : Gs} {g : Grp} (h : Rem G g R) : Rem (([] : Gs) ++ G) g R := h
theorem Rem.consA {G L R : Gs} {x g : Grp} (h : Rem (x :: (L ++ G)) g R) : Rem ((x :: L) ++ G) g R := h
theorem Rem.assA {G L M R : Gs} {g : Grp} (h : Rem (L ++ (M ++ G)) g R) : Rem ((L ++ M) ++ G) g R := by rw [List.append_assoc]; exact h
theorem Ent.takeN {G R' : Gs} {g : Grp} {L M : Gs} (h : Ent G ((g :: (L ++ M)) ++ R')) : Ent G (((g :: L) ++ M) ++ R') := h
theorem Ent.takeZ {G R' : Gs} {M : Gs} (h : Ent G (M ++ R')) : Ent G ((([] : Gs) ++ M) ++ R') := h
end Ly
namespace Ly
open PySem PySem.Spec PyProof.Rows L2
theorem bind_sk21 {B : List Value → List Value → Sem (List (Str × Value))} {p1 p2 pv k1 : Str} (h0 : ∀ a b w, B [a, b] [w] = (newTuple [] >>= fun t => pure [(p1, a), (p2, b), (k1, w), (pv, t)])) (h1 : ∀ a b r rs w, B (a :: b :: r :: rs) [w] = (newTuple (r :: rs) >>= fun t => pure [(p1, a), (p2, b), (k1, w), (pv, t)])) :
    ∀ us rest ws : List Value, us.length = [p1, p2].length → ws.length = [k1].length → B (us ++ rest) ws = (newTuple rest >>= fun t => pure ([p1, p2].zip us ++ ([k1].zip ws ++ [(pv, t)])))
  | [a, b], [], [w], _, _ => h0 a b w
  | [a, b], r :: rs, [w], _, _ => h1 a b r rs w
theorem GTS.gxR {X : Cx} {F0 : Hp} {ds : DS} {G R : Gs} {t : TS} {A : AE} {α : Type} {f : α → Gs} (h : Rem G (Ly.gx f) R) (k : ∀ x, GTS X F0 t ds (f x ++ R) A) : GTS X F0 t ds G A := GTS.ent h (GTS.gx k)
theorem GTE.gxR {X : Cx} {F0 : Hp} {ds : DS} {G R : Gs} {K : D → Gs → Prop} {t : TE} {α : Type} {f : α → Gs} (h : Rem G (Ly.gx f) R) (k : ∀ x, GTE X F0 t ds (f x ++ R) K) : GTE X F0 t ds G K := GTE.ent h (GTE.gx k)
end Ly
namespace Ly
open PySem PySem.Spec PyProof.Rows L2
theorem GTT.ent {X : Cx} {F0 : Hp} {ds : DS} {G G1 : Gs} {K : Bool → Gs → Prop} {t : TT} (p : Ent G G1) (h : GTT X F0 t ds G1 K) : GTT X F0 t ds G K := fun σ F H Q a b c q => h σ F H Q a b (p.sat c) q
theorem Ent.srcNil {G R : Gs} (h : Ent G R) : Ent (([] : Gs) ++ G) R := h
theorem Ent.srcCons {G L R : Gs} {x : Grp} (h : Ent (x :: (L ++ G)) R) : Ent ((x :: L) ++ G) R := h
theorem Ent.srcAss {G L M R : Gs} (h : Ent (L ++ (M ++ G)) R) : Ent ((L ++ M) ++ G) R := by rw [List.append_assoc]; exact h
theorem Ent.tgtNil {G R : Gs} (h : Ent G R) : Ent G (([] : Gs) ++ R) := h
theorem Ent.tgtCons {G L R : Gs} {x : Grp} (h : Ent G (x :: (L ++ R))) : Ent G ((x :: L) ++ R) := h
theorem Ent.tgtAss {G L M R : Gs} (h : Ent G (L ++ (M ++ R))) : Ent G ((L ++ M) ++ R) := by rw [List.append_assoc]; exact h
theorem Ent.dropT {G R : Gs} {x : Grp} (h : Ent G R) : Ent (x :: G) R := Ent.trans Ent.drop h
end Ly
/-! Ly14: arrays by the data that they hold. -/
namespace Ly
open PySem PySem.Spec PyProof.Rows L2
section
variable {X : Cx} {F0 : Hp} {ds : DS} {G R : Gs} {A : AE} {K : PySem.W.Frag} {α : Type} {φ : α → Hp → HO → Prop} {xs : List α} {qs : List Addr} {p q : Addr} {i : Nat} {y : α}
theorem openA {t : TS} (h : Rem G (gA X.K p (xs.map φ)) R) (k : ∀ qs : List Addr, qs.length = xs.length → GTS X F0 t ds (gl X.K p (refs qs) :: gb (arrG (xs.map φ) qs) :: R) A) : GTS X F0 t ds G A :=
  GTS.gxR (f := fun qs : {qs : List Addr // qs.length = (xs.map φ).length} => Arr X.K p (xs.map φ) qs.1) h fun x => k x.1 (by have := x.2; simpa using this)
theorem closeA (h : qs.length = xs.length) : Ent (gl K p (refs qs) :: gb (arrG (xs.map φ) qs) :: G) (gA K p (xs.map φ) :: G) := gA_close (by simpa using h)
theorem Foc.arrM (hq : qs.length = xs.length) (hi : i < xs.length) (hi2 : i < qs.length) : Foc (gb (arrG (xs.map φ) qs) :: G) (one (qs[i]'hi2) (φ xs[i])) (fun g' => gb ((arrG (xs.map φ) qs).set i g') :: G) := by
  have h := arr_at (φs := xs.map φ) (qs := qs) (i := i) (by simpa using hq) (by simpa using hi)
  rw [List.getElem_map] at h
  exact Foc.nth h
theorem arrM_set (hi : i < qs.length) : (arrG (xs.map φ) qs).set i (one (qs[i]'hi) (φ y)) = arrG ((xs.set i y).map φ) qs := by
  rw [arr_set hi, List.map_set]
theorem arrM_app (hq : qs.length = xs.length) : Ent (gl K p (refs qs ++ [.raw (.ref q)]) :: one q (φ y) :: gb (arrG (xs.map φ) qs) :: G) (gA K p ((xs ++ [y]).map φ) :: G) := by
  have e1 : refs qs ++ [D.raw (V.ref q)] = refs (qs ++ [q]) := by simp
  have e2 : arrG ((xs ++ [y]).map φ) (qs ++ [q]) = arrG (xs.map φ) qs ++ [one q (φ y)] := by
    rw [List.map_append]
    exact arr_app (by simpa using hq)
  rw [e1]
  refine Ent.trans (Ent.cons _ gb_app) ?_
  rw [← e2]
  exact closeA (by simp [hq])
/-- one object: an array -/
theorem arrM_one : Ent (gl K p [.raw (.ref q)] :: one q (φ y) :: G) (gA K p ([y].map φ) :: G) :=
  Ent.trans (Ent.cons _ (gb_close (gs := [one q (φ y)]))) (closeA (xs := [y]) (qs := [q]) rfl)
end
end Ly
namespace Ly
open PySem PySem.Spec PyProof.Rows L2
theorem xgs_par2 {X : Cx} {F0 : Hp} {ds : DS} {G : Gs} {N : List Str} {sc : Scope} {k : Nat} {a b : Expr} {pos : Pos} {A : AE} {x y : Str} {i i' : Nat} {px py pt pt2 : Pos} {kt k2 : Nat} (c : Ctx N sc k X) (hx : Plc N x i) (hy : Plc N y i') (hij : i ≠ i') (hlx : sc.names.lookup x = some .local) (hly : sc.names.lookup y = some .local)
    (hw : ∀ env : Env, env.scope = sc → swappedStores [.Tuple [.Name x px, .Name y py] kt pt] (.Tuple [a, b] k2 pt2) env = pure (some [x, y]))
    (h : GA X F0 [a, b] ds G fun rs G1 => ∃ v w, rs = [v, w] ∧ A.nx ((ds.set i (some v)).set i' (some w)) G1)
    (hs : swapsWithSole [.Tuple [.Name x px, .Name y py] kt pt] (.Tuple [a, b] k2 pt2) pos.line X.env = pure false) : GS X F0 (.Assign [.Tuple [.Name x px, .Name y py] kt pt] (.Tuple [a, b] k2 pt2) pos) ds G A :=
  xgs_par (f := fun _ => []) (f' := fun _ => []) (d1 := []) c hx hy hij hlx hly h (hw X.env c.hsc) hs
end Ly
namespace Ly
open PySem PySem.Spec PyProof.Rows L2
section
variable {X : Cx} {F0 : Hp} {ds : DS} {G : Gs} {K : D → Gs → Prop} {N : List Str} {sc scope : Scope} {k : Nat} {elt : Expr} {ifs : List Expr} {f : D → DS} {A : AE} {body : List Stmt} {i : Nat} {d : D} {xs : List D} {lo : Int} {n : Nat}
/-! loops that leave the groups as they are -/
theorem LcTurn.ent {p : Addr} {acc : List D} {Pn : List D → Gs → Prop} {G' : Gs} (en : Ent G' G) (h : LcTurn X F0 N sc scope k elt p acc Pn ds G ifs) : LcTurn X F0 N sc scope k elt p acc Pn ds G' ifs := by
  match ifs, h with
  | [], h => exact fun s H env fp fnv c => GTE.ent (Ent.cons _ en) (h s H env fp fnv c)
  | [t], h => exact fun s H env fp fnv c => GTT.ent (Ent.cons _ en) (h s H env fp fnv c)
theorem LcR.same (P : Nat → List D → Prop) (h0 : P 0 []) (ht : ∀ (j : Nat) acc p, j < n → P j acc → LcTurn X F0 N sc scope k elt p acc (fun acc' G' => P (j + 1) acc' ∧ Ent G' G) (f (.int (lo + j))) G ifs) (he : ∀ p acc G', P n acc → Ent G' G → K (.raw (.ref p)) (gl X.K p acc :: G')) : LcR X F0 N sc scope k elt ifs f G lo n K :=
  fun p => ⟨fun j acc G' => P j acc ∧ Ent G' G, ⟨h0, Ent.refl _⟩, fun j acc G' hj ⟨h, en⟩ => LcTurn.ent en (ht j acc p hj h), fun acc G' ⟨h, en⟩ => he p acc G' h en⟩
theorem LcL.same (P : Nat → List D → Prop) (hx : LstAt X.K G d xs) (h0 : P 0 []) (ht : ∀ (j : Nat) y acc p, xs[j]? = some y → P j acc → LcTurn X F0 N sc scope k elt p acc (fun acc' G' => P (j + 1) acc' ∧ Ent G' G) (f y) G ifs) (he : ∀ p acc G', P xs.length acc → Ent G' G → K (.raw (.ref p)) (gl X.K p acc :: G')) : LcL X F0 N sc scope k elt ifs f G d xs K :=
  fun p => ⟨fun j acc G' => P j acc ∧ Ent G' G, ⟨h0, Ent.refl _⟩, fun j acc G' _ ⟨h, en⟩ => (hx.ent en).cons, fun j y acc G' hj ⟨h, en⟩ => LcTurn.ent en (ht j y acc p hj h), fun acc G' ⟨h, en⟩ => he p acc G' h en⟩
theorem LcT.same (P : Nat → List D → Prop) (hx : TupAt X.K G d xs) (h0 : P 0 []) (ht : ∀ (j : Nat) y acc p, xs[j]? = some y → P j acc → LcTurn X F0 N sc scope k elt p acc (fun acc' G' => P (j + 1) acc' ∧ Ent G' G) (f y) G ifs) (he : ∀ p acc G', P xs.length acc → Ent G' G → K (.raw (.ref p)) (gl X.K p acc :: G')) : LcT X F0 N sc scope k elt ifs f G d xs K :=
  fun p => ⟨fun j acc G' => P j acc ∧ Ent G' G, ⟨h0, Ent.refl _⟩, fun j acc G' _ ⟨h, en⟩ => (hx.ent en).cons, fun j y acc G' hj ⟨h, en⟩ => LcTurn.ent en (ht j y acc p hj h), fun acc G' ⟨h, en⟩ => he p acc G' h en⟩
theorem ForR.same (P : Nat → DS → Prop) (h0 : P 0 ds) (ht : ∀ (j : Nat) ds', j < n → P j ds' → GSs X F0 body (ds'.set i (some (.int (lo + j)))) G (loopA A fun ds' G' => P (j + 1) ds' ∧ Ent G' G)) (he : ∀ ds' G', P n ds' → Ent G' G → A.nx ds' G') : ForR X F0 A body i ds G lo n :=
  ⟨fun j ds' G' => P j ds' ∧ Ent G' G, ⟨h0, Ent.refl _⟩, fun j ds' G' hj ⟨h, en⟩ => GTS.ent en (ht j ds' hj h), fun ds' G' ⟨h, en⟩ => he ds' G' h en⟩
theorem ForL.same (P : Nat → DS → Prop) (hx : LstAt X.K G d xs) (h0 : P 0 ds) (ht : ∀ (j : Nat) y ds', xs[j]? = some y → P j ds' → GSs X F0 body (ds'.set i (some y)) G (loopA A fun ds' G' => P (j + 1) ds' ∧ Ent G' G)) (he : ∀ ds' G', P xs.length ds' → Ent G' G → A.nx ds' G') : ForL X F0 A body i ds G d xs :=
  ⟨fun j ds' G' => P j ds' ∧ Ent G' G, ⟨h0, Ent.refl _⟩, fun j ds' G' _ ⟨_, en⟩ => hx.ent en, fun j y ds' G' hj ⟨h, en⟩ => GTS.ent en (ht j y ds' hj h), fun ds' G' ⟨h, en⟩ => he ds' G' h en⟩
theorem ForT.same (P : Nat → DS → Prop) (hx : TupAt X.K G d xs) (h0 : P 0 ds) (ht : ∀ (j : Nat) y ds', xs[j]? = some y → P j ds' → GSs X F0 body (ds'.set i (some y)) G (loopA A fun ds' G' => P (j + 1) ds' ∧ Ent G' G)) (he : ∀ ds' G', P xs.length ds' → Ent G' G → A.nx ds' G') : ForT X F0 A body i ds G d xs :=
  ⟨fun j ds' G' => P j ds' ∧ Ent G' G, ⟨h0, Ent.refl _⟩, fun j ds' G' _ ⟨_, en⟩ => hx.ent en, fun j y ds' G' hj ⟨h, en⟩ => GTS.ent en (ht j y ds' hj h), fun ds' G' ⟨h, en⟩ => he ds' G' h en⟩
/-- loops over groups that change: L j behind j turns -/
theorem ForL.chg (L : Nat → Gs) (P : Nat → DS → Prop) (hx : ∀ j, j ≤ xs.length → LstAt X.K (L j) d xs) (h0 : P 0 ds) (hG : Ent G (L 0)) (ht : ∀ (j : Nat) y ds', xs[j]? = some y → P j ds' → GSs X F0 body (ds'.set i (some y)) (L j) (loopA A fun ds' G' => P (j + 1) ds' ∧ Ent G' (L (j + 1)))) (he : ∀ ds' G', P xs.length ds' → Ent G' (L xs.length) → A.nx ds' G') : ForL X F0 A body i ds G d xs :=
  ⟨fun j ds' G' => P j ds' ∧ Ent G' (L j), ⟨h0, hG⟩, fun j ds' G' hj ⟨_, en⟩ => (hx j hj).ent en, fun j y ds' G' hj ⟨h, en⟩ => GTS.ent en (ht j y ds' hj h), fun ds' G' ⟨h, en⟩ => he ds' G' h en⟩
theorem ForR.chg (L : Nat → Gs) (P : Nat → DS → Prop) (h0 : P 0 ds) (hG : Ent G (L 0)) (ht : ∀ (j : Nat) ds', j < n → P j ds' → GSs X F0 body (ds'.set i (some (.int (lo + j)))) (L j) (loopA A fun ds' G' => P (j + 1) ds' ∧ Ent G' (L (j + 1)))) (he : ∀ ds' G', P n ds' → Ent G' (L n) → A.nx ds' G') : ForR X F0 A body i ds G lo n :=
  ⟨fun j ds' G' => P j ds' ∧ Ent G' (L j), ⟨h0, hG⟩, fun j ds' G' hj ⟨h, en⟩ => GTS.ent en (ht j ds' hj h), fun ds' G' ⟨h, en⟩ => he ds' G' h en⟩
end
end Ly
namespace Ly
open PySem PySem.Spec PyProof.Rows L2
theorem st_list {es rest : List Expr} {p : Pos} {env : Env} : starEach (Expr.List es p :: rest) env = (false, eval (.List es p) env) :: starEach rest env := rfl
end Ly
namespace Ly
open PySem PySem.Spec PyProof.Rows L2
/-- d is a list of these that may be read: the script -/
def ScrAt (K : PySem.W.Frag) (G : Gs) (d : D) (xs : List D) : Prop := ∀ (F H : Hp) (v : V), Sat H F G → Rep K F d v → ∃ a vs, v = .ref a ∧ SqL K H a vs ∧ RepL K F xs vs
theorem ScrAt.ent {K : PySem.W.Frag} {G G' : Gs} {d : D} {xs : List D} (en : Ent G' G) (h : ScrAt K G d xs) : ScrAt K G' d xs := fun F H v s r => h F H v (en.sat s) r
theorem ScrAt.mono {K : PySem.W.Frag} {G G2 : Gs} {d : D} {xs : List D} (h : ScrAt K G d xs) : ScrAt K (G ++ G2) d xs := fun F H v s r => h F H v s.left r
theorem rl_listS {X : Cx} {F0 : Hp} {G : Gs} {K : D → Gs → Prop} {d : D} {xs : List D} (h : ScrAt X.K G d xs) (q : ∀ p, K (.raw (.ref p)) (gl X.K p xs :: G)) : RKL X F0 (wpC X (.type "list")) [d] G K := RKL.of call_list_of fun F H us Q a s r z => by
  obtain ⟨u, w, e1, h1, h2⟩ := RepL.cons_iff.mp r
  obtain ⟨p, vs, e2, h3, h4⟩ := h F H u s h1
  exact ⟨p, vs, by rw [e1, e2, RepL.nil_iff.mp h2], .inl h3, fun l hl => z _ _ _ F _ (q l) (Ex.refl F) (s.ownL hl h4) (rep_raw.mpr rfl)⟩
end Ly
namespace Ly
open PySem PySem.Spec PyProof.Rows L2
open He (ga ma eqO eqO_ok ba FnW Dv)
theorem fOwn_ok {K : PySem.W.Frag} {C : Str} (c : fOwn C K = true) : OwnTy K (ga K C) := by
  obtain ⟨c1, c⟩ := ba c
  obtain ⟨c2, c⟩ := ba c
  obtain ⟨c3, c4⟩ := ba c
  exact ⟨eqO_ok c1, eqO_ok c2, of_decide_eq_true c3, of_decide_eq_true c4⟩
theorem fBin_ok {K : PySem.W.Frag} {C : Str} {op : Operator} (c : fBin C op K = true) : BinI K (ga K C) op := by
  obtain ⟨c1, c⟩ := ba c
  obtain ⟨c2, c⟩ := ba c
  obtain ⟨c3, c⟩ := ba c
  obtain ⟨c4, c5⟩ := ba c
  exact ⟨c1, eqO_ok c2, Option.isSome_iff_exists.mp c3, Option.isSome_iff_exists.mp c4, of_decide_eq_true c5⟩
end Ly
namespace K76
open PySem PySem.Spec PyProof.Rows L2 Ly
local macro_rules | `(tactic| mi_spec "putl") => `(tactic| with_reducible (repeat (first | exact PutL.here | apply PutL.there)))
local macro_rules | `(tactic| mi_spec "getl") => `(tactic| with_reducible (repeat (first | exact GetL.here | apply GetL.there)))
local macro_rules | `(tactic| mi_spec "put") => `(tactic| with_reducible (repeat (first | exact Put.here | apply Put.there)))
local macro_rules | `(tactic| mi_spec "foc") => `(tactic| with_reducible (repeat (first | exact Foc.here | exact Foc.arrM (by assumption) (by assumption) _ | apply Foc.there | apply Foc.nilA | apply Foc.consA | apply Foc.assA)))
local macro_rules | `(tactic| mi_spec "vis") => `(tactic| first | exact Or.inl rfl | exact Or.inr (Or.inl rfl) | exact Or.inr (Or.inr rfl))
local macro_rules | `(tactic| mi_spec "opAdd") => `(tactic| with_reducible (first
  | refine rk_addI ?_))
local macro_rules | `(tactic| mi_spec "opSub") => `(tactic| with_reducible (first
  | refine rk_subI ?_))
local macro_rules | `(tactic| mi_spec "opMult") => `(tactic| first | ((with_reducible refine rk_mulI ?hs ?_); (case hs => (first | exact Or.inr ⟨by decide, by decide⟩ | exact Or.inl ⟨by decide, by decide⟩ | omega))))
local macro_rules | `(tactic| mi_spec "opMod") => `(tactic| (with_reducible refine rk_modI ?hs ?_); (case hs => (first | decide | omega)))
local macro_rules | `(tactic| mi_spec "opFloorDiv") => `(tactic| (with_reducible refine rk_divI ?hs ?_); (case hs => (first | decide | omega)))
local macro_rules | `(tactic| mi_spec "opPow") => `(tactic| (with_reducible refine rk_powI ?hs ?_); (case hs => decide))
local macro_rules | `(tactic| mi_spec "opUSub") => `(tactic| with_reducible (first
  | refine rk_negI ?_))
local macro_rules | `(tactic| mi_spec "opLt") => `(tactic| with_reducible (first
  | refine rk_ltI ?_))
local macro_rules | `(tactic| mi_spec "opLtE") => `(tactic| with_reducible (first
  | refine rk_leI ?_))
local macro_rules | `(tactic| mi_spec "opGt") => `(tactic| with_reducible (first
  | refine rk_gtI ?_))
local macro_rules | `(tactic| mi_spec "opGtE") => `(tactic| with_reducible (first
  | refine rk_geI ?_))
local macro_rules | `(tactic| mi_spec "opEq") => `(tactic| with_reducible (first
  | refine rk_eqI ?_
  | refine rk_eqS ?_
  | refine rk_eqB ?_))
local macro_rules | `(tactic| mi_spec "opNotEq") => `(tactic| with_reducible (first
  | refine rk_neI ?_
  | refine rk_neS ?_))
local macro_rules | `(tactic| mi_spec "opIs") => `(tactic| refine rk_isN (by first | exact isN_non | exact isN_int | exact isN_lst | exact isN_tup | exact isN_ref | exact isN_ins | exact isN_bl | exact isN_str) ?_)
local macro_rules | `(tactic| mi_spec "opIsNot") => `(tactic| refine rk_notN (by first | exact isN_non | exact isN_int | exact isN_lst | exact isN_tup | exact isN_ref | exact isN_ins | exact isN_bl | exact isN_str) ?_)
local macro_rules | `(tactic| mi_spec "opIx 0") => `(tactic| with_reducible (first | refine rk_go0 (by mi_spec "foc") (by mi_spec "getl") ?_ | refine rk_gl0 (by mi_spec "getl") ?_ | refine rk_gt0 (by mi_spec "getl") ?_))
local macro_rules | `(tactic| mi_spec "opSt 0") => `(tactic| with_reducible refine st_l0 (by mi_spec "foc") (by mi_spec "putl") ?_)
local macro_rules | `(tactic| mi_spec "opIx 1") => `(tactic| with_reducible (first | refine rk_go1 (by mi_spec "foc") (by mi_spec "getl") ?_ | refine rk_gl1 (by mi_spec "getl") ?_ | refine rk_gt1 (by mi_spec "getl") ?_))
local macro_rules | `(tactic| mi_spec "opSt 1") => `(tactic| with_reducible refine st_l1 (by mi_spec "foc") (by mi_spec "putl") ?_)
local macro_rules | `(tactic| mi_spec "opIx 2") => `(tactic| with_reducible (first | refine rk_go2 (by mi_spec "foc") (by mi_spec "getl") ?_ | refine rk_gl2 (by mi_spec "getl") ?_ | refine rk_gt2 (by mi_spec "getl") ?_))
local macro_rules | `(tactic| mi_spec "opSt 2") => `(tactic| with_reducible refine st_l2 (by mi_spec "foc") (by mi_spec "putl") ?_)
local macro_rules | `(tactic| mi_spec "opIx 3") => `(tactic| with_reducible (first | refine rk_go3 (by mi_spec "foc") (by mi_spec "getl") ?_ | refine rk_gl3 (by mi_spec "getl") ?_ | refine rk_gt3 (by mi_spec "getl") ?_))
local macro_rules | `(tactic| mi_spec "opSt 3") => `(tactic| with_reducible refine st_l3 (by mi_spec "foc") (by mi_spec "putl") ?_)
local macro_rules | `(tactic| mi_spec "opIx 4") => `(tactic| with_reducible (first | refine rk_go4 (by mi_spec "foc") (by mi_spec "getl") ?_ | refine rk_gl4 (by mi_spec "getl") ?_ | refine rk_gt4 (by mi_spec "getl") ?_))
local macro_rules | `(tactic| mi_spec "opSt 4") => `(tactic| with_reducible refine st_l4 (by mi_spec "foc") (by mi_spec "putl") ?_)
local macro_rules | `(tactic| mi_spec "opIx 5") => `(tactic| with_reducible (first | refine rk_go5 (by mi_spec "foc") (by mi_spec "getl") ?_ | refine rk_gl5 (by mi_spec "getl") ?_ | refine rk_gt5 (by mi_spec "getl") ?_))
local macro_rules | `(tactic| mi_spec "opSt 5") => `(tactic| with_reducible refine st_l5 (by mi_spec "foc") (by mi_spec "putl") ?_)
local macro_rules | `(tactic| mi_spec "opIx 6") => `(tactic| with_reducible (first | refine rk_go6 (by mi_spec "foc") (by mi_spec "getl") ?_ | refine rk_gl6 (by mi_spec "getl") ?_ | refine rk_gt6 (by mi_spec "getl") ?_))
local macro_rules | `(tactic| mi_spec "opSt 6") => `(tactic| with_reducible refine st_l6 (by mi_spec "foc") (by mi_spec "putl") ?_)
local macro_rules | `(tactic| mi_spec "opIx 7") => `(tactic| with_reducible (first | refine rk_go7 (by mi_spec "foc") (by mi_spec "getl") ?_ | refine rk_gl7 (by mi_spec "getl") ?_ | refine rk_gt7 (by mi_spec "getl") ?_))
local macro_rules | `(tactic| mi_spec "opSt 7") => `(tactic| with_reducible refine st_l7 (by mi_spec "foc") (by mi_spec "putl") ?_)
local macro_rules | `(tactic| mi_spec "rl_len") => `(tactic| first | with_reducible refine rl_lenF ?_ | with_reducible refine rl_lenO (by mi_spec "foc") ?_ | with_reducible refine rl_lenT ?_ | refine rl_len (Or.inl (by assumption)) ?_ | refine rl_len (Or.inl (LstAt.cons (by assumption))) ?_)
local macro_rules | `(tactic| mi_spec "rl_list") => `(tactic| first | with_reducible refine rl_listF ?_ | refine rl_listD (Ly.Ctx.calm (by assumption)) (by mi_spec "foc") ?_ | with_reducible refine rl_listO (by mi_spec "foc") ?_ | with_reducible refine rl_listT ?_ | refine rl_list (Or.inl (by assumption)) ?_ | refine rl_list (Or.inr (by assumption)) ?_ | refine rl_listS (by assumption) ?_)
local macro_rules | `(tactic| mi_spec "rl_tuple") => `(tactic| first | with_reducible refine rl_tuple (lst_own (by mi_spec "foc")) ?_ | with_reducible refine rl_tuple lst_fr ?_)
local macro_rules | `(tactic| mi_spec "rl_int") => `(tactic| with_reducible (first
  | refine rl_int ?_))
local macro_rules | `(tactic| mi_spec "rl_str") => `(tactic| refine rl_str ?_ ?_)
local macro_rules | `(tactic| mi_spec "rl_min") => `(tactic| with_reducible (first
  | refine rl_min (Ly.Ctx.calm (by assumption)) ?_))
local macro_rules | `(tactic| mi_spec "opTy") => `(tactic| first | with_reducible refine ⟨ty_list (lst_own (by mi_spec "foc")), ?_⟩ | with_reducible refine ⟨ty_str, ?_⟩)
local macro_rules | `(tactic| mi_spec "rm_append") => `(tactic| refine rm_append (by mi_spec "foc") ?_ ?_)
local macro_rules | `(tactic| mi_spec "rm_pop") => `(tactic| refine rm_pop (by mi_spec "foc") ?_)
local macro_rules | `(tactic| mi_spec "rm_reverse") => `(tactic| refine rm_reverse (by mi_spec "foc") ?_)
local macro_rules | `(tactic| mi_spec "iopAdd") => `(tactic| with_reducible (first
  | refine rk_iaddI ?_))
local macro_rules | `(tactic| mi_spec "iopSub") => `(tactic| with_reducible (first
  | refine rk_isubI ?_))
local macro_rules | `(tactic| mi_spec "opFld") => `(tactic| first | refine ⟨_, _, _, ins_own (by mi_spec "foc"), by assumption, by assumption, by first | exact rfl | assumption, ?_⟩ | refine ⟨_, _, _, ins_fr, by assumption, by assumption, rfl, ?_⟩)
local macro_rules | `(tactic| mi_spec "putf") => `(tactic| repeat (first | exact PutF.nil | exact PutF.here | (apply PutF.there; (case h => decide))))
local macro_rules | `(tactic| mi_spec "opSetFld") => `(tactic| refine ⟨_, _, _, _, _, rfl, by mi_spec "foc", by assumption, by assumption, by exact Nat.le_of_ble_eq_true rfl, by mi_spec "putf", ?_⟩)
local macro_rules | `(tactic| mi_spec "opInsM") => `(tactic| first | refine ⟨_, ins_own (by mi_spec "foc"), rfl, ?_⟩ | refine ⟨_, ins_fr, rfl, ?_⟩)
local macro_rules | `(tactic| mi_spec "opInsP") => `(tactic| first | refine ⟨⟨_, ins_own (by mi_spec "foc")⟩, ?_⟩ | refine ⟨⟨_, ins_fr⟩, ?_⟩)
local macro_rules | `(tactic| mi_spec "opConP") => `(tactic| first | refine ⟨_, ins_own (by mi_spec "foc"), rfl, ?_⟩ | refine ⟨_, ins_fr, rfl, ?_⟩)
local macro_rules | `(tactic| mi_spec "rem") => `(tactic| with_reducible (repeat (first | exact Rem.here | apply Rem.there | apply Rem.nilA | apply Rem.consA | apply Rem.assA)))
local macro_rules | `(tactic| mi_spec "ent") => `(tactic| repeat (first | exact Ent.endA | (with_reducible (first | apply Ent.takeN | apply Ent.takeZ)) | (apply Ent.takeA; (case h => mi_spec "rem"))))
local macro_rules | `(tactic| mi_spec "entE") => `(tactic| (try simp only [List.append_eq, List.cons_append, List.nil_append, List.append_assoc]); repeat (first | with_reducible exact Ent.refl _ | (with_reducible (first | apply Ent.srcNil | apply Ent.srcCons | apply Ent.srcAss | apply Ent.tgtNil | apply Ent.tgtCons | apply Ent.tgtAss)) | (with_reducible apply Ent.take; (case h => mi_spec "rem")) | with_reducible exact Ent.nil | with_reducible apply Ent.dropT | exact Ent.refl _))
local macro_rules | `(tactic| mi_spec "opStar") => `(tactic| first | refine ⟨_, Or.inl (lst_own (by mi_spec "foc")), ?_⟩ | refine ⟨_, Or.inr tup_fr, ?_⟩ | refine ⟨_, Or.inl lst_fr, ?_⟩)
local macro_rules | `(tactic| mi_spec "opStarK") => `(tactic| first | refine ⟨_, Or.inr tup_fr, ?_, ?_⟩ | refine ⟨_, Or.inl (lst_own (by mi_spec "foc")), ?_, ?_⟩)
local macro_rules | `(tactic| mi_spec "opInsF") => `(tactic| refine ⟨_, _, ins_own (by mi_spec "foc"), rfl, ⟨_, ins_own (by mi_spec "foc")⟩, ?_⟩)
local macro_rules | `(tactic| mi_spec "opTru") => `(tactic| with_reducible refine tru_bl ?_)
theorem sc_is_over : FnScope ["targets", "any_of", "done", "target"] ["targets", "any_of", "done"] (defScope s_is_over) := ⟨rfl, rfl, rfl, by decide +kernel, rfl, by decide +kernel, by decide +kernel⟩
theorem nm_is_over : NmOk ["targets", "any_of", "done", "target"] [] (defScope s_is_over) 4 := nmOk_by (by decide +kernel)
theorem sc_delays : FnScope ["phases", "awaited", "modes", "numbers", "count", "done", "task", "phase", "number"] ["phases", "awaited", "modes"] (defScope s_delays) := ⟨rfl, rfl, rfl, by decide +kernel, rfl, by decide +kernel, by decide +kernel⟩
theorem nm_delays : NmOk ["phases", "awaited", "modes", "numbers", "count", "done", "task", "phase", "number"] ["range", "len", "is_over"] (defScope s_delays) 7 := nmOk_by (by decide +kernel)
theorem sc_task_delays : FnScope ["runtime"] ["runtime"] (defScope s_task_delays) := ⟨rfl, rfl, rfl, by decide +kernel, rfl, by decide +kernel, by decide +kernel⟩
theorem nm_task_delays : NmOk ["runtime"] ["delays"] (defScope s_task_delays) 1 := nmOk_by (by decide +kernel)
theorem sc_end_in_rounds : FnScope ["runtime", "rounds", "running", "task"] ["runtime"] (defScope s_end_in_rounds) := ⟨rfl, rfl, rfl, by decide +kernel, rfl, by decide +kernel, by decide +kernel⟩
theorem nm_end_in_rounds : NmOk ["runtime", "rounds", "running", "task"] ["len"] (defScope s_end_in_rounds) 4 := nmOk_by (by decide +kernel)
theorem sc_capped : FnScope ["number", "reach"] ["number", "reach"] (defScope s_capped) := ⟨rfl, rfl, rfl, by decide +kernel, rfl, by decide +kernel, by decide +kernel⟩
theorem nm_capped : NmOk ["number", "reach"] [] (defScope s_capped) 2 := nmOk_by (by decide +kernel)
theorem sc_fits_side : FnScope ["up", "down", "side"] ["up", "down", "side"] (defScope s_fits_side) := ⟨rfl, rfl, rfl, by decide +kernel, rfl, by decide +kernel, by decide +kernel⟩
theorem nm_fits_side : NmOk ["up", "down", "side"] [] (defScope s_fits_side) 3 := nmOk_by (by decide +kernel)
theorem sc_Kin___init__ : FnScope ["self", "up", "down", "side"] ["self", "up", "down", "side"] (defScope s_Kin___init__) := ⟨rfl, rfl, rfl, by decide +kernel, rfl, by decide +kernel, by decide +kernel⟩
theorem nm_Kin___init__ : NmOk ["self", "up", "down", "side"] ["fits_side", "BadKin", "SIDES"] (defScope s_Kin___init__) 4 := nmOk_by (by decide +kernel)
theorem sc_Kin___lt__ : FnScope ["self", "other"] ["self", "other"] (defScope s_Kin___lt__) := ⟨rfl, rfl, rfl, by decide +kernel, rfl, by decide +kernel, by decide +kernel⟩
theorem nm_Kin___lt__ : NmOk ["self", "other"] ["isinstance", "Kin", "NotImplemented"] (defScope s_Kin___lt__) 2 := nmOk_by (by decide +kernel)
theorem sc_Kin___mod__ : FnScope ["self", "reach"] ["self", "reach"] (defScope s_Kin___mod__) := ⟨rfl, rfl, rfl, by decide +kernel, rfl, by decide +kernel, by decide +kernel⟩
theorem nm_Kin___mod__ : NmOk ["self", "reach"] ["BadReach", "Kin", "capped"] (defScope s_Kin___mod__) 2 := nmOk_by (by decide +kernel)
theorem sc_Kin_is_self : FnScope ["self"] ["self"] (defScope s_Kin_is_self) := ⟨rfl, rfl, rfl, by decide +kernel, rfl, by decide +kernel, by decide +kernel⟩
theorem nm_Kin_is_self : NmOk ["self"] [] (defScope s_Kin_is_self) 1 := nmOk_by (by decide +kernel)
theorem sc_Kin_measure : FnScope ["self"] ["self"] (defScope s_Kin_measure) := ⟨rfl, rfl, rfl, by decide +kernel, rfl, by decide +kernel, by decide +kernel⟩
theorem nm_Kin_measure : NmOk ["self"] [] (defScope s_Kin_measure) 1 := nmOk_by (by decide +kernel)
theorem sc_demand_reach : FnScope ["reach"] ["reach"] (defScope s_demand_reach) := ⟨rfl, rfl, rfl, by decide +kernel, rfl, by decide +kernel, by decide +kernel⟩
theorem nm_demand_reach : NmOk ["reach"] ["LEAST_REACH", "MOST_REACH", "BadReach"] (defScope s_demand_reach) 1 := nmOk_by (by decide +kernel)
theorem sc_all_cells : FnScope ["reach", "cells", "far", "up", "down"] ["reach"] (defScope s_all_cells) := ⟨rfl, rfl, rfl, by decide +kernel, rfl, by decide +kernel, by decide +kernel⟩
theorem nm_all_cells : NmOk ["reach", "cells", "far", "up", "down"] ["demand_reach", "range", "Kin"] (defScope s_all_cells) 5 := nmOk_by (by decide +kernel)
theorem sc_let_parts : FnScope ["reach", "kins", "let", "kin", "cell"] ["reach", "kins"] (defScope s_let_parts) := ⟨rfl, rfl, rfl, by decide +kernel, rfl, by decide +kernel, by decide +kernel⟩
theorem nm_let_parts : NmOk ["reach", "kins", "let", "kin", "cell"] ["BadCell"] (defScope s_let_parts) 5 := nmOk_by (by decide +kernel)
theorem sc_Rule___init__ : FnScope ["self", "reach", "kins", "cell"] ["self", "reach", "kins"] (defScope s_Rule___init__) := ⟨rfl, rfl, rfl, by decide +kernel, rfl, by decide +kernel, by decide +kernel⟩
theorem nm_Rule___init__ : NmOk ["self", "reach", "kins", "cell"] ["demand_reach", "let_parts", "all_cells"] (defScope s_Rule___init__) 3 := nmOk_by (by decide +kernel)
theorem sc_Rule_lets : FnScope ["self", "up", "down", "side"] ["self", "up", "down", "side"] (defScope s_Rule_lets) := ⟨rfl, rfl, rfl, by decide +kernel, rfl, by decide +kernel, by decide +kernel⟩
theorem nm_Rule_lets : NmOk ["self", "up", "down", "side"] ["capped"] (defScope s_Rule_lets) 4 := nmOk_by (by decide +kernel)
theorem sc_Rule_put : FnScope ["self", "cell", "place"] ["self", "cell"] (defScope s_Rule_put) := ⟨rfl, rfl, rfl, by decide +kernel, rfl, by decide +kernel, by decide +kernel⟩
theorem nm_Rule_put : NmOk ["self", "cell", "place"] ["len"] (defScope s_Rule_put) 3 := nmOk_by (by decide +kernel)
theorem sc_Rule_twin : FnScope ["self"] ["self"] (defScope s_Rule_twin) := ⟨rfl, rfl, rfl, by decide +kernel, rfl, by decide +kernel, by decide +kernel⟩
theorem nm_Rule_twin : NmOk ["self"] ["Rule"] (defScope s_Rule_twin) 1 := nmOk_by (by decide +kernel)
theorem sc_Rule___call__ : FnScope ["self", "family", "first", "second"] ["self", "family", "first", "second"] (defScope s_Rule___call__) := ⟨rfl, rfl, rfl, by decide +kernel, rfl, by decide +kernel, by decide +kernel⟩
theorem nm_Rule___call__ : NmOk ["self", "family", "first", "second"] [] (defScope s_Rule___call__) 4 := nmOk_by (by decide +kernel)
theorem sc_Rule___getitem__ : FnScope ["self", "kin"] ["self", "kin"] (defScope s_Rule___getitem__) := ⟨rfl, rfl, rfl, by decide +kernel, rfl, by decide +kernel, by decide +kernel⟩
theorem nm_Rule___getitem__ : NmOk ["self", "kin"] [] (defScope s_Rule___getitem__) 2 := nmOk_by (by decide +kernel)
theorem sc_Rule___setitem__ : FnScope ["self", "kin", "worth"] ["self", "kin", "worth"] (defScope s_Rule___setitem__) := ⟨rfl, rfl, rfl, by decide +kernel, rfl, by decide +kernel, by decide +kernel⟩
theorem nm_Rule___setitem__ : NmOk ["self", "kin", "worth"] ["BadCell"] (defScope s_Rule___setitem__) 3 := nmOk_by (by decide +kernel)
theorem sc_Hands___init__ : FnScope ["self", "keeps", "greets", "inherits", "told"] ["self", "keeps", "greets", "inherits", "told"] (defScope s_Hands___init__) := ⟨rfl, rfl, rfl, by decide +kernel, rfl, by decide +kernel, by decide +kernel⟩
theorem nm_Hands___init__ : NmOk ["self", "keeps", "greets", "inherits", "told"] [] (defScope s_Hands___init__) 5 := nmOk_by (by decide +kernel)
theorem sc_Hands_every : FnScope ["cls"] ["cls"] (defScope s_Hands_every) := ⟨rfl, rfl, rfl, by decide +kernel, rfl, by decide +kernel, by decide +kernel⟩
theorem nm_Hands_every : NmOk ["cls"] [] (defScope s_Hands_every) 1 := nmOk_by (by decide +kernel)
theorem sc_Family___init__ : FnScope ["self"] ["self"] (defScope s_Family___init__) := ⟨rfl, rfl, rfl, by decide +kernel, rfl, by decide +kernel, by decide +kernel⟩
theorem nm_Family___init__ : NmOk ["self"] [] (defScope s_Family___init__) 1 := nmOk_by (by decide +kernel)
theorem sc_Family_demand : FnScope ["self", "task"] ["self", "task"] (defScope s_Family_demand) := ⟨rfl, rfl, rfl, by decide +kernel, rfl, by decide +kernel, by decide +kernel⟩
theorem nm_Family_demand : NmOk ["self", "task"] ["len", "NoTask"] (defScope s_Family_demand) 2 := nmOk_by (by decide +kernel)
theorem sc_Family_bear : FnScope ["self", "parent", "child"] ["self", "parent"] (defScope s_Family_bear) := ⟨rfl, rfl, rfl, by decide +kernel, rfl, by decide +kernel, by decide +kernel⟩
theorem nm_Family_bear : NmOk ["self", "parent", "child"] ["len", "TooMany"] (defScope s_Family_bear) 3 := nmOk_by (by decide +kernel)
theorem sc_Family_kinship : FnScope ["self", "first", "second", "left", "right", "left_child", "right_child", "up", "down"] ["self", "first", "second"] (defScope s_Family_kinship) := ⟨rfl, rfl, rfl, by decide +kernel, rfl, by decide +kernel, by decide +kernel⟩
theorem nm_Family_kinship : NmOk ["self", "first", "second", "left", "right", "left_child", "right_child", "up", "down"] ["Kin"] (defScope s_Family_kinship) 9 := nmOk_by (by decide +kernel)
theorem sc_State___init__ : FnScope ["self"] ["self"] (defScope s_State___init__) := ⟨rfl, rfl, rfl, by decide +kernel, rfl, by decide +kernel, by decide +kernel⟩
theorem nm_State___init__ : NmOk ["self"] ["Family"] (defScope s_State___init__) 1 := nmOk_by (by decide +kernel)
theorem sc_State_add : FnScope ["self", "parent", "hands", "holders", "known", "child", "task"] ["self", "parent", "hands"] (defScope s_State_add) := ⟨rfl, rfl, rfl, by decide +kernel, rfl, by decide +kernel, by decide +kernel⟩
theorem nm_State_add : NmOk ["self", "parent", "hands", "holders", "known", "child", "task"] ["range", "len", "list"] (defScope s_State_add) 7 := nmOk_by (by decide +kernel)
theorem sc_Runtime___init__ : FnScope ["self", "rule", "hands", "limit"] ["self", "rule", "hands", "limit"] (defScope s_Runtime___init__) := ⟨rfl, rfl, rfl, by decide +kernel, rfl, by decide +kernel, by decide +kernel⟩
theorem nm_Runtime___init__ : NmOk ["self", "rule", "hands", "limit"] ["Family", "BadLimit", "Hands", "State"] (defScope s_Runtime___init__) 4 := nmOk_by (by decide +kernel)
theorem sc_Runtime___len__ : FnScope ["self"] ["self"] (defScope s_Runtime___len__) := ⟨rfl, rfl, rfl, by decide +kernel, rfl, by decide +kernel, by decide +kernel⟩
theorem nm_Runtime___len__ : NmOk ["self"] ["len"] (defScope s_Runtime___len__) 1 := nmOk_by (by decide +kernel)
theorem sc_Runtime_demand : FnScope ["self", "task"] ["self", "task"] (defScope s_Runtime_demand) := ⟨rfl, rfl, rfl, by decide +kernel, rfl, by decide +kernel, by decide +kernel⟩
theorem nm_Runtime_demand : NmOk ["self", "task"] ["len", "NoTask"] (defScope s_Runtime_demand) 2 := nmOk_by (by decide +kernel)
theorem sc_Runtime_demand_running : FnScope ["self", "task"] ["self", "task"] (defScope s_Runtime_demand_running) := ⟨rfl, rfl, rfl, by decide +kernel, rfl, by decide +kernel, by decide +kernel⟩
theorem nm_Runtime_demand_running : NmOk ["self", "task"] ["TaskEnded", "TaskWaits"] (defScope s_Runtime_demand_running) 2 := nmOk_by (by decide +kernel)
theorem sc_Runtime_in_phase : FnScope ["self", "phase", "phases", "task"] ["self", "phase"] (defScope s_Runtime_in_phase) := ⟨rfl, rfl, rfl, by decide +kernel, rfl, by decide +kernel, by decide +kernel⟩
theorem nm_Runtime_in_phase : NmOk ["self", "phase", "phases", "task"] ["range", "len"] (defScope s_Runtime_in_phase) 3 := nmOk_by (by decide +kernel)
theorem sc_Runtime_running : FnScope ["self"] ["self"] (defScope s_Runtime_running) := ⟨rfl, rfl, rfl, by decide +kernel, rfl, by decide +kernel, by decide +kernel⟩
theorem nm_Runtime_running : NmOk ["self"] [] (defScope s_Runtime_running) 1 := nmOk_by (by decide +kernel)
theorem sc_Runtime_phase : FnScope ["self", "task"] ["self", "task"] (defScope s_Runtime_phase) := ⟨rfl, rfl, rfl, by decide +kernel, rfl, by decide +kernel, by decide +kernel⟩
theorem nm_Runtime_phase : NmOk ["self", "task"] [] (defScope s_Runtime_phase) 2 := nmOk_by (by decide +kernel)
theorem sc_Runtime_targets : FnScope ["self", "task"] ["self", "task"] (defScope s_Runtime_targets) := ⟨rfl, rfl, rfl, by decide +kernel, rfl, by decide +kernel, by decide +kernel⟩
theorem nm_Runtime_targets : NmOk ["self", "task"] ["list"] (defScope s_Runtime_targets) 2 := nmOk_by (by decide +kernel)
theorem sc_Runtime_bear : FnScope ["self", "task"] ["self", "task"] (defScope s_Runtime_bear) := ⟨rfl, rfl, rfl, by decide +kernel, rfl, by decide +kernel, by decide +kernel⟩
theorem nm_Runtime_bear : NmOk ["self", "task"] ["len", "TooMany"] (defScope s_Runtime_bear) 2 := nmOk_by (by decide +kernel)
theorem sc_Runtime_wait : FnScope ["self", "task", "any_of", "targets", "target", "done", "phase"] ["self", "task", "any_of", "targets"] (defScope s_Runtime_wait) := ⟨rfl, rfl, rfl, by decide +kernel, rfl, by decide +kernel, by decide +kernel⟩
theorem nm_Runtime_wait : NmOk ["self", "task", "any_of", "targets", "target", "done", "phase"] ["len", "NoTargets", "NotLet", "NotHeld", "is_over", "list"] (defScope s_Runtime_wait) 6 := nmOk_by (by decide +kernel)
theorem sc_Runtime_end : FnScope ["self", "task", "done", "woken", "other", "phase"] ["self", "task"] (defScope s_Runtime_end) := ⟨rfl, rfl, rfl, by decide +kernel, rfl, by decide +kernel, by decide +kernel⟩
theorem nm_Runtime_end : NmOk ["self", "task", "done", "woken", "other", "phase"] ["is_over"] (defScope s_Runtime_end) 5 := nmOk_by (by decide +kernel)
theorem sc_Runtime___call__ : FnScope ["self", "deed", "word", "task", "targets", "any_of"] ["self", "deed"] (defScope s_Runtime___call__) := ⟨rfl, rfl, rfl, by decide +kernel, rfl, by decide +kernel, by decide +kernel⟩
theorem nm_Runtime___call__ : NmOk ["self", "deed", "word", "task", "targets", "any_of"] ["len", "BadDeed"] (defScope s_Runtime___call__) 6 := nmOk_by (by decide +kernel)
theorem sc__law_start : FnScope ["script"] ["script"] (defScope s__law_start) := ⟨rfl, rfl, rfl, by decide +kernel, rfl, by decide +kernel, by decide +kernel⟩
theorem nm__law_start : NmOk ["script"] ["list"] (defScope s__law_start) 1 := nmOk_by (by decide +kernel)
theorem sc__law_draw : FnScope ["state", "many", "value", "mixed"] ["state", "many"] (defScope s__law_draw) := ⟨rfl, rfl, rfl, by decide +kernel, rfl, by decide +kernel, by decide +kernel⟩
theorem nm__law_draw : NmOk ["state", "many", "value", "mixed"] ["len", "int"] (defScope s__law_draw) 4 := nmOk_by (by decide +kernel)
theorem sc__law_is_number : FnScope ["actual"] ["actual"] (defScope s__law_is_number) := ⟨rfl, rfl, rfl, by decide +kernel, rfl, by decide +kernel, by decide +kernel⟩
theorem nm__law_is_number : NmOk ["actual"] ["isinstance", "int", "bool"] (defScope s__law_is_number) 1 := nmOk_by (by decide +kernel)
theorem sc__law_same : FnScope ["actual", "expected", "k"] ["actual", "expected"] (defScope s__law_same) := ⟨rfl, rfl, rfl, by decide +kernel, rfl, by decide +kernel, by decide +kernel⟩
theorem nm__law_same : NmOk ["actual", "expected", "k"] ["isinstance", "bool", "int", "_law_is_number", "str", "list", "len", "tuple", "range", "_law_same"] (defScope s__law_same) 3 := nmOk_by (by decide +kernel)
theorem sc__law_sides : FnScope ["up", "down"] ["up", "down"] (defScope s__law_sides) := ⟨rfl, rfl, rfl, by decide +kernel, rfl, by decide +kernel, by decide +kernel⟩
theorem nm__law_sides : NmOk ["up", "down"] [] (defScope s__law_sides) 2 := nmOk_by (by decide +kernel)
theorem sc__law_capped : FnScope ["parts", "reach"] ["parts", "reach"] (defScope s__law_capped) := ⟨rfl, rfl, rfl, by decide +kernel, rfl, by decide +kernel, by decide +kernel⟩
theorem nm__law_capped : NmOk ["parts", "reach"] ["min", "int"] (defScope s__law_capped) 2 := nmOk_by (by decide +kernel)
theorem sc__law_kin : FnScope ["parts"] ["parts"] (defScope s__law_kin) := ⟨rfl, rfl, rfl, by decide +kernel, rfl, by decide +kernel, by decide +kernel⟩
theorem nm__law_kin : NmOk ["parts"] ["Kin"] (defScope s__law_kin) 1 := nmOk_by (by decide +kernel)
theorem sc__law_line : FnScope ["parents", "task", "line", "k"] ["parents", "task"] (defScope s__law_line) := ⟨rfl, rfl, rfl, by decide +kernel, rfl, by decide +kernel, by decide +kernel⟩
theorem nm__law_line : NmOk ["parents", "task", "line", "k"] ["range", "len"] (defScope s__law_line) 4 := nmOk_by (by decide +kernel)
theorem sc__law_parts_of : FnScope ["parents", "first", "second", "mine", "other", "up", "down"] ["parents", "first", "second"] (defScope s__law_parts_of) := ⟨rfl, rfl, rfl, by decide +kernel, rfl, by decide +kernel, by decide +kernel⟩
theorem nm__law_parts_of : NmOk ["parents", "first", "second", "mine", "other", "up", "down"] ["_law_line"] (defScope s__law_parts_of) 7 := nmOk_by (by decide +kernel)
theorem sc__law_cells : FnScope ["reach", "cells", "far", "up", "side"] ["reach"] (defScope s__law_cells) := ⟨rfl, rfl, rfl, by decide +kernel, rfl, by decide +kernel, by decide +kernel⟩
theorem nm__law_cells : NmOk ["reach", "cells", "far", "up", "side"] ["range", "_law_sides"] (defScope s__law_cells) 5 := nmOk_by (by decide +kernel)
theorem sc__law_rule : FnScope ["reach", "cells", "rule", "cell", "kin"] ["reach", "cells"] (defScope s__law_rule) := ⟨rfl, rfl, rfl, by decide +kernel, rfl, by decide +kernel, by decide +kernel⟩
theorem nm__law_rule : NmOk ["reach", "cells", "rule", "cell", "kin"] ["Rule", "_law_kin"] (defScope s__law_rule) 5 := nmOk_by (by decide +kernel)
theorem sc__law_lets : FnScope ["reach", "cells", "parts"] ["reach", "cells", "parts"] (defScope s__law_lets) := ⟨rfl, rfl, rfl, by decide +kernel, rfl, by decide +kernel, by decide +kernel⟩
theorem nm__law_lets : NmOk ["reach", "cells", "parts"] ["_law_capped"] (defScope s__law_lets) 3 := nmOk_by (by decide +kernel)
theorem sc__law_flags : FnScope ["state", "digit"] ["state"] (defScope s__law_flags) := ⟨rfl, rfl, rfl, by decide +kernel, rfl, by decide +kernel, by decide +kernel⟩
theorem nm__law_flags : NmOk ["state", "digit"] ["_law_draw"] (defScope s__law_flags) 2 := nmOk_by (by decide +kernel)
theorem sc__law_hands : FnScope ["flags"] ["flags"] (defScope s__law_hands) := ⟨rfl, rfl, rfl, by decide +kernel, rfl, by decide +kernel, by decide +kernel⟩
theorem nm__law_hands : NmOk ["flags"] ["Hands"] (defScope s__law_hands) 1 := nmOk_by (by decide +kernel)
theorem sc__law_held : FnScope ["flags", "parts"] ["flags", "parts"] (defScope s__law_held) := ⟨rfl, rfl, rfl, by decide +kernel, rfl, by decide +kernel, by decide +kernel⟩
theorem nm__law_held : NmOk ["flags", "parts"] [] (defScope s__law_held) 2 := nmOk_by (by decide +kernel)
theorem sc__law_holds : FnScope ["flags", "parts"] ["flags", "parts"] (defScope s__law_holds) := ⟨rfl, rfl, rfl, by decide +kernel, rfl, by decide +kernel, by decide +kernel⟩
theorem nm__law_holds : NmOk ["flags", "parts"] ["_law_held"] (defScope s__law_holds) 2 := nmOk_by (by decide +kernel)
theorem sc__law_grip : FnScope ["flags"] ["flags"] (defScope s__law_grip) := ⟨rfl, rfl, rfl, by decide +kernel, rfl, by decide +kernel, by decide +kernel⟩
theorem nm__law_grip : NmOk ["flags"] ["_law_hands"] (defScope s__law_grip) 1 := nmOk_by (by decide +kernel)
theorem sc__law_hall : FnScope [] [] (defScope s__law_hall) := ⟨rfl, rfl, rfl, by decide +kernel, rfl, by decide +kernel, by decide +kernel⟩
theorem nm__law_hall : NmOk [] [] (defScope s__law_hall) 0 := nmOk_by (by decide +kernel)
theorem sc__law_bears : FnScope ["hall", "parent", "births", "phases", "awaited", "modes"] ["hall", "parent"] (defScope s__law_bears) := ⟨rfl, rfl, rfl, by decide +kernel, rfl, by decide +kernel, by decide +kernel⟩
theorem nm__law_bears : NmOk ["hall", "parent", "births", "phases", "awaited", "modes"] ["len"] (defScope s__law_bears) 6 := nmOk_by (by decide +kernel)
theorem sc__law_over : FnScope ["hall", "targets", "mode", "done", "target"] ["hall", "targets", "mode"] (defScope s__law_over) := ⟨rfl, rfl, rfl, by decide +kernel, rfl, by decide +kernel, by decide +kernel⟩
theorem nm__law_over : NmOk ["hall", "targets", "mode", "done", "target"] [] (defScope s__law_over) 4 := nmOk_by (by decide +kernel)
theorem sc__law_begins : FnScope ["hall", "task", "targets", "mode", "phases", "awaited", "modes", "over"] ["hall", "task", "targets", "mode"] (defScope s__law_begins) := ⟨rfl, rfl, rfl, by decide +kernel, rfl, by decide +kernel, by decide +kernel⟩
theorem nm__law_begins : NmOk ["hall", "task", "targets", "mode", "phases", "awaited", "modes", "over"] ["_law_over", "list"] (defScope s__law_begins) 8 := nmOk_by (by decide +kernel)
theorem sc__law_ending : FnScope ["hall", "task", "phases", "awaited", "modes", "woken", "other"] ["hall", "task"] (defScope s__law_ending) := ⟨rfl, rfl, rfl, by decide +kernel, rfl, by decide +kernel, by decide +kernel⟩
theorem nm__law_ending : NmOk ["hall", "task", "phases", "awaited", "modes", "woken", "other"] ["range", "len", "_law_over"] (defScope s__law_ending) 7 := nmOk_by (by decide +kernel)
theorem sc__law_running : FnScope ["hall", "task"] ["hall"] (defScope s__law_running) := ⟨rfl, rfl, rfl, by decide +kernel, rfl, by decide +kernel, by decide +kernel⟩
theorem nm__law_running : NmOk ["hall", "task"] ["range", "len"] (defScope s__law_running) 1 := nmOk_by (by decide +kernel)
theorem sc__law_good_targets : FnScope ["world", "hall", "task", "good", "target", "parts"] ["world", "hall", "task"] (defScope s__law_good_targets) := ⟨rfl, rfl, rfl, by decide +kernel, rfl, by decide +kernel, by decide +kernel⟩
theorem nm__law_good_targets : NmOk ["world", "hall", "task", "good", "target", "parts"] ["range", "len", "_law_parts_of", "_law_lets", "_law_holds"] (defScope s__law_good_targets) 6 := nmOk_by (by decide +kernel)
theorem sc__law_stands : FnScope ["runtime", "hall", "task"] ["runtime", "hall"] (defScope s__law_stands) := ⟨rfl, rfl, rfl, by decide +kernel, rfl, by decide +kernel, by decide +kernel⟩
theorem nm__law_stands : NmOk ["runtime", "hall", "task"] ["_law_same", "len", "range"] (defScope s__law_stands) 3 := nmOk_by (by decide +kernel)
theorem sc__law_world : FnScope ["state", "reach", "kind", "cells", "flags", "cell"] ["state"] (defScope s__law_world) := ⟨rfl, rfl, rfl, by decide +kernel, rfl, by decide +kernel, by decide +kernel⟩
theorem nm__law_world : NmOk ["state", "reach", "kind", "cells", "flags", "cell"] ["_law_draw", "_law_cells", "_law_flags"] (defScope s__law_world) 5 := nmOk_by (by decide +kernel)
theorem sc__law_stage : FnScope ["world"] ["world"] (defScope s__law_stage) := ⟨rfl, rfl, rfl, by decide +kernel, rfl, by decide +kernel, by decide +kernel⟩
theorem nm__law_stage : NmOk ["world"] ["Runtime", "_law_rule", "_law_grip"] (defScope s__law_stage) 1 := nmOk_by (by decide +kernel)
theorem sc__law_effect : FnScope ["hall", "deed"] ["hall", "deed"] (defScope s__law_effect) := ⟨rfl, rfl, rfl, by decide +kernel, rfl, by decide +kernel, by decide +kernel⟩
theorem nm__law_effect : NmOk ["hall", "deed"] ["_law_bears", "_law_ending", "_law_begins", "list"] (defScope s__law_effect) 2 := nmOk_by (by decide +kernel)
theorem sc__law_next_deed : FnScope ["state", "world", "hall", "turn", "running", "task", "kind", "good", "word", "k"] ["state", "world", "hall", "turn"] (defScope s__law_next_deed) := ⟨rfl, rfl, rfl, by decide +kernel, rfl, by decide +kernel, by decide +kernel⟩
theorem nm__law_next_deed : NmOk ["state", "world", "hall", "turn", "running", "task", "kind", "good", "word", "k"] ["_law_running", "len", "_law_draw", "int", "_law_good_targets", "tuple", "range"] (defScope s__law_next_deed) 9 := nmOk_by (by decide +kernel)
theorem sc__law_played : FnScope ["state", "world", "runtime", "hall", "many", "k", "deed"] ["state", "world", "runtime", "hall", "many"] (defScope s__law_played) := ⟨rfl, rfl, rfl, by decide +kernel, rfl, by decide +kernel, by decide +kernel⟩
theorem nm__law_played : NmOk ["state", "world", "runtime", "hall", "many", "k", "deed"] ["range", "_law_next_deed", "len", "_law_same", "_law_effect"] (defScope s__law_played) 7 := nmOk_by (by decide +kernel)
theorem sc__law_copied : FnScope ["hall", "row"] ["hall"] (defScope s__law_copied) := ⟨rfl, rfl, rfl, by decide +kernel, rfl, by decide +kernel, by decide +kernel⟩
theorem nm__law_copied : NmOk ["hall", "row"] ["list"] (defScope s__law_copied) 1 := nmOk_by (by decide +kernel)
theorem sc__law_rounds : FnScope ["hall", "rounds", "k", "running", "task"] ["hall"] (defScope s__law_rounds) := ⟨rfl, rfl, rfl, by decide +kernel, rfl, by decide +kernel, by decide +kernel⟩
theorem nm__law_rounds : NmOk ["hall", "rounds", "k", "running", "task"] ["range", "len", "_law_running", "_law_ending"] (defScope s__law_rounds) 5 := nmOk_by (by decide +kernel)
theorem sc__law_delays : FnScope ["hall", "rounds", "due", "task", "k"] ["hall", "rounds"] (defScope s__law_delays) := ⟨rfl, rfl, rfl, by decide +kernel, rfl, by decide +kernel, by decide +kernel⟩
theorem nm__law_delays : NmOk ["hall", "rounds", "due", "task", "k"] ["len", "range"] (defScope s__law_delays) 5 := nmOk_by (by decide +kernel)
theorem sc_law : FnScope ["script", "state", "world", "runtime", "hall", "later", "rounds", "due", "told", "left", "number"] ["script"] (defScope s_law) := ⟨rfl, rfl, rfl, by decide +kernel, rfl, by decide +kernel, by decide +kernel⟩
theorem nm_law : NmOk ["script", "state", "world", "runtime", "hall", "later", "rounds", "due", "told", "left", "number"] ["_law_start", "_law_world", "_law_stage", "_law_hall", "_law_played", "_law_draw", "_law_copied", "_law_rounds", "_law_delays", "task_delays", "_law_same", "_law_stands", "end_in_rounds"] (defScope s_law) 10 := nmOk_by (by decide +kernel)
section
variable {P : Program} {w : World} {K : PySem.W.Frag} {mg : Str → Option Value} {base : Heap}
abbrev aCapped : ASp := fun es G KN _ => ∃ a b : Int, es = [.int a, .int b] ∧ G = [] ∧ KN (.int (if a < b then a else b)) []
theorem ok_capped {f : Addr} {fd : FuncData} (F : FunD K "capped" "capped" (defArgs s_capped) (defBody s_capped) (defScope s_capped) [] [] f fd) : FnOk P w K mg base (L2.CX P w) 1 f fd ["number", "reach"] (conc K aCapped) := by
  refine def_ok F sc_capped nm_capped (fun es G KN KE ⟨a, b, e, _⟩ => by rw [e] <;> rfl) ?_
  rintro X F0 es G G2 KN KE rfl rfl rfl rfl rfl c hfn nm rz ⟨a, b, rfl, rfl, q⟩
  show GSs X F0 _ [some (.int a), some (.int b)] G2 _
  have ret : ∀ v, v = (if a < b then a else b) → (bodyA KN G2).rt (.int v) G2 := fun v hv => ⟨[], Ent.refl _, by rw [hv]; exact q⟩
  refine xgss_cons (xgs_if (xgt_compare (xge_nm c nm .here (xge_nm c nm (.there .here) ?_ rfl) rfl) (nm_Lt _)))
  mi_spec "opLt"
  refine kb ?_
  -- stop: if
  refine br ?_ ?_ <;> intro h
  · refine xgss_cons (xgs_ret (xge_nm c nm .here ?_ rfl))
    exact ret _ (by rw [if_pos h])
  · refine xgss_nil ?_
    refine xgss_cons (xgs_ret (xge_nm c nm (.there .here) ?_ rfl))
    exact ret _ (by rw [if_neg h])
abbrev fitsB (a b : Int) (s : Str) : Bool := if a = 0 ∨ b = 0 then decide (s = "line") else decide (s = "elder" ∨ s = "younger")
abbrev aFits : ASp := fun es G KN _ => ∃ (a b : Int) (s : Str), es = [.int a, .int b, .str s] ∧ G = [] ∧ KN (.bl (fitsB a b s)) []
theorem ok_fits {f : Addr} {fd : FuncData} (F : FunD K "fits_side" "fits_side" (defArgs s_fits_side) (defBody s_fits_side) (defScope s_fits_side) [] [] f fd) : FnOk P w K mg base (L2.CX P w) 1 f fd ["up", "down", "side"] (conc K aFits) := by
  refine def_ok F sc_fits_side nm_fits_side (fun es G KN KE ⟨a, b, s, e, _⟩ => by rw [e] <;> rfl) ?_
  rintro X F0 es G G2 KN KE rfl rfl rfl rfl rfl c hfn nm rz ⟨a, b, s, rfl, rfl, q⟩
  show GSs X F0 _ [some (.int a), some (.int b), some (.str s)] G2 _
  have ret : ∀ v, v = fitsB a b s → (bodyA KN G2).rt (.bl v) G2 := fun v hv => ⟨[], Ent.refl _, by rw [hv]; exact q⟩
  refine xgss_cons (xgs_if (xgt_val (decide (a = 0 ∨ b = 0)) ?_ ?_))
  · refine xgt_of_w (xgw_or (xgt_compare (xge_nm c nm .here (xge_int ?_) rfl) (nm_Eq _)))
    mi_spec "opEq"
    refine kb ?_
    -- stop: br xgw_or
    refine br ?_ ?_ <;> intro h
    · exact ⟨by simp [h], rfl⟩
    · refine xgw_or1 (xgt_compare (xge_nm c nm (.there .here) (xge_int ?_) rfl) (nm_Eq _))
      mi_spec "opEq"
      refine kb ?_
      exact ⟨by simp [h], rfl⟩
  refine br ?_ ?_ <;> intro h
  · refine xgss_cons (xgs_ret (xge_compare (xge_nm c nm (.there (.there .here)) (xge_str ?_) rfl) (nm_Eq _)))
    mi_spec "opEq"
    exact ret _ (by unfold fitsB; rw [if_pos h])
  · refine xgss_nil ?_
    refine xgss_cons (xgs_ret (xge_or (xge_compare (xge_nm c nm (.there (.there .here)) (xge_str ?_) rfl) (nm_Eq _))))
    mi_spec "opEq"
    refine ⟨_, rfl, ?_⟩
    -- stop: br xge_or
    refine ⟨?_, ?_⟩ <;> intro h3
    · exact ret _ (by unfold fitsB; rw [if_neg h]; simp at h3; simp [h3])
    · refine xge_one (xge_compare (xge_nm c nm (.there (.there .here)) (xge_str ?_) rfl) (nm_Eq _))
      mi_spec "opEq"
      exact ret _ (by unfold fitsB; rw [if_neg h]; simp at h3; simp [h3])
end
section
variable {P : Program} {w : World} {K : PySem.W.Frag} {mg : Str → Option Value} {base : Heap}
abbrev dInts (ts : List Nat) : List D := ts.map fun n : Nat => D.int (n : Int)
abbrev dBls (bs : List Bool) : List D := bs.map D.bl
abbrev dStrs (zs : List Str) : List D := zs.map D.str
theorem dInts_at {ts : List Nat} {j : Nat} {y : D} (h : (dInts ts)[j]? = some y) : ∃ n, ts[j]? = some n ∧ y = .int ((n : Nat) : Int) := by
  rw [List.getElem?_map] at h
  cases q : ts[j]? with
  | none => rw [q] at h; cases h
  | some n => rw [q] at h; cases h; exact ⟨n, rfl, rfl⟩
def overB (m : Bool) (ts : List Nat) (bs : List Bool) : Bool := if m then ts.any (fun i => bs.getD i false) else ts.all (fun i => bs.getD i false)
abbrev aOver (K : PySem.W.Frag) : ASp := fun es G KN _ => ∃ t ts m dn bs, es = [t, .bl m, dn] ∧ SeqAt K G t (dInts ts) ∧ LstAt K G dn (dBls bs) ∧ (∀ i ∈ ts, i < bs.length) ∧ KN (.bl (overB m ts bs)) G
def forB : Stmt → List Stmt
  | .For _ _ body .. => body
  | _ => []
theorem over_t {ts : List Nat} {bs : List Bool} {i : Nat} (hi : i ∈ ts) (h : bs.getD i false = true) : overB true ts bs = true := by
  unfold overB
  exact List.any_eq_true.mpr ⟨i, hi, h⟩
theorem over_f {ts : List Nat} {bs : List Bool} {i : Nat} (hi : i ∈ ts) (h : bs.getD i false = false) : overB false ts bs = false := by
  unfold overB
  rw [if_neg (by decide)]
  exact List.all_eq_false.mpr ⟨i, hi, by rw [h]; decide⟩
theorem over_n {m : Bool} {ts : List Nat} {bs : List Bool} (h : ∀ i ∈ ts, bs.getD i false = !m) : overB m ts bs = !m := by
  unfold overB
  cases m with
  | true =>
    rw [if_pos rfl]
    exact List.any_eq_false.mpr fun i hi => by rw [h i hi]; decide
  | false =>
    rw [if_neg (by decide)]
    exact List.all_eq_true.mpr fun i hi => by rw [h i hi]; decide
theorem take_all {α : Type} {p : α → Prop} {ts : List α} {j : Nat} {n : α} (h : ∀ i ∈ ts.take j, p i) (e : ts[j]? = some n) (hn : p n) : ∀ i ∈ ts.take (j + 1), p i := by
  intro i hi
  rw [List.take_succ, e] at hi
  rcases List.mem_append.mp hi with hi | hi
  · exact h i hi
  · have : i = n := by simpa using hi
    rw [this]
    exact hn
theorem ok_over {f : Addr} {fd : FuncData} (F : FunD K "is_over" "is_over" (defArgs s_is_over) (defBody s_is_over) (defScope s_is_over) [] [] f fd) : FnOk P w K mg base (L2.CX P w) 1 f fd ["targets", "any_of", "done"] (conc K (aOver K)) := by
  refine def_ok F sc_is_over nm_is_over (fun es G KN KE ⟨t, ts, m, dn, bs, e, _⟩ => by rw [e] <;> rfl) ?_
  rintro X F0 es G G2 KN KE rfl rfl rfl rfl rfl c hfn nm rz ⟨t, ts, m, dn, bs, rfl, ht, hd, hi, q⟩
  show GSs X F0 _ [some t, some (.bl m), some dn, none] (G ++ G2) _
  have ret : ∀ v, v = overB m ts bs → (bodyA KN G2).rt (.bl v) (G ++ G2) := fun v hv => ⟨G, Ent.refl _, by rw [hv]; exact q⟩
  have hd' : LstAt X.K (G ++ G2) dn (dBls bs) := hd.mono
  let Pv : Nat → DS → Gs → Prop := fun j ds G' => (∃ o, ds = [some t, some (.bl m), some dn, o]) ∧ G' = G ++ G2 ∧ ∀ i ∈ ts.take j, bs.getD i false = !m
  have body : ∀ (j n : Nat) (A : AE), A.rt = (bodyA KN G2).rt → ts[j]? = some n → (∀ i ∈ ts.take j, bs.getD i false = !m) → GSs X F0 (forB ((defBody s_is_over).getD 0 (.Pass ⟨0, 0, 0, 0⟩))) [some t, some (.bl m), some dn, some (.int n)] (G ++ G2) (loopA A (Pv (j + 1))) := by
    intro j n A hA hn hp
    have retA : ∀ v, v = overB m ts bs → A.rt (.bl v) (G ++ G2) := fun v hv => by rw [hA]; exact ret v hv
    have hlt : n < bs.length := hi n (List.mem_of_getElem? hn)
    have hb : bs.getD n false = bs[n] := by rw [List.getD_eq_getElem?_getD, List.getElem?_eq_getElem hlt] <;> rfl
    have hat : atI (dBls bs) ((n : Nat) : Int) = some (.bl bs[n]) := Ly.atI_nat (by rw [List.getElem?_map, List.getElem?_eq_getElem hlt] <;> rfl)
    refine xgss_cons (xgs_if (xgt_val ((m && bs[n])) ?_ ?_))
    · refine xgt_of_w (xgw_and (xgt_tru (fun _ => rfl) (xge_nm c nm (.there .here) ?_ rfl)))
      mi_spec "opTru"
      -- stop: br xgw_and
      refine brB ?_ ?_ <;> intro h
      · refine xgw_and1 (xgt_tru (fun _ => rfl) (xge_index (xge_nm c nm (.there (.there .here)) (xge_nm c nm (.there (.there (.there .here))) ?_ rfl) rfl) (fun b_ _ _ => by cases b_ <;> exact rfl)))
        -- stop: STOP index
        refine rk_ixL hd' hat ?_
        mi_spec "opTru"
        exact ⟨by rw [h]; rfl, rfl⟩
      · exact ⟨by rw [h]; rfl, rfl⟩
    refine brB ?_ ?_ <;> intro h
    · refine xgss_cons (xgs_ret (xge_bl ?_))
      exact retA _ (by simp at h; rw [h.1]; exact (over_t (List.mem_of_getElem? hn) (by rw [hb, h.2])).symm)
    · refine xgss_nil ?_
      refine xgss_cons (xgs_if (xgt_val ((!m && !bs[n])) ?_ ?_))
      · refine xgt_of_w (xgw_and (xgt_not (xgt_tru (fun _ => rfl) (xge_nm c nm (.there .here) ?_ rfl))))
        mi_spec "opTru"
        -- stop: br xgw_and
        refine brB ?_ ?_ <;> intro h2
        · refine xgw_and1 (xgt_not (xgt_tru (fun _ => rfl) (xge_index (xge_nm c nm (.there (.there .here)) (xge_nm c nm (.there (.there (.there .here))) ?_ rfl) rfl) (fun b_ _ _ => by cases b_ <;> exact rfl))))
          -- stop: STOP index
          refine rk_ixL hd' hat ?_
          mi_spec "opTru"
          exact ⟨by rw [h2]; rfl, rfl⟩
        · exact ⟨by rw [h2]; rfl, rfl⟩
      refine brB ?_ ?_ <;> intro h2
      · refine xgss_cons (xgs_ret (xge_bl ?_))
        exact retA _ (by simp at h2; rw [h2.1]; exact (over_f (List.mem_of_getElem? hn) (by rw [hb, h2.2])).symm)
      · refine xgss_nil (xgss_nil ?_)
        exact ⟨⟨_, rfl⟩, rfl, take_all hp hn (by rw [hb]; cases m <;> simp_all)⟩
  rcases ht with ht | ht
  · refine xgss_cons (xgs_forL c hfn (.there (.there (.there .here))) (nm.loc (.there (.there (.there .here))) rfl) (xge_nm c nm .here ?_ rfl) (fun _ => rfl))
    -- stop: for
    refine ⟨_, Pv, ⟨⟨_, rfl⟩, rfl, by simp⟩, fun j ds' G' hj ⟨_, e, _⟩ => by rw [e]; exact ht.mono, ?_, ?_⟩
    · rintro j y ds' G' hy ⟨⟨o, rfl⟩, rfl, hp⟩
      obtain ⟨n, hn, rfl⟩ := dInts_at hy
      exact body j n _ rfl hn hp
    · rintro ds' G' ⟨⟨o, rfl⟩, rfl, hp⟩
      refine xgss_cons (xgs_ret (xge_not (xge_nm c nm (.there .here) ?_ rfl)))
      refine ⟨_, rfl, ?_⟩
      exact ret _ (over_n (by simpa [dInts] using hp)).symm
  · refine xgss_cons (xgs_forT c hfn (.there (.there (.there .here))) (nm.loc (.there (.there (.there .here))) rfl) ?_ (fun _ => rfl))
    refine xge_nm c nm .here ?_ rfl
    refine ⟨_, Pv, ⟨⟨_, rfl⟩, rfl, by simp⟩, fun j ds' G' hj ⟨_, e, _⟩ => by rw [e]; exact ht.mono, ?_, ?_⟩
    · rintro j y ds' G' hy ⟨⟨o, rfl⟩, rfl, hp⟩
      obtain ⟨n, hn, rfl⟩ := dInts_at hy
      exact body j n _ rfl hn hp
    · rintro ds' G' ⟨⟨o, rfl⟩, rfl, hp⟩
      refine xgss_cons (xgs_ret (xge_not (xge_nm c nm (.there .here) ?_ rfl)))
      refine ⟨_, rfl, ?_⟩
      exact ret _ (over_n (by simpa [dInts] using hp)).symm
end
section
variable {P : Program} {w : World} {K : PySem.W.Frag} {mg : Str → Option Value} {base : Heap}
def endB (ph : List Str) : List Bool := ph.map fun z => decide (z = ("ended" : Str))
def doneB (ph : List Str) (i : Nat) : Bool := (endB ph).getD i false
abbrev hallV (p0 p1 p2 p3 : Addr) : D := .lst [.raw (.ref p0), .raw (.ref p1), .raw (.ref p2), .raw (.ref p3)]
abbrev aLOver (K : PySem.W.Frag) : ASp := fun es G KN _ => ∃ p0 p1 p2 p3 ph t ts m, es = [hallV p0 p1 p2 p3, t, .bl m] ∧ LstAt K G (.raw (.ref p1)) (dStrs ph) ∧ LstAt K G t (dInts ts) ∧ (∀ i ∈ ts, i < ph.length) ∧ ts.length ≤ 1000 ∧ KN (.bl (overB m ts (endB ph))) G
theorem in_true {ts : List Nat} {bs : List Bool} : decide (true ∈ ts.map fun i => bs.getD i false) = overB true ts bs := by
  unfold overB
  rw [if_pos rfl, Bool.eq_iff_iff, decide_eq_true_iff, List.mem_map, List.any_eq_true]
theorem in_false {ts : List Nat} {bs : List Bool} : (!decide (false ∈ ts.map fun i => bs.getD i false)) = overB false ts bs := by
  unfold overB
  rw [if_neg (by decide), Bool.eq_iff_iff]
  simp
theorem ok_lover {f : Addr} {fd : FuncData} (F : FunD K "_law_over" "_law_over" (defArgs s__law_over) (defBody s__law_over) (defScope s__law_over) [] [] f fd) : FnOk P w K mg base (L2.CX P w) 1 f fd ["hall", "targets", "mode"] (conc K (aLOver K)) := by
  refine def_ok F sc__law_over nm__law_over (fun es G KN KE ⟨_, _, _, _, _, _, _, _, e, _⟩ => by rw [e] <;> rfl) ?_
  rintro X F0 es G G2 KN KE rfl rfl rfl rfl rfl c hfn nm rz ⟨p0, p1, p2, p3, ph, t, ts, m, rfl, hp, ht, hi, hl, q⟩
  show GSs X F0 _ [some (hallV p0 p1 p2 p3), some t, some (.bl m), none, none] (G ++ G2) _
  have ht' : LstAt X.K (G ++ G2) t (dInts ts) := ht.mono
  have hp' : LstAt X.K (G ++ G2) (.raw (.ref p1)) (dStrs ph) := hp.mono
  have ret : ∀ p v, v = overB m ts (endB ph) → (bodyA KN G2).rt (.bl v) (gl X.K p (dBls (ts.map fun i => doneB ph i)) :: (G ++ G2)) := fun p v hv => ⟨G, Ent.drop, by rw [hv]; exact q⟩
  refine xgss_cons (xgs_setLc c (.there (.there (.there .here))) (by decide +kernel) rfl rfl (by decide +kernel) (lcOk_by (by decide +kernel)) (src_L (fun _ => rfl)) (by decide) (xgt_lcL c (.there (.there (.there (.there .here)))) (xge_nm c nm (.there .here) ?_ rfl)))
  -- stop: comp [hall[1][target] == 'ended' for target in targets]
  refine ⟨_, ht', fun p => ⟨fun j acc G' => acc = dBls ((ts.take j).map fun i => doneB ph i) ∧ G' = G ++ G2, ⟨rfl, rfl⟩, ?_, ?_, ?_⟩⟩
  · rintro j acc G' hj ⟨rfl, rfl⟩
    exact ht'.cons
  · rintro j y acc G' hy ⟨rfl, rfl⟩
    obtain ⟨n, hn, rfl⟩ := dInts_at hy
    intro s H env fp fnv c'
    have vm := vmOk_of c' (Gn := []) (vis := [0, 4]) (by decide +kernel)
    have hlt : n < ph.length := hi n (List.mem_of_getElem? hn)
    have hat : atI (dStrs ph) ((n : Nat) : Int) = some (.str ph[n]) := Ly.atI_nat (by rw [List.getElem?_map, List.getElem?_eq_getElem hlt] <;> rfl)
    refine xge_compare (xge_index (xge_index (xge_vm c' vm .here (xge_int ?_) rfl) (fun b_ _ _ => by cases b_ <;> exact rfl)) (fun b_ _ _ => by cases b_ <;> exact rfl)) (nm_Eq _)
    mi_spec "opIx 1"
    refine xge_vm c' vm (.there (.there (.there (.there .here)))) ?_ rfl
    -- stop: STOP index
    refine rk_ixL hp'.cons hat ?_
    refine xge_str ?_
    mi_spec "opEq"
    refine ⟨_, Ent.refl _, by simp; omega, ?_, rfl⟩
    have e1 : doneB ph n = decide (ph[n] = ("ended" : Str)) := by
      unfold doneB endB
      rw [List.getD_eq_getElem?_getD, List.getElem?_map, List.getElem?_eq_getElem hlt]
      rfl
    rw [List.take_succ, hn, ← e1]
    simp [dBls]
  · rintro acc G' ⟨rfl, rfl⟩
    rw [List.take_of_length_le (by simp [dInts])]
    refine xgss_cons (xgs_if (xgt_val (m) ?_ ?_))
    · refine xgt_tru (fun _ => rfl) (xge_nm c nm (.there (.there .here)) ?_ rfl)
      mi_spec "opTru"
      exact ⟨rfl, rfl⟩
    refine brB ?_ ?_ <;> intro hm
    · refine xgss_cons (xgs_ret (xge_compare (xge_bl (xge_nm c nm (.there (.there (.there .here))) ?_ rfl)) rfl))
      -- stop: in
      refine rk_inB (Or.inl (lst_own Foc.here)) ?_
      exact ret _ _ (by rw [hm]; exact in_true)
    · refine xgss_nil ?_
      refine xgss_cons (xgs_ret (xge_compare (xge_bl (xge_nm c nm (.there (.there (.there .here))) ?_ rfl)) rfl))
      -- stop: in
      refine rk_ninB (Or.inl (lst_own Foc.here)) ?_
      exact ret _ _ (by rw [hm]; exact in_false)
end
section
variable {P : Program} {w : World} {K : PySem.W.Frag} {mg : Str → Option Value} {base : Heap}
def inPh (ph : List Str) (z : Str) (i : Nat) : Bool := decide (ph.getD i ⟨#[]⟩ = z)
def phL (ph : List Str) (z : Str) (n : Nat) : List Nat := (List.range n).filter (inPh ph z)
theorem phL_succ {ph : List Str} {z : Str} {n : Nat} : phL ph z (n + 1) = if inPh ph z n = true then phL ph z n ++ [n] else phL ph z n := by
  unfold phL
  rw [List.range_succ, List.filter_append]
  split
  · rename_i h
    simp [h]
  · rename_i h
    simp [h]
theorem phL_len {ph : List Str} {z : Str} {n : Nat} : (phL ph z n).length ≤ n := by
  unfold phL
  exact Nat.le_trans (List.length_filter_le _ _) (by rw [List.length_range]; exact Nat.le_refl _)
theorem str_at {ph : List Str} {n : Nat} (h : n < ph.length) : atI (dStrs ph) ((n : Nat) : Int) = some (.str (ph.getD n ⟨#[]⟩)) := Ly.atI_nat (by rw [List.getElem?_map, List.getD_eq_getElem?_getD, List.getElem?_eq_getElem h] <;> rfl)
abbrev aLRun (K : PySem.W.Frag) : ASp := fun es G KN _ => ∃ p0 p1 p2 p3 ph, es = [hallV p0 p1 p2 p3] ∧ LstAt K G (.raw (.ref p1)) (dStrs ph) ∧ ph.length ≤ 1000 ∧ ∀ p, KN (.raw (.ref p)) (gl K p (dInts (phL ph "running" ph.length)) :: G)
theorem ok_lrun {f : Addr} {fd : FuncData} (F : FunD K "_law_running" "_law_running" (defArgs s__law_running) (defBody s__law_running) (defScope s__law_running) [] [] f fd) (mrange : mg "range" = none) (mlen : mg "len" = none) : FnOk P w K mg base (L2.CX P w) 1 f fd ["hall"] (conc K (aLRun K)) := by
  refine def_ok F sc__law_running nm__law_running (fun es G KN KE ⟨_, _, _, _, _, e, _⟩ => by rw [e] <;> rfl) ?_
  rintro X F0 es G G2 KN KE rfl rfl rfl rfl rfl c hfn nm rz ⟨p0, p1, p2, p3, ph, rfl, hp, hl, q⟩
  show GSs X F0 _ [some (hallV p0 p1 p2 p3), none] (G ++ G2) _
  have hp' : LstAt X.K (G ++ G2) (.raw (.ref p1)) (dStrs ph) := hp.mono
  refine xgss_cons (xgs_ret (xge_lc c (lcOk_by (by decide +kernel)) (src_R1 c nm .here mrange rfl (fun _ => rfl)) (by decide) (xgt_lcR1 c (.there .here) (xga_cons (xge_callB c nm (.there .here) mlen bt_len (xga_cons (xge_index (xge_nm c nm .here (xge_int ?_) rfl) (fun b_ _ _ => by cases b_ <;> exact rfl)) rfl) rfl rfl) rfl))))
  mi_spec "opIx 1"
  refine xga_nil ?_
  mi_spec "rl_len"
  refine xga_nil ?_
  -- stop: comp [task for task in range(len(hall[1])) if hall[1][task] == 'running']
  refine ⟨_, rfl, ⟨by simp, by simp; omega⟩, fun p => ⟨fun j acc G' => acc = dInts (phL ph "running" j) ∧ G' = G ++ G2, ⟨rfl, rfl⟩, ?_, ?_⟩⟩
  · rintro j acc G' hj ⟨rfl, rfl⟩
    have hlt : j < ph.length := by simpa using hj
    intro s H env fp fnv c'
    have vm := vmOk_of c' (Gn := []) (vis := [0, 1]) (by decide +kernel)
    rw [Int.zero_add]
    refine xgt_compare (xge_index (xge_index (xge_vm c' vm .here (xge_int ?_) rfl) (fun b_ _ _ => by cases b_ <;> exact rfl)) (fun b_ _ _ => by cases b_ <;> exact rfl)) (nm_Eq _)
    mi_spec "opIx 1"
    refine xge_vm c' vm (.there .here) ?_ rfl
    -- stop: STOP index
    refine rk_ixL hp'.cons (str_at hlt) ?_
    refine xge_str ?_
    mi_spec "opEq"
    refine kb ?_
    refine brB ?_ ?_ <;> intro hb
    · intro s H env fp fnv c'
      have vm := vmOk_of c' (Gn := []) (vis := [0, 1]) (by decide +kernel)
      refine xge_vm c' vm (.there .here) ?_ rfl
      refine ⟨_, Ent.refl _, by have := @phL_len ph "running" j; simp; omega, ?_, rfl⟩
      rw [phL_succ, if_pos (show inPh ph "running" j = true from hb)]
      simp
    · refine ⟨_, Ent.refl _, ?_, rfl⟩
      rw [phL_succ, if_neg (by rw [show inPh ph "running" j = false from hb]; decide)]
  · rintro acc G' ⟨rfl, rfl⟩
    simp
    exact ⟨_, Ent.refl _, q p⟩
end
section
variable {P : Program} {w : World} {K : PySem.W.Frag} {mg : Str → Option Value} {base : Heap}
structure Hall where
  births : List Nat
  phases : List Str
  awaited : List (List Nat)
  modes : List Bool
abbrev dTs (ts : List (List Nat)) : List D := ts.map fun t => .lst (dInts t)
abbrev gHall (K : PySem.W.Frag) (p0 p1 p2 p3 : Addr) (h : Hall) : Gs := [gl K p0 (dInts h.births), gl K p1 (dStrs h.phases), gl K p2 (dTs h.awaited), gl K p3 (dBls h.modes)]
def Hall.bear (h : Hall) (parent : Nat) : Hall := ⟨h.births ++ [parent], h.phases ++ [("running" : Str)], h.awaited ++ [[]], h.modes ++ [false]⟩
structure Hall.Ok (h : Hall) : Prop where
  l1 : h.phases.length = h.births.length + 1
  l2 : h.awaited.length = h.births.length + 1
  l3 : h.modes.length = h.births.length + 1
  small : h.births.length ≤ 100
  par : ∀ i, i < h.births.length → h.births.getD i 0 ≤ i
  tgt : ∀ ts ∈ h.awaited, ts.length ≤ 100 ∧ ∀ i ∈ ts, i < h.phases.length
abbrev aLBears (K : PySem.W.Frag) : ASp := fun es G KN _ => ∃ p0 p1 p2 p3 h, ∃ par : Nat, es = [hallV p0 p1 p2 p3, .int (par : Int)] ∧ G = gHall K p0 p1 p2 p3 h ∧ h.Ok ∧ KN (.int ((h.births.length + 1 : Nat) : Int)) (gHall K p0 p1 p2 p3 (h.bear par))
theorem ok_lbears {f : Addr} {fd : FuncData} (F : FunD K "_law_bears" "_law_bears" (defArgs s__law_bears) (defBody s__law_bears) (defScope s__law_bears) [] [] f fd) (mlen : mg "len" = none) : FnOk P w K mg base (L2.CX P w) 1 f fd ["hall", "parent"] (conc K (aLBears K)) := by
  refine def_ok F sc__law_bears nm__law_bears (fun es G KN KE ⟨_, _, _, _, _, _, e, _⟩ => by rw [e] <;> rfl) ?_
  rintro X F0 es G G2 KN KE rfl rfl rfl rfl rfl c hfn nm rz ⟨p0, p1, p2, p3, h, par, rfl, rfl, ok, q⟩
  show GSs X F0 _ [some (hallV p0 p1 p2 p3), some (.int par), none, none, none, none] (gl X.K p0 (dInts h.births) :: gl X.K p1 (dStrs h.phases) :: gl X.K p2 (dTs h.awaited) :: gl X.K p3 (dBls h.modes) :: G2) _
  have l1 := ok.l1
  have l2 := ok.l2
  have l3 := ok.l3
  have sm := ok.small
  refine xgss_cons (xgs_asg c hfn nm (.there (.there .here)) (xge_index (xge_nm c nm .here (xge_int ?_) rfl) (fun b_ _ _ => by cases b_ <;> exact rfl)) rfl rfl)
  mi_spec "opIx 0"
  refine xgss_cons (xgs_asg c hfn nm (.there (.there (.there .here))) (xge_index (xge_nm c nm .here (xge_int ?_) rfl) (fun b_ _ _ => by cases b_ <;> exact rfl)) rfl rfl)
  mi_spec "opIx 1"
  refine xgss_cons (xgs_asg c hfn nm (.there (.there (.there (.there .here)))) (xge_index (xge_nm c nm .here (xge_int ?_) rfl) (fun b_ _ _ => by cases b_ <;> exact rfl)) rfl rfl)
  mi_spec "opIx 2"
  refine xgss_cons (xgs_asg c hfn nm (.there (.there (.there (.there (.there .here))))) (xge_index (xge_nm c nm .here (xge_int ?_) rfl) (fun b_ _ _ => by cases b_ <;> exact rfl)) rfl rfl)
  mi_spec "opIx 3"
  refine xgss_cons (xgs_expr (xge_bm PySem.F.plainAttrs_list PySem.F.slot_list_append PySem.F.type_list_append mt_append (xge_nm c nm (.there (.there .here)) ?_ rfl) rfl rfl rfl rfl rfl) rfl)
  mi_spec "opTy"
  refine xga_cons (xge_nm c nm (.there .here) (xga_nil ?_) rfl) rfl
  mi_spec "rm_append"
  · simp; omega
  refine xgss_cons (xgs_expr (xge_bm PySem.F.plainAttrs_list PySem.F.slot_list_append PySem.F.type_list_append mt_append (xge_nm c nm (.there (.there (.there .here))) ?_ rfl) rfl rfl rfl rfl rfl) rfl)
  mi_spec "opTy"
  refine xga_cons (xge_str (xga_nil ?_)) rfl
  mi_spec "rm_append"
  · simp; omega
  refine xgss_cons (xgs_expr (xge_bm PySem.F.plainAttrs_list PySem.F.slot_list_append PySem.F.type_list_append mt_append (xge_nm c nm (.there (.there (.there (.there .here)))) ?_ rfl) rfl rfl rfl rfl rfl) rfl)
  mi_spec "opTy"
  refine xga_cons (GTE.freeze ?_) st_list
  refine xge_lst ?_
  refine xga_nil ?_
  refine ⟨Nat.le_of_ble_eq_true rfl, fun p => ?_⟩
  refine ⟨_, _, _, rfl, by mi_spec "rem", ?_⟩
  refine xga_nil ?_
  mi_spec "rm_append"
  · simp; omega
  refine xgss_cons (xgs_expr (xge_bm PySem.F.plainAttrs_list PySem.F.slot_list_append PySem.F.type_list_append mt_append (xge_nm c nm (.there (.there (.there (.there (.there .here))))) ?_ rfl) rfl rfl rfl rfl rfl) rfl)
  mi_spec "opTy"
  refine xga_cons (xge_bl (xga_nil ?_)) rfl
  mi_spec "rm_append"
  · simp; omega
  refine xgss_cons (xgs_ret (xge_callB c nm .here mlen bt_len (xga_cons (xge_nm c nm (.there (.there .here)) (xga_nil ?_) rfl) rfl) rfl rfl))
  mi_spec "rl_len"
  have e : ((dInts h.births ++ [D.int (par : Int)]).length : Int) = ((h.births.length + 1 : Nat) : Int) := by simp
  rw [e]
  have e1 : dInts h.births ++ [D.int (par : Int)] = dInts (h.bear par).births := by simp [Hall.bear]
  have e2 : dStrs h.phases ++ [D.str "running"] = dStrs (h.bear par).phases := by simp [Hall.bear]
  have e3 : dTs h.awaited ++ [D.lst []] = dTs (h.bear par).awaited := by simp [Hall.bear]
  have e4 : dBls h.modes ++ [D.bl false] = dBls (h.bear par).modes := by simp [Hall.bear]
  rw [e1, e2, e3, e4]
  exact ⟨gHall X.K p0 p1 p2 p3 (h.bear par), Ent.refl _, q⟩
end
section
variable {P : Program} {w : World} {K : PySem.W.Frag} {mg : Str → Option Value} {base : Heap}
theorem callK_all {a : ASp} {es : List D} {G : Gs} {KN : D → Gs → Prop} (h : a es G KN NoX) : CallK a es G KN := ⟨G, [], by rw [List.append_nil]; exact Ent.refl _, by
  have e : (fun d G' => KN d (G' ++ [])) = KN := by funext d G'; rw [List.append_nil]
  rw [e]
  exact h⟩
def Hall.done (h : Hall) : List Bool := endB h.phases
def Hall.begin (h : Hall) (task : Nat) (ts : List Nat) (m : Bool) : Hall := if overB m ts h.done = true then h else ⟨h.births, h.phases.set task "waiting", h.awaited.set task ts, h.modes.set task m⟩
abbrev aLBegins (K : PySem.W.Frag) : ASp := fun es G KN _ => ∃ p0 p1 p2 p3 h, ∃ task : Nat, ∃ pt ts m, es = [hallV p0 p1 p2 p3, .int (task : Int), .raw (.ref pt), .bl m] ∧ G = gHall K p0 p1 p2 p3 h ++ [gl K pt (dInts ts)] ∧ h.Ok ∧ task < h.phases.length ∧ (∀ i ∈ ts, i < h.phases.length) ∧ ts.length ≤ 100 ∧ KN (.bl (overB m ts h.done)) (gHall K p0 p1 p2 p3 (h.begin task ts m))
theorem nat_ix {l n : Nat} (h : n < l) : ixN l (n : Int) = some n := by unfold ixN; simp [h]
theorem ok_lbegins {f : Addr} {fd : FuncData} (F : FunD K "_law_begins" "_law_begins" (defArgs s__law_begins) (defBody s__law_begins) (defScope s__law_begins) [] [] f fd) (mlist : mg "list" = none) (hover : DefAt P w K mg base 1 "_law_over" (aLOver K)) : FnOk P w K mg base (L2.CX P w) 2 f fd ["hall", "task", "targets", "mode"] (conc K (aLBegins K)) := by
  refine def_ok F sc__law_begins nm__law_begins (fun es G KN KE ⟨_, _, _, _, _, _, _, _, _, e, _⟩ => by rw [e] <;> rfl) ?_
  rintro X F0 es G G2 KN KE rfl rfl rfl rfl rfl c hfn nm rz ⟨p0, p1, p2, p3, h, task, pt, ts, m, rfl, rfl, ok, ht, hi, hl, q⟩
  show GSs X F0 _ [some (hallV p0 p1 p2 p3), some (.int task), some (.raw (.ref pt)), some (.bl m), none, none, none, none] (gl X.K p0 (dInts h.births) :: gl X.K p1 (dStrs h.phases) :: gl X.K p2 (dTs h.awaited) :: gl X.K p3 (dBls h.modes) :: gl X.K pt (dInts ts) :: G2) _
  have l1 := ok.l1
  have l2 := ok.l2
  have l3 := ok.l3
  have h__law_over := hover
  refine xgss_cons (xgs_asg c hfn nm (.there (.there (.there (.there .here)))) (xge_index (xge_nm c nm .here (xge_int ?_) rfl) (fun b_ _ _ => by cases b_ <;> exact rfl)) rfl rfl)
  mi_spec "opIx 1"
  refine xgss_cons (xgs_asg c hfn nm (.there (.there (.there (.there (.there .here))))) (xge_index (xge_nm c nm .here (xge_int ?_) rfl) (fun b_ _ _ => by cases b_ <;> exact rfl)) rfl rfl)
  mi_spec "opIx 2"
  refine xgss_cons (xgs_asg c hfn nm (.there (.there (.there (.there (.there (.there .here)))))) (xge_index (xge_nm c nm .here (xge_int ?_) rfl) (fun b_ _ _ => by cases b_ <;> exact rfl)) rfl rfl)
  mi_spec "opIx 3"
  refine xgss_cons (xgs_asg c hfn nm (.there (.there (.there (.there (.there (.there (.there .here))))))) (xge_call c h__law_over (Nat.le_of_ble_eq_true rfl) nm .here (xga_cons (xge_nm c nm .here (xga_cons (xge_nm c nm (.there (.there .here)) (xga_cons (xge_nm c nm (.there (.there (.there .here))) (xga_nil ?_) rfl) rfl) rfl) rfl) rfl) rfl) rfl rfl) rfl rfl)
  -- stop: call _law_over
  refine callK_all ⟨p0, p1, p2, p3, h.phases, _, ts, m, rfl, lst_own (Foc.there Foc.here), lst_own (Foc.there (Foc.there (Foc.there (Foc.there Foc.here)))), hi, by omega, ?_⟩
  refine xgss_cons (xgs_if (xgt_val (!(overB m ts h.done)) ?_ ?_))
  · refine xgt_not (xgt_tru (fun _ => rfl) (xge_nm c nm (.there (.there (.there (.there (.there (.there (.there .here))))))) ?_ rfl))
    mi_spec "opTru"
    exact ⟨rfl, rfl⟩
  refine brB ?_ ?_ <;> intro hb
  · refine xgss_cons (xgs_asgSub (xge_str (xge_nm c nm (.there (.there (.there (.there .here)))) (xge_nm c nm (.there .here) ?_ rfl) rfl)) (fun _ => rfl) rfl rfl rfl)
    -- stop: STOP store
    refine st_own (by mi_spec "foc") (nat_ix (by simpa using ht)) ?_
    refine xgss_cons (xgs_asgSub (GTE.freeze ?_) (fun _ => rfl) rfl rfl rfl)
    refine xge_callTy c nm (.there .here) mlist bt_list (xga_cons (xge_nm c nm (.there (.there .here)) (xga_nil ?_) rfl) rfl) rfl rfl
    mi_spec "rl_list"
    refine fun l1 => ?_
    refine ⟨_, _, _, rfl, by mi_spec "rem", ?_⟩
    refine xge_nm c nm (.there (.there (.there (.there (.there .here))))) (xge_nm c nm (.there .here) ?_ rfl) rfl
    -- stop: STOP store
    refine st_own (by mi_spec "foc") (nat_ix (by simp; omega)) ?_
    refine xgss_cons (xgs_asgSub (xge_nm c nm (.there (.there (.there .here))) (xge_nm c nm (.there (.there (.there (.there (.there (.there .here)))))) (xge_nm c nm (.there .here) ?_ rfl) rfl) rfl) (fun _ => rfl) rfl rfl rfl)
    -- stop: STOP store
    refine st_own (by mi_spec "foc") (nat_ix (by simp; omega)) ?_
    refine xgss_nil ?_
    refine xgss_cons (xgs_ret (xge_nm c nm (.there (.there (.there (.there (.there (.there (.there .here))))))) ?_ rfl))
    refine ⟨gHall X.K p0 p1 p2 p3 (h.begin task ts m), ?_, q⟩
    have e : h.begin task ts m = ⟨h.births, h.phases.set task "waiting", h.awaited.set task ts, h.modes.set task m⟩ := by unfold Hall.begin; rw [if_neg (by simpa using hb)]
    rw [e]
    have e1 : (dStrs h.phases).set task (D.str "waiting") = dStrs (h.phases.set task "waiting") := by simp [List.map_set]
    have e2 : (dTs h.awaited).set task (D.lst (dInts ts)) = dTs (h.awaited.set task ts) := by simp [List.map_set]
    have e3 : (dBls h.modes).set task (D.bl m) = dBls (h.modes.set task m) := by simp [List.map_set]
    rw [e1, e2, e3]
    exact Ent.cons _ (Ent.cons _ (Ent.cons _ (Ent.cons _ Ent.drop)))
  · refine xgss_nil ?_
    refine xgss_cons (xgs_ret (xge_nm c nm (.there (.there (.there (.there (.there (.there (.there .here))))))) ?_ rfl))
    refine ⟨gHall X.K p0 p1 p2 p3 (h.begin task ts m), ?_, q⟩
    have e : h.begin task ts m = h := by unfold Hall.begin; rw [if_pos (by simpa using hb)]
    rw [e]
    exact Ent.cons _ (Ent.cons _ (Ent.cons _ (Ent.cons _ Ent.drop)))
end
section
variable {P : Program} {w : World} {K : PySem.W.Frag} {mg : Str → Option Value} {base : Heap}
/-- the waiting tasks that go on when the phases are ph -/
def wakes (h : Hall) (ph : List Str) (o : Nat) : Bool := decide (ph.getD o ⟨#[]⟩ = ("waiting" : Str)) && overB (h.modes.getD o false) (h.awaited.getD o []) (endB ph)
def Hall.woken (h : Hall) (task : Nat) : List Nat := (List.range h.phases.length).filter (wakes h (h.phases.set task "ended"))
def wake (h : Hall) (o : Nat) : Hall := ⟨h.births, h.phases.set o "running", h.awaited.set o [], h.modes.set o false⟩
def Hall.fin (h : Hall) (task : Nat) : Hall := (h.woken task).foldl wake ⟨h.births, h.phases.set task "ended", h.awaited, h.modes⟩
abbrev aLEnding (K : PySem.W.Frag) : ASp := fun es G KN _ => ∃ p0 p1 p2 p3 h, ∃ task : Nat, es = [hallV p0 p1 p2 p3, .int (task : Int)] ∧ G = gHall K p0 p1 p2 p3 h ∧ h.Ok ∧ task < h.phases.length ∧ ∀ p, KN (.raw (.ref p)) (gl K p (dInts (h.woken task)) :: gHall K p0 p1 p2 p3 (h.fin task))
theorem ok_lending {f : Addr} {fd : FuncData} (F : FunD K "_law_ending" "_law_ending" (defArgs s__law_ending) (defBody s__law_ending) (defScope s__law_ending) [] [] f fd) (mrange : mg "range" = none) (mlen : mg "len" = none) (hover : DefAt P w K mg base 1 "_law_over" (aLOver K)) : FnOk P w K mg base (L2.CX P w) 2 f fd ["hall", "task"] (conc K (aLEnding K)) := by
  refine def_ok F sc__law_ending nm__law_ending (fun es G KN KE ⟨_, _, _, _, _, _, e, _⟩ => by rw [e] <;> rfl) ?_
  rintro X F0 es G G2 KN KE rfl rfl rfl rfl rfl c hfn nm rz ⟨p0, p1, p2, p3, h, task, rfl, rfl, ok, ht, q⟩
  show GSs X F0 _ [some (hallV p0 p1 p2 p3), some (.int task), none, none, none, none, none] (gl X.K p0 (dInts h.births) :: gl X.K p1 (dStrs h.phases) :: gl X.K p2 (dTs h.awaited) :: gl X.K p3 (dBls h.modes) :: G2) _
  have l1 := ok.l1
  have l2 := ok.l2
  have l3 := ok.l3
  have h__law_over := hover
  refine xgss_cons (xgs_asg c hfn nm (.there (.there .here)) (xge_index (xge_nm c nm .here (xge_int ?_) rfl) (fun b_ _ _ => by cases b_ <;> exact rfl)) rfl rfl)
  mi_spec "opIx 1"
  refine xgss_cons (xgs_asg c hfn nm (.there (.there (.there .here))) (xge_index (xge_nm c nm .here (xge_int ?_) rfl) (fun b_ _ _ => by cases b_ <;> exact rfl)) rfl rfl)
  mi_spec "opIx 2"
  refine xgss_cons (xgs_asg c hfn nm (.there (.there (.there (.there .here)))) (xge_index (xge_nm c nm .here (xge_int ?_) rfl) (fun b_ _ _ => by cases b_ <;> exact rfl)) rfl rfl)
  mi_spec "opIx 3"
  refine xgss_cons (xgs_asgSub (xge_str (xge_nm c nm (.there (.there .here)) (xge_nm c nm (.there .here) ?_ rfl) rfl)) (fun _ => rfl) rfl rfl rfl)
  -- stop: STOP store
  refine st_own (by mi_spec "foc") (nat_ix (by simpa using ht)) ?_
  have e1 : (dStrs h.phases).set task (D.str "ended") = dStrs (h.phases.set task "ended") := by simp [List.map_set]
  rw [e1]
  have hlen : (h.phases.set task "ended").length = h.phases.length := by simp
  refine xgss_cons (xgs_asg c hfn nm (.there (.there (.there (.there (.there .here))))) (xge_lst ?_) rfl rfl)
  refine xga_nil ?_
  refine ⟨Nat.le_of_ble_eq_true rfl, fun p => ?_⟩
  refine xgss_cons (xgs_forR1 c hfn nm (.there (.there (.there (.there (.there (.there .here)))))) .here mrange (xga_cons (xge_callB c nm (.there .here) mlen bt_len (xga_cons (xge_nm c nm (.there (.there .here)) (xga_nil ?_) rfl) rfl) rfl rfl) rfl) rfl rfl)
  mi_spec "rl_len"
  refine xga_nil ?_
  -- stop: for
  refine ⟨_, rfl, ⟨by simp, by have := ok.small; simp; omega⟩, fun j ds' G' => (∃ o, ds' = [some (hallV p0 p1 p2 p3), some (.int task), some (.raw (.ref p1)), some (.raw (.ref p2)), some (.raw (.ref p3)), some (.raw (.ref p)), o]) ∧ G' = gl X.K p (dInts ((List.range j).filter (wakes h (h.phases.set task "ended")))) :: gl X.K p0 (dInts h.births) :: gl X.K p1 (dStrs (h.phases.set task "ended")) :: gl X.K p2 (dTs h.awaited) :: gl X.K p3 (dBls h.modes) :: G2, ⟨⟨_, rfl⟩, rfl⟩, ?_, ?_⟩
  · rintro j ds' G' hj ⟨⟨o, rfl⟩, rfl⟩
    rw [Int.zero_add]
    have hj1 : j < h.phases.length := by simpa using hj
    have hjp : j < (h.phases.set task "ended").length := by simpa using hj1
    have ha : atI (dTs h.awaited) ((j : Nat) : Int) = some (.lst (dInts (h.awaited.getD j []))) := Ly.atI_nat (by rw [List.getElem?_map, List.getD_eq_getElem?_getD, List.getElem?_eq_getElem (by omega)] <;> rfl)
    have hm : atI (dBls h.modes) ((j : Nat) : Int) = some (.bl (h.modes.getD j false)) := Ly.atI_nat (by rw [List.getElem?_map, List.getD_eq_getElem?_getD, List.getElem?_eq_getElem (by omega)] <;> rfl)
    have hmem : h.awaited.getD j [] ∈ h.awaited := by rw [List.getD_eq_getElem?_getD, List.getElem?_eq_getElem (by omega)]; exact List.getElem_mem _
    have htg := ok.tgt _ hmem
    refine xgss_cons (xgs_if (xgt_val (wakes h (h.phases.set task "ended") j) ?_ ?_))
    · refine xgt_of_w (xgw_and (xgt_compare (xge_index (xge_nm c nm (.there (.there .here)) (xge_nm c nm (.there (.there (.there (.there (.there (.there .here)))))) ?_ rfl) rfl) (fun b_ _ _ => by cases b_ <;> exact rfl)) (nm_Eq _)))
      -- stop: STOP index
      refine rk_ixL (lst_own (Foc.there (Foc.there Foc.here))) (str_at hjp) ?_
      refine xge_str ?_
      mi_spec "opEq"
      refine kb ?_
      -- stop: br xgw_and
      refine brB ?_ ?_ <;> intro hb
      · refine xgw_and1 (xgt_tru (fun _ => rfl) (xge_call c h__law_over (Nat.le_of_ble_eq_true rfl) nm (.there (.there .here)) (xga_cons (xge_nm c nm .here (xga_cons (xge_index (xge_nm c nm (.there (.there (.there .here))) (xge_nm c nm (.there (.there (.there (.there (.there (.there .here)))))) ?_ rfl) rfl) (fun b_ _ _ => by cases b_ <;> exact rfl)) rfl) rfl) rfl) rfl rfl))
        -- stop: STOP index
        refine rk_ixL (lst_own (Foc.there (Foc.there (Foc.there Foc.here)))) ha ?_
        refine xga_cons (xge_index (xge_nm c nm (.there (.there (.there (.there .here)))) (xge_nm c nm (.there (.there (.there (.there (.there (.there .here)))))) ?_ rfl) rfl) (fun b_ _ _ => by cases b_ <;> exact rfl)) rfl
        -- stop: STOP index
        refine rk_ixL (lst_own (Foc.there (Foc.there (Foc.there (Foc.there Foc.here))))) hm ?_
        refine xga_nil ?_
        -- stop: call _law_over
        refine callK_all ⟨p0, p1, p2, p3, _, _, _, _, rfl, lst_own (Foc.there (Foc.there Foc.here)), lst_fr, fun i hi => by rw [hlen]; exact htg.2 i hi, by have := htg.1; omega, ?_⟩
        mi_spec "opTru"
        exact ⟨by unfold wakes; rw [hb, Bool.true_and], rfl⟩
      · exact ⟨by unfold wakes; rw [hb, Bool.false_and], rfl⟩
    have e2 : (List.range (j + 1)).filter (wakes h (h.phases.set task "ended")) = (List.range j).filter (wakes h (h.phases.set task "ended")) ++ (if wakes h (h.phases.set task "ended") j = true then [j] else []) := by
      rw [List.range_succ, List.filter_append]
      congr 1
      rw [List.filter_cons]
      split <;> rfl
    have e3 := List.length_filter_le (wakes h (h.phases.set task "ended")) (List.range j)
    rw [List.length_range] at e3
    have sm := ok.small
    refine brB ?_ ?_ <;> intro hb
    · refine xgss_cons (xgs_expr (xge_bm PySem.F.plainAttrs_list PySem.F.slot_list_append PySem.F.type_list_append mt_append (xge_nm c nm (.there (.there (.there (.there (.there .here))))) ?_ rfl) rfl rfl rfl rfl rfl) rfl)
      mi_spec "opTy"
      refine xga_cons (xge_nm c nm (.there (.there (.there (.there (.there (.there .here)))))) (xga_nil ?_) rfl) rfl
      mi_spec "rm_append"
      · simp; omega
      refine xgss_nil (xgss_nil ?_)
      exact ⟨⟨_, rfl⟩, by rw [e2, if_pos hb]; simp⟩
    · refine xgss_nil (xgss_nil ?_)
      exact ⟨⟨_, rfl⟩, by rw [e2, if_neg (by rw [hb]; decide)]; simp⟩
  · rintro ds' G' ⟨⟨o, rfl⟩, rfl⟩
    have ew : (List.range (((dStrs (h.phases.set task "ended")).length : Int).toNat)).filter (wakes h (h.phases.set task "ended")) = h.woken task := by
      unfold Hall.woken
      simp
    rw [ew]
    refine xgss_cons (xgs_forL c hfn (.there (.there (.there (.there (.there (.there .here)))))) (nm.loc (.there (.there (.there (.there (.there (.there .here)))))) rfl) (xge_nm c nm (.there (.there (.there (.there (.there .here))))) ?_ rfl) (fun _ => rfl))
    -- stop: for
    have wlen := fun n (hn : n ∈ h.woken task) => (List.mem_range.mp (List.mem_filter.mp hn).1 : n < h.phases.length)
    have inv : ∀ l : List Nat, ∀ k : Hall, k.phases.length = h.phases.length → k.awaited.length = h.awaited.length → k.modes.length = h.modes.length → (l.foldl wake k).phases.length = h.phases.length ∧ (l.foldl wake k).awaited.length = h.awaited.length ∧ (l.foldl wake k).modes.length = h.modes.length := by
      intro l
      induction l with
      | nil => exact fun k a b c => ⟨a, b, c⟩
      | cons x l ih => exact fun k a b c => ih (wake k x) (by simp [wake, a]) (by simp [wake, b]) (by simp [wake, c])
    refine ⟨dInts (h.woken task), fun j ds' G' => (∃ o, ds' = [some (hallV p0 p1 p2 p3), some (.int task), some (.raw (.ref p1)), some (.raw (.ref p2)), some (.raw (.ref p3)), some (.raw (.ref p)), o]) ∧ G' = gl X.K p (dInts (h.woken task)) :: (gHall X.K p0 p1 p2 p3 (((h.woken task).take j).foldl wake ⟨h.births, h.phases.set task "ended", h.awaited, h.modes⟩) ++ G2), ⟨⟨_, rfl⟩, rfl⟩, ?_, ?_, ?_⟩
    · rintro j ds' G' hj ⟨⟨o, rfl⟩, rfl⟩
      exact lst_own Foc.here
    · rintro j y ds' G' hy ⟨⟨o, rfl⟩, rfl⟩
      obtain ⟨n, hn, rfl⟩ := dInts_at hy
      have hnl := wlen n (List.mem_of_getElem? hn)
      obtain ⟨k1, k2, k3⟩ := inv ((h.woken task).take j) ⟨h.births, h.phases.set task "ended", h.awaited, h.modes⟩ hlen rfl rfl
      generalize ek : ((h.woken task).take j).foldl wake ⟨h.births, h.phases.set task "ended", h.awaited, h.modes⟩ = kk at k1 k2 k3
      show GSs X F0 _ [some (hallV p0 p1 p2 p3), some (.int task), some (.raw (.ref p1)), some (.raw (.ref p2)), some (.raw (.ref p3)), some (.raw (.ref p)), some (.int n)] (gl X.K p (dInts (h.woken task)) :: gl X.K p0 (dInts kk.births) :: gl X.K p1 (dStrs kk.phases) :: gl X.K p2 (dTs kk.awaited) :: gl X.K p3 (dBls kk.modes) :: G2) _
      refine xgss_cons (xgs_asgSub (xge_str (xge_nm c nm (.there (.there .here)) (xge_nm c nm (.there (.there (.there (.there (.there (.there .here)))))) ?_ rfl) rfl)) (fun _ => rfl) rfl rfl rfl)
      -- stop: STOP store
      refine st_own (by mi_spec "foc") (nat_ix (by simp; omega)) ?_
      refine xgss_cons (xgs_asgSub (GTE.freeze ?_) (fun _ => rfl) rfl rfl rfl)
      refine xge_lst ?_
      refine xga_nil ?_
      refine ⟨Nat.le_of_ble_eq_true rfl, fun p => ?_⟩
      refine ⟨_, _, _, rfl, by mi_spec "rem", ?_⟩
      refine xge_nm c nm (.there (.there (.there .here))) (xge_nm c nm (.there (.there (.there (.there (.there (.there .here)))))) ?_ rfl) rfl
      -- stop: STOP store
      refine st_own (by mi_spec "foc") (nat_ix (by simp; omega)) ?_
      refine xgss_cons (xgs_asgSub (xge_bl (xge_nm c nm (.there (.there (.there (.there .here)))) (xge_nm c nm (.there (.there (.there (.there (.there (.there .here)))))) ?_ rfl) rfl)) (fun _ => rfl) rfl rfl rfl)
      -- stop: STOP store
      refine st_own (by mi_spec "foc") (nat_ix (by simp; omega)) ?_
      refine xgss_nil ?_
      refine ⟨⟨_, rfl⟩, ?_⟩
      have e1 : (dStrs kk.phases).set n (D.str "running") = dStrs (kk.phases.set n "running") := by simp [List.map_set]
      have e2 : (dTs kk.awaited).set n (D.lst []) = dTs (kk.awaited.set n []) := by simp [List.map_set]
      have e3 : (dBls kk.modes).set n (D.bl false) = dBls (kk.modes.set n false) := by simp [List.map_set]
      rw [e1, e2, e3, List.take_succ, hn, List.foldl_append, ek]
      rfl
    · rintro ds' G' ⟨⟨o, rfl⟩, rfl⟩
      have e : (h.woken task).take (dInts (h.woken task)).length = h.woken task := List.take_of_length_le (by simp)
      rw [e]
      refine xgss_cons (xgs_ret (xge_nm c nm (.there (.there (.there (.there (.there .here))))) ?_ rfl))
      exact ⟨_, Ent.refl _, q p⟩
end
structure Tx (K : PySem.W.Frag) (mg : Str → Option Value) : Prop where
  mlen : mg "len" = none
  mrange : mg "range" = none
  mlist : mg "list" = none
  mtuple : mg "tuple" = none
  mint : mg "int" = none
  mbool : mg "bool" = none
  mstr : mg "str" = none
  mmin : mg "min" = none
  misinstance : mg "isinstance" = none
  g_Kin : mg "Kin" = some (.ref (He.ga K "Kin"))
  c_Kin : Cls K (He.ga K "Kin")
  na_Kin_up : NoAttr K (He.ga K "Kin") "up"
  na_Kin_down : NoAttr K (He.ga K "Kin") "down"
  na_Kin_side : NoAttr K (He.ga K "Kin") "side"
  na_Kin_far : NoAttr K (He.ga K "Kin") "far"
  na_Kin_rank : NoAttr K (He.ga K "Kin") "rank"
  con_Kin_MOST : ∃ u, Con K (He.ga K "Kin") "MOST" (.int 999) u
  own_Kin : OwnTy K (He.ga K "Kin")
  kit_Kin : PySem.W.kitOne K (.ref (He.ga K "Kin")) (.ref (He.ga K "Kin")) = some true
  bini_Kin_Mod : BinI K (He.ga K "Kin") .Mod
  t_SIDES : mg "SIDES" = some (.ref (He.ga K "SIDES")) ∧ (∀ H, SqT K H (He.ga K "SIDES") ((["line", "elder", "younger"] : List Str).map V.str)) ∧ ∃ o, K.lookup (He.ga K "SIDES") = some o ∧ o.cls = .type "tuple" ∧ o.dict = none
  i_LEAST_REACH : ∃ t, mg "LEAST_REACH" = some (.int 1 t)
  i_MOST_REACH : ∃ t, mg "MOST_REACH" = some (.int 4 t)
  g_Rule : mg "Rule" = some (.ref (He.ga K "Rule"))
  c_Rule : Cls K (He.ga K "Rule")
  na_Rule__reach : NoAttr K (He.ga K "Rule") "_reach"
  na_Rule__let : NoAttr K (He.ga K "Rule") "_let"
  na_Rule__rows : NoAttr K (He.ga K "Rule") "_rows"
  noseq_Rule : PySem.W.noSeq K (He.ga K "Rule") = true
  g_Hands : mg "Hands" = some (.ref (He.ga K "Hands"))
  c_Hands : Cls K (He.ga K "Hands")
  na_Hands_keeps : NoAttr K (He.ga K "Hands") "keeps"
  na_Hands_greets : NoAttr K (He.ga K "Hands") "greets"
  na_Hands_inherits : NoAttr K (He.ga K "Hands") "inherits"
  na_Hands_told : NoAttr K (He.ga K "Hands") "told"
  g_Family : mg "Family" = some (.ref (He.ga K "Family"))
  c_Family : Cls K (He.ga K "Family")
  na_Family__tasks : NoAttr K (He.ga K "Family") "_tasks"
  na_Family__parents : NoAttr K (He.ga K "Family") "_parents"
  na_Family__places : NoAttr K (He.ga K "Family") "_places"
  na_Family__depths : NoAttr K (He.ga K "Family") "_depths"
  na_Family__broods : NoAttr K (He.ga K "Family") "_broods"
  con_Family_MOST : ∃ u, Con K (He.ga K "Family") "MOST" (.int 600) u
  cval_Family_MOST : ∃ mc u, ClX.CRead K (He.ga K "Family") mc ∧ ClX.CVal K (He.ga K "Family") mc "MOST" (.int 600) u
  g_State : mg "State" = some (.ref (He.ga K "State"))
  c_State : Cls K (He.ga K "State")
  na_State_family : NoAttr K (He.ga K "State") "family"
  na_State_phases : NoAttr K (He.ga K "State") "phases"
  na_State_awaited : NoAttr K (He.ga K "State") "awaited"
  na_State_modes : NoAttr K (He.ga K "State") "modes"
  na_State_held : NoAttr K (He.ga K "State") "held"
  g_Runtime : mg "Runtime" = some (.ref (He.ga K "Runtime"))
  c_Runtime : Cls K (He.ga K "Runtime")
  na_Runtime__rule : NoAttr K (He.ga K "Runtime") "_rule"
  na_Runtime__hands : NoAttr K (He.ga K "Runtime") "_hands"
  na_Runtime__limit : NoAttr K (He.ga K "Runtime") "_limit"
  na_Runtime_state : NoAttr K (He.ga K "Runtime") "state"
/-! ### kins -/
abbrev Cell := Nat × Nat × Str
abbrev cKin (K : PySem.W.Frag) : Addr := He.ga K "Kin"
abbrev kinF : List Str := ["up", "down", "side", "far", "rank"]
def rankN (s : Str) : Nat := if s = "line" then 0 else if s = "elder" then 1 else 2
abbrev kinDs (c : Cell) : List D := [.int (c.1 : Int), .int (c.2.1 : Int), .str c.2.2, .int ((c.1 + c.2.1 : Nat) : Int), .int ((rankN c.2.2 : Nat) : Int)]
abbrev kinV (K : PySem.W.Frag) (c : Cell) : D := .ins (cKin K) kinF (kinDs c)
def fitsC (c : Cell) : Bool := if c.1 = 0 ∨ c.2.1 = 0 then decide (c.2.2 = ("line" : Str)) else decide (c.2.2 = ("elder" : Str) ∨ c.2.2 = ("younger" : Str))
/-- a kin that may be made -/
structure KinOk (c : Cell) : Prop where
  u : c.1 ≤ 999
  d : c.2.1 ≤ 999
  f : fitsC c = true
def farC (c : Cell) : Nat := c.1 + c.2.1
def kinLt (a b : Cell) : Bool := decide (farC a < farC b) || (decide (farC a = farC b) && (decide (a.1 < b.1) || (decide (a.1 = b.1) && decide (rankN a.2.2 < rankN b.2.2))))
def capC (r : Nat) (c : Cell) : Cell := (min c.1 r, min c.2.1 r, c.2.2)
abbrev cellT (c : Cell) : D := .tup [.int (c.1 : Int), .int (c.2.1 : Int), .str c.2.2]
abbrev keyC (c : Cell) : List Key := [.inl (c.1 : Int), .inl (c.2.1 : Int), .inr c.2.2]
/-- Kin(up, down, side) -/
abbrev aKin (K : PySem.W.Frag) : ASp := fun es G KN _ => ∃ y, ∃ c : Cell, es = [.raw (.ref y), .int (c.1 : Int), .int (c.2.1 : Int), .str c.2.2] ∧ G = [gi K y (cKin K) []] ∧ KinOk c ∧ KN .non [gi K y (cKin K) (kinF.zip (kinDs c))]
abbrev aMeasure (K : PySem.W.Frag) : ASp := fun es G KN _ => ∃ c, es = [kinV K c] ∧ G = [] ∧ KN (.tup [.int ((farC c : Nat) : Int), .int (c.1 : Int), .int ((rankN c.2.2 : Nat) : Int)]) []
abbrev aKinLt (K : PySem.W.Frag) : ASp := fun es G KN _ => ∃ a b, es = [kinV K a, kinV K b] ∧ G = [] ∧ KN (.bl (kinLt a b)) []
abbrev aKinMod (K : PySem.W.Frag) : ASp := fun es G KN _ => ∃ c, ∃ r : Nat, es = [kinV K c, .int (r : Int)] ∧ G = [] ∧ KinOk c ∧ 1 ≤ r ∧ KN (kinV K (capC r c)) []
abbrev aIsSelf (K : PySem.W.Frag) : ASp := fun es G KN _ => ∃ c, es = [kinV K c] ∧ G = [] ∧ KN (.bl (decide (farC c = 0))) []
/-! ### rules -/
abbrev aReach : ASp := fun es G KN _ => ∃ r : Nat, es = [.int (r : Int)] ∧ G = [] ∧ 1 ≤ r ∧ r ≤ 4 ∧ KN .non []
def sidesC (u d : Nat) : List Cell := if u = 0 ∨ d = 0 then [(u, d, "line")] else [(u, d, "elder"), (u, d, "younger")]
def cellsF (r far n : Nat) : List Cell := ((List.range n).map fun u => if u ≤ far ∧ far - u ≤ r then sidesC u (far - u) else []).flatten
def cellsN (r n : Nat) : List Cell := ((List.range n).map fun f => cellsF r (f + 1) (r + 1)).flatten
def cellsOf (r : Nat) : List Cell := cellsN r (2 * r)
abbrev dKins (K : PySem.W.Frag) (cs : List Cell) : List D := cs.map (kinV K)
abbrev aCells (K : PySem.W.Frag) : ASp := fun es G KN _ => ∃ r : Nat, es = [.int (r : Int)] ∧ G = [] ∧ 1 ≤ r ∧ r ≤ 4 ∧ ∀ p, KN (.raw (.ref p)) [gl K p (dKins K (cellsOf r))]
/-- the dict of cells: what is in it -/
structure LetOk (kvs : List (List Key × D)) (S : List Cell) : Prop where
  len : kvs.length ≤ S.length
  at_ : ∀ c, (valD kvs (keyC c)).isSome = decide (c ∈ S)
def gLet (K : PySem.W.Frag) (p : Addr) (S : List Cell) : Grp := gx fun kvs : {kvs // LetOk kvs S} => [gdT K p kvs.1]
/-- a cell of reach r -/
structure CellOk (r : Nat) (c : Cell) : Prop where
  u : c.1 ≤ r
  d : c.2.1 ≤ r
  n : 0 < farC c
  f : fitsC c = true
structure RuleAd where
  p : Addr
  l : Addr
  r : Addr
structure RowsOk (rows S : List Cell) : Prop where
  len : rows.length ≤ S.length + 80
  at_ : ∀ c, c ∈ rows ↔ c ∈ S
abbrev cRule (K : PySem.W.Frag) : Addr := He.ga K "Rule"
def gRows (K : PySem.W.Frag) (p : Addr) (S : List Cell) : Grp := gx fun rows : {rows // RowsOk rows S} => [gl K p (dKins K rows.1)]
abbrev ruleFs (a : RuleAd) (r : Nat) : List (Str × D) := [("_reach", .int (r : Int)), ("_let", .raw (.ref a.l)), ("_rows", .raw (.ref a.r))]
abbrev gRule (K : PySem.W.Frag) (a : RuleAd) (r : Nat) (S : List Cell) : Gs := [gi K a.p (cRule K) (ruleFs a r), gLet K a.l S, gRows K a.r S]
structure RuleOk (r : Nat) (S : List Cell) : Prop where
  r1 : 1 ≤ r
  r4 : r ≤ 4
  c : ∀ c ∈ S, CellOk r c
  len : S.length ≤ 900
abbrev aLetParts (K : PySem.W.Frag) : ASp := fun es G KN _ => ∃ r : Nat, ∃ cs : List Cell, es = [.int (r : Int), .tup (dKins K cs)] ∧ G = [] ∧ 1 ≤ r ∧ (∀ c ∈ cs, KinOk c ∧ 0 < farC c) ∧ cs.length ≤ 1000 ∧ ∀ p, KN (.raw (.ref p)) [gLet K p (cs.map (capC r))]
/-- Rule(reach, *kins) -/
abbrev aRule (K : PySem.W.Frag) : ASp := fun es G KN _ => ∃ y, ∃ r : Nat, ∃ cs : List Cell, es = [.raw (.ref y), .int (r : Int), .tup (dKins K cs)] ∧ G = [gi K y (cRule K) []] ∧ 1 ≤ r ∧ r ≤ 4 ∧ (∀ c ∈ cs, KinOk c ∧ 0 < farC c) ∧ cs.length ≤ 1000 ∧ ∀ l q, KN .non (gRule K ⟨y, l, q⟩ r (cs.map (capC r)))
abbrev aLets (K : PySem.W.Frag) : ASp := fun es G KN _ => ∃ p l fs r S, ∃ c : Cell, es = [.raw (.ref p), .int (c.1 : Int), .int (c.2.1 : Int), .str c.2.2] ∧ G = [gi K p (cRule K) fs, gLet K l S] ∧ fs.lookup ("_reach" : Str) = some (.int ((r : Nat) : Int)) ∧ fs.lookup ("_let" : Str) = some (.raw (.ref l)) ∧ KN (.bl (decide (capC r c ∈ S))) [gi K p (cRule K) fs, gLet K l S]
abbrev aGetItem (K : PySem.W.Frag) : ASp := fun es G KN _ => ∃ a r S c, es = [.raw (.ref (RuleAd.p a)), kinV K c] ∧ G = gRule K a r S ∧ KN (.bl (decide (capC r c ∈ S))) (gRule K a r S)
def putS (S : List Cell) (c : Cell) : List Cell := if c ∈ S then S else S ++ [c]
abbrev aPut (K : PySem.W.Frag) : ASp := fun es G KN _ => ∃ a r S c, es = [.raw (.ref (RuleAd.p a)), kinV K c] ∧ G = gRule K a r S ∧ CellOk r c ∧ S.length < 900 ∧ KN .non (gRule K a r (putS S c))
abbrev aSetItem (K : PySem.W.Frag) : ASp := fun es G KN _ => ∃ a r S c, es = [.raw (.ref (RuleAd.p a)), kinV K c, .bl true] ∧ G = gRule K a r S ∧ KinOk c ∧ 0 < farC c ∧ 1 ≤ r ∧ S.length < 900 ∧ KN .non (gRule K a r (putS S (capC r c)))
abbrev aRTwin (K : PySem.W.Frag) : ASp := fun es G KN _ => ∃ a r S, es = [.raw (.ref (RuleAd.p a))] ∧ G = gRule K a r S ∧ RuleOk r S ∧ ∀ a' S', (∀ c, c ∈ S' ↔ c ∈ S) → S'.length ≤ S.length + 80 → KN (.raw (.ref (RuleAd.p a'))) (gRule K a' r S' ++ gRule K a r S)
/-! ### hand rules -/
structure Flags where
  keeps : Bool
  greets : Bool
  inherits : Bool
  told : Bool
abbrev cHands (K : PySem.W.Frag) : Addr := He.ga K "Hands"
abbrev handF : List Str := ["keeps", "greets", "inherits", "told"]
abbrev handDs (f : Flags) : List D := [.bl f.keeps, .bl f.greets, .bl f.inherits, .bl f.told]
abbrev handV (K : PySem.W.Frag) (f : Flags) : D := .ins (cHands K) handF (handDs f)
abbrev aHands (K : PySem.W.Frag) : ASp := fun es G KN _ => ∃ y f, es = .raw (.ref y) :: handDs f ∧ G = [gi K y (cHands K) []] ∧ KN .non [gi K y (cHands K) (handF.zip (handDs f))]
abbrev aEvery (K : PySem.W.Frag) : ASp := fun es G KN _ => es = [.raw (.ref (cHands K))] ∧ G = [] ∧ KN (handV K ⟨true, true, true, true⟩) []
/-! ### families -/
structure Fam where
  tasks : List Nat
  parents : List (Option Nat)
  places : List Nat
  depths : List Nat
  broods : List (List Nat)
structure FamAd where
  p : Addr
  t : Addr
  pa : Addr
  pl : Addr
  de : Addr
  br : Addr
abbrev cFam (K : PySem.W.Frag) : Addr := He.ga K "Family"
def optD : Option Nat → D
  | none => .non
  | some n => .int (n : Int)
abbrev dOpts (xs : List (Option Nat)) : List D := xs.map optD
abbrev phL' (K : PySem.W.Frag) (ns : List Nat) : Hp → HO → Prop := fun F o => ∃ vs, o = .lst vs ∧ RepL K F (dInts ns) vs
abbrev keysD (ns : List Nat) : List (Key × D) := ns.map fun n : Nat => (Sum.inl (n : Int), D.bl true)
abbrev phD (K : PySem.W.Frag) (ns : List Nat) : Hp → HO → Prop := fun F o => ∃ vs, o = .dK vs ∧ RepK K F (keysD ns) vs
abbrev famFs (a : FamAd) : List (Str × D) := [("_tasks", .raw (.ref a.t)), ("_parents", .raw (.ref a.pa)), ("_places", .raw (.ref a.pl)), ("_depths", .raw (.ref a.de)), ("_broods", .raw (.ref a.br))]
abbrev gFam (K : PySem.W.Frag) (a : FamAd) (f : Fam) : Gs := [gi K a.p (cFam K) (famFs a), gl K a.t (dInts f.tasks), gl K a.pa (dOpts f.parents), gl K a.pl (dInts f.places), gl K a.de (dInts f.depths), gA K a.br (f.broods.map (phL' K))]
structure Fam.Ok (f : Fam) : Prop where
  l1 : f.parents.length = f.tasks.length
  l2 : f.places.length = f.tasks.length
  l3 : f.depths.length = f.tasks.length
  l4 : f.broods.length = f.tasks.length
  small : f.tasks.length ≤ 600
  pos : 0 < f.tasks.length
  br : ∀ b ∈ f.broods, b.length ≤ 600
def Fam.zero : Fam := ⟨[0], [none], [0], [0], [[]]⟩
def Fam.bear (f : Fam) (p : Nat) : Fam := ⟨f.tasks ++ [f.tasks.length], f.parents ++ [some p], f.places ++ [(f.broods.getD p []).length], f.depths ++ [f.depths.getD p 0 + 1], (f.broods.set p (f.broods.getD p [] ++ [f.tasks.length])) ++ [[]]⟩
abbrev aFam (K : PySem.W.Frag) : ASp := fun es G KN _ => ∃ y, es = [.raw (.ref y)] ∧ G = [gi K y (cFam K) []] ∧ ∀ t pa pl de br, KN .non (gFam K ⟨y, t, pa, pl, de, br⟩ Fam.zero)
abbrev aFDemand (K : PySem.W.Frag) : ASp := fun es G KN _ => ∃ a f, ∃ t : Nat, es = [.raw (.ref (FamAd.p a)), .int (t : Int)] ∧ G = gFam K a f ∧ t < f.tasks.length ∧ KN .non (gFam K a f)
abbrev aFBear (K : PySem.W.Frag) : ASp := fun es G KN _ => ∃ a f, ∃ t : Nat, es = [.raw (.ref (FamAd.p a)), .int (t : Int)] ∧ G = gFam K a f ∧ f.Ok ∧ t < f.tasks.length ∧ f.tasks.length < 600 ∧ KN (.int (f.tasks.length : Int)) (gFam K a (f.bear t))
/-- the line of a task: itself, its parent, .. -/
def lineN (ps : List (Option Nat)) : Nat → Nat → List Nat
  | 0, t => [t]
  | n + 1, t => match ps.getD t none with
    | none => [t]
    | some p => t :: lineN ps n p
def lineOf (ps : List (Option Nat)) (t : Nat) : List Nat := lineN ps t t
def partsOf (ps : List (Option Nat)) (a b : Nat) : Cell :=
  let L := lineOf ps a
  let M := lineOf ps b
  let u := L.findIdx fun x => M.contains x
  let d := M.idxOf (L.getD u 0)
  (u, d, if u = 0 ∨ d = 0 then "line" else if M.getD (d - 1) 0 < L.getD (u - 1) 0 then "elder" else "younger")
/-- parents are elder, depths are those of the parents and one -/
structure Fam.Tree (f : Fam) : Prop where
  par : ∀ t, t < f.tasks.length → (t = 0 ∧ f.parents.getD t none = none ∧ f.depths.getD t 0 = 0) ∨ ∃ p, p < t ∧ f.parents.getD t none = some p ∧ f.depths.getD t 0 = f.depths.getD p 0 + 1
abbrev aKinship (K : PySem.W.Frag) : ASp := fun es G KN _ => ∃ a f, ∃ s t : Nat, es = [.raw (.ref (FamAd.p a)), .int (s : Int), .int (t : Int)] ∧ G = gFam K a f ∧ f.Ok ∧ f.Tree ∧ s < f.tasks.length ∧ t < f.tasks.length ∧ KN (kinV K (partsOf f.parents s t)) (gFam K a f)
abbrev aRCall (K : PySem.W.Frag) : ASp := fun es G KN _ => ∃ a r S b f, ∃ s t : Nat, es = [.raw (.ref (RuleAd.p a)), .raw (.ref (FamAd.p b)), .int (s : Int), .int (t : Int)] ∧ G = gRule K a r S ++ gFam K b f ∧ f.Ok ∧ f.Tree ∧ s < f.tasks.length ∧ t < f.tasks.length ∧ KN (.bl (decide (capC r (partsOf f.parents s t) ∈ S))) (gRule K a r S ++ gFam K b f)
/-! ### states -/
structure StAd where
  p : Addr
  fam : FamAd
  ph : Addr
  aw : Addr
  mo : Addr
  he : Addr
structure St where
  fam : Fam
  phases : List Str
  awaited : List (List Nat)
  modes : List Bool
  held : List (List Nat)
abbrev cState (K : PySem.W.Frag) : Addr := He.ga K "State"
abbrev stFs (a : StAd) : List (Str × D) := [("family", .raw (.ref a.fam.p)), ("phases", .raw (.ref a.ph)), ("awaited", .raw (.ref a.aw)), ("modes", .raw (.ref a.mo)), ("held", .raw (.ref a.he))]
abbrev gSt (K : PySem.W.Frag) (a : StAd) (s : St) : Gs := gi K a.p (cState K) (stFs a) :: gl K a.ph (dStrs s.phases) :: gl K a.aw (dTs s.awaited) :: gl K a.mo (dBls s.modes) :: gA K a.he (s.held.map (phD K)) :: gFam K a.fam s.fam
def St.zero : St := ⟨Fam.zero, ["running"], [[]], [false], [[]]⟩
structure St.Ok (s : St) : Prop where
  fam : s.fam.Ok
  tree : s.fam.Tree
  l1 : s.phases.length = s.fam.tasks.length
  l2 : s.awaited.length = s.fam.tasks.length
  l3 : s.modes.length = s.fam.tasks.length
  l4 : s.held.length = s.fam.tasks.length
  tgt : ∀ ts ∈ s.awaited, ts.length ≤ 100 ∧ ∀ i ∈ ts, i < s.phases.length
  hb : ∀ ks ∈ s.held, ks.length ≤ 600
def addK (ks : List Nat) (t : Nat) : List Nat := if t ∈ ks then ks else ks ++ [t]
def setK (held : List (List Nat)) (i t : Nat) : List (List Nat) := held.set i (addK (held.getD i []) t)
/-- what State.add does to the held sets -/
def heldAdd (held : List (List Nat)) (p c : Nat) (f : Flags) : List (List Nat) :=
  let holders := (List.range held.length).filter fun t => decide (p ∈ held.getD t [])
  let known := held.getD p []
  let h0 := held ++ [[]]
  let h1 := if f.keeps then setK h0 p c else h0
  let h2 := if f.greets then setK h1 c p else h1
  let h3 := if f.inherits then known.foldl (fun h t => setK h c t) h2 else h2
  if f.told then holders.foldl (fun h t => setK h t c) h3 else h3
def St.add (s : St) (p : Nat) (f : Flags) : St := ⟨s.fam.bear p, s.phases ++ [("running" : Str)], s.awaited ++ [[]], s.modes ++ [false], heldAdd s.held p s.fam.tasks.length f⟩
abbrev aState (K : PySem.W.Frag) : ASp := fun es G KN _ => ∃ y, es = [.raw (.ref y)] ∧ G = [gi K y (cState K) []] ∧ ∀ fam ph aw mo he, KN .non (gSt K ⟨y, fam, ph, aw, mo, he⟩ St.zero)
abbrev aAdd (K : PySem.W.Frag) : ASp := fun es G KN _ => ∃ a s f, ∃ p : Nat, es = [.raw (.ref (StAd.p a)), .int (p : Int), handV K f] ∧ G = gSt K a s ∧ s.Ok ∧ p < s.fam.tasks.length ∧ s.fam.tasks.length < 600 ∧ KN (.int (s.fam.tasks.length : Int)) (gSt K a (s.add p f))
/-! ### runtimes -/
structure RtAd where
  p : Addr
  rule : RuleAd
  st : StAd
structure Rt where
  reach : Nat
  S : List Cell
  hands : Flags
  limit : Nat
  st : St
abbrev cRt (K : PySem.W.Frag) : Addr := He.ga K "Runtime"
abbrev rtFs (K : PySem.W.Frag) (a : RtAd) (r : Rt) : List (Str × D) := [("_rule", .raw (.ref a.rule.p)), ("_hands", handV K r.hands), ("_limit", .int (r.limit : Int)), ("state", .raw (.ref a.st.p))]
abbrev gRt (K : PySem.W.Frag) (a : RtAd) (r : Rt) : Gs := gi K a.p (cRt K) (rtFs K a r) :: (gRule K a.rule r.reach r.S ++ gSt K a.st r.st)
structure Rt.Ok (r : Rt) : Prop where
  rule : RuleOk r.reach r.S
  st : r.st.Ok
  lim : r.limit ≤ 600
/-! M1: lines and kins. -/
section
variable {f : Fam} (ok : f.Ok) (tr : f.Tree)
theorem lineN_fuel {ps : List (Option Nat)} (h : ∀ t p, ps.getD t none = some p → p < t) : ∀ (n t : Nat), t ≤ n → lineN ps n t = lineN ps t t := by
  intro n
  induction n using Nat.strongRecOn with
  | _ n ih =>
    intro t ht
    cases n with
    | zero =>
      have : t = 0 := by omega
      rw [this]
    | succ n =>
      cases t with
      | zero =>
        unfold lineN
        cases e : ps.getD 0 none with
        | none => rfl
        | some p => exact absurd (h 0 p e) (by omega)
      | succ t =>
        show (match ps.getD (t + 1) none with
          | none => [t + 1]
          | some p => (t + 1) :: lineN ps n p) = (match ps.getD (t + 1) none with
          | none => [t + 1]
          | some p => (t + 1) :: lineN ps t p)
        cases e : ps.getD (t + 1) none with
        | none => rfl
        | some p =>
          have hp := h _ _ e
          show (t + 1) :: lineN ps n p = (t + 1) :: lineN ps t p
          rw [ih n (by omega) p (by omega), ih t (by omega) p (by omega)]
theorem line_none {ps : List (Option Nat)} {t : Nat} (e : ps.getD t none = none) : lineOf ps t = [t] := by
  unfold lineOf
  cases t with
  | zero => rfl
  | succ t =>
    unfold lineN
    rw [e]
theorem line_some {ps : List (Option Nat)} (h : ∀ t p, ps.getD t none = some p → p < t) {t p : Nat} (e : ps.getD t none = some p) : lineOf ps t = t :: lineOf ps p := by
  have hp := h _ _ e
  unfold lineOf
  cases t with
  | zero => omega
  | succ t =>
    show (match ps.getD (t + 1) none with
      | none => [t + 1]
      | some p => (t + 1) :: lineN ps t p) = _
    rw [e]
    show (t + 1) :: lineN ps t p = _
    rw [lineN_fuel h t p (by omega)]
include ok tr
theorem par_lt : ∀ t p, f.parents.getD t none = some p → p < t := by
  intro t p e
  by_cases h : t < f.tasks.length
  · rcases tr.par t h with ⟨_, h2, _⟩ | ⟨p', h1, h2, _⟩
    · rw [h2] at e; cases e
    · rw [h2] at e; cases e; exact h1
  · rw [List.getD_eq_getElem?_getD, List.getElem?_eq_none (by rw [ok.l1]; omega)] at e
    cases e
/-- members of a line: not greater, depths -/
theorem line_mem : ∀ t, t < f.tasks.length → ∀ x ∈ lineOf f.parents t, x ≤ t ∧ (x = t ∨ f.depths.getD x 0 < f.depths.getD t 0) := by
  intro t
  induction t using Nat.strongRecOn with
  | _ t ih =>
    intro ht x hx
    rcases tr.par t ht with ⟨h0, h1, h2⟩ | ⟨p, h1, h2, h3⟩
    · rw [line_none h1] at hx
      have : x = t := by simpa using hx
      exact ⟨by omega, .inl this⟩
    · rw [line_some (par_lt ok tr) h2] at hx
      rcases List.mem_cons.mp hx with e | hx
      · exact ⟨by omega, .inl e⟩
      · obtain ⟨a, b⟩ := ih p h1 (by omega) x hx
        refine ⟨by omega, .inr ?_⟩
        rcases b with b | b
        · rw [b]; omega
        · omega
theorem line_self (t : Nat) : t ∈ lineOf f.parents t := by
  cases e : f.parents.getD t none with
  | none => rw [line_none e]; simp
  | some p => rw [line_some (par_lt ok tr) e]; simp
theorem line_head (t : Nat) : (lineOf f.parents t)[0]? = some t := by
  cases e : f.parents.getD t none with
  | none => rw [line_none e]; rfl
  | some p => rw [line_some (par_lt ok tr) e]; rfl
theorem line_dec : ∀ t, t < f.tasks.length → (lineOf f.parents t).Pairwise (· > ·) := by
  intro t
  induction t using Nat.strongRecOn with
  | _ t ih =>
    intro ht
    rcases tr.par t ht with ⟨h0, h1, h2⟩ | ⟨p, h1, h2, h3⟩
    · rw [line_none h1]; simp
    · rw [line_some (par_lt ok tr) h2]
      refine List.pairwise_cons.mpr ⟨fun x hx => ?_, ih p h1 (by omega)⟩
      have := (line_mem ok tr p (by omega) x hx).1
      omega
theorem line_len : ∀ t, t < f.tasks.length → (lineOf f.parents t).length ≤ t + 1 := by
  intro t
  induction t using Nat.strongRecOn with
  | _ t ih =>
    intro ht
    rcases tr.par t ht with ⟨h0, h1, h2⟩ | ⟨p, h1, h2, h3⟩
    · rw [line_none h1]; simp
    · rw [line_some (par_lt ok tr) h2]
      have := ih p h1 (by omega)
      simp
      omega
theorem depth_zero {t : Nat} (ht : t < f.tasks.length) (h : f.depths.getD t 0 = 0) : t = 0 := by
  rcases tr.par t ht with ⟨h0, _, _⟩ | ⟨p, _, _, h3⟩
  · exact h0
  · omega
/-- where the walk of kinship stands -/
structure Wk (f : Fam) (a b l r u d lc rc : Nat) : Prop where
  hl : l < f.tasks.length
  hr : r < f.tasks.length
  dl : (lineOf f.parents a).drop u = lineOf f.parents l
  dr : (lineOf f.parents b).drop d = lineOf f.parents r
  cl : 0 < u → (lineOf f.parents a)[u - 1]? = some lc
  cr : 0 < d → (lineOf f.parents b)[d - 1]? = some rc
  com : ∀ x, x ∈ lineOf f.parents a → x ∈ lineOf f.parents b → x ∈ lineOf f.parents l ∧ x ∈ lineOf f.parents r
omit ok tr in
theorem Wk.start {a b : Nat} (ha : a < f.tasks.length) (hb : b < f.tasks.length) : Wk f a b a b 0 0 a b := ⟨ha, hb, rfl, rfl, fun h => absurd h (by omega), fun h => absurd h (by omega), fun x h1 h2 => ⟨h1, h2⟩⟩
theorem Wk.left {a b l r u d lc rc : Nat} (w : Wk f a b l r u d lc rc) (hn : l ≠ r) (hd : f.depths.getD r 0 ≤ f.depths.getD l 0) : ∃ p, p < l ∧ f.parents.getD l none = some p ∧ Wk f a b p r (u + 1) d l rc := by
  have hnot : l ∉ lineOf f.parents r := fun h => by
    rcases (line_mem ok tr r w.hr l h).2 with e | e
    · exact hn e
    · omega
  rcases tr.par l w.hl with ⟨h0, h1, h2⟩ | ⟨p, h1, h2, h3⟩
  · have := depth_zero ok tr w.hr (by omega)
    exact absurd (by omega) hn
  · refine ⟨p, h1, h2, ⟨by have := w.hl; omega, w.hr, ?_, w.dr, fun _ => ?_, w.cr, fun x ha hb => ?_⟩⟩
    · have e := w.dl
      rw [line_some (par_lt ok tr) h2] at e
      have : (lineOf f.parents a).drop (u + 1) = ((lineOf f.parents a).drop u).drop 1 := by rw [List.drop_drop]
      rw [this, e]
      rfl
    · have : (lineOf f.parents a)[u]? = ((lineOf f.parents a).drop u)[0]? := by rw [List.getElem?_drop]; rfl
      rw [show u + 1 - 1 = u by omega, this, w.dl, line_head ok tr]
    · obtain ⟨c1, c2⟩ := w.com x ha hb
      refine ⟨?_, c2⟩
      rw [line_some (par_lt ok tr) h2] at c1
      rcases List.mem_cons.mp c1 with e | c1
      · exact absurd (e ▸ c2) hnot
      · exact c1
theorem Wk.right {a b l r u d lc rc : Nat} (w : Wk f a b l r u d lc rc) (hn : l ≠ r) (hd : f.depths.getD l 0 < f.depths.getD r 0) : ∃ p, p < r ∧ f.parents.getD r none = some p ∧ Wk f a b l p u (d + 1) lc r := by
  have hnot : r ∉ lineOf f.parents l := fun h => by
    rcases (line_mem ok tr l w.hl r h).2 with e | e
    · exact hn e.symm
    · omega
  rcases tr.par r w.hr with ⟨h0, h1, h2⟩ | ⟨p, h1, h2, h3⟩
  · omega
  · refine ⟨p, h1, h2, ⟨w.hl, by have := w.hr; omega, w.dl, ?_, w.cl, fun _ => ?_, fun x ha hb => ?_⟩⟩
    · have e := w.dr
      rw [line_some (par_lt ok tr) h2] at e
      have : (lineOf f.parents b).drop (d + 1) = ((lineOf f.parents b).drop d).drop 1 := by rw [List.drop_drop]
      rw [this, e]
      rfl
    · have : (lineOf f.parents b)[d]? = ((lineOf f.parents b).drop d)[0]? := by rw [List.getElem?_drop]; rfl
      rw [show d + 1 - 1 = d by omega, this, w.dr, line_head ok tr]
    · obtain ⟨c1, c2⟩ := w.com x ha hb
      refine ⟨c1, ?_⟩
      rw [line_some (par_lt ok tr) h2] at c2
      rcases List.mem_cons.mp c2 with e | c2
      · exact absurd (e ▸ c1) hnot
      · exact c2
omit ok tr in
theorem dec_ne {L : List Nat} (h : L.Pairwise (· > ·)) {i j x y : Nat} (hij : i < j) (hi : L[i]? = some x) (hj : L[j]? = some y) : y < x := by
  obtain ⟨hi', ei⟩ := List.getElem?_eq_some_iff.mp hi
  obtain ⟨hj', ej⟩ := List.getElem?_eq_some_iff.mp hj
  have := List.pairwise_iff_getElem.mp h i j hi' hj' hij
  omega
theorem Wk.fin {a b l u d lc rc : Nat} (w : Wk f a b l l u d lc rc) (ha : a < f.tasks.length) (hb : b < f.tasks.length) : partsOf f.parents a b = (u, d, if u = 0 ∨ d = 0 then ("line" : Str) else if rc < lc then ("elder" : Str) else ("younger" : Str)) := by
  have La := line_dec ok tr a ha
  have Lb := line_dec ok tr b hb
  have eu : (lineOf f.parents a)[u]? = some l := by
    have : (lineOf f.parents a)[u]? = ((lineOf f.parents a).drop u)[0]? := by rw [List.getElem?_drop]; rfl
    rw [this, w.dl, line_head ok tr]
  have ed : (lineOf f.parents b)[d]? = some l := by
    have : (lineOf f.parents b)[d]? = ((lineOf f.parents b).drop d)[0]? := by rw [List.getElem?_drop]; rfl
    rw [this, w.dr, line_head ok tr]
  have hmem : l ∈ lineOf f.parents b := List.mem_of_getElem? ed
  have hu : (lineOf f.parents a).findIdx (fun x => (lineOf f.parents b).contains x) = u := by
    obtain ⟨hi, ei⟩ := List.getElem?_eq_some_iff.mp eu
    refine (List.findIdx_eq hi).mpr ⟨by rw [ei]; simpa using hmem, fun j hj => ?_⟩
    have hj' : j < (lineOf f.parents a).length := by omega
    cases hc : (lineOf f.parents b).contains (lineOf f.parents a)[j] with
    | false => rfl
    | true =>
      have hx : (lineOf f.parents a)[j] ∈ lineOf f.parents b := by simpa using hc
      have := (w.com _ (List.getElem_mem hj') hx).1
      have h1 := (line_mem ok tr l w.hl _ this).1
      have h2 := dec_ne La hj (List.getElem?_eq_getElem hj') eu
      omega
  have hd : (lineOf f.parents b).idxOf l = d := by
    obtain ⟨hi, ei⟩ := List.getElem?_eq_some_iff.mp ed
    unfold List.idxOf
    refine (List.findIdx_eq hi).mpr ⟨by rw [ei]; simp, fun j hj => ?_⟩
    have hj' : j < (lineOf f.parents b).length := by omega
    have h2 := dec_ne Lb hj (List.getElem?_eq_getElem hj') ed
    simp
    omega
  have eg : (lineOf f.parents a).getD u 0 = l := by rw [List.getD_eq_getElem?_getD, eu]; rfl
  unfold partsOf
  simp only [hu, eg, hd]
  by_cases h : u = 0 ∨ d = 0
  · rw [if_pos h, if_pos h]
  · rw [if_neg h, if_neg h]
    have h1 := w.cl (by omega)
    have h2 := w.cr (by omega)
    have e1 : (lineOf f.parents a).getD (u - 1) 0 = lc := by rw [List.getD_eq_getElem?_getD, h1]; rfl
    have e2 : (lineOf f.parents b).getD (d - 1) 0 = rc := by rw [List.getD_eq_getElem?_getD, h2]; rfl
    rw [e1, e2]
theorem Wk.small {a b l r u d lc rc : Nat} (w : Wk f a b l r u d lc rc) (ha : a < f.tasks.length) (hb : b < f.tasks.length) : u ≤ 600 ∧ d ≤ 600 := by
  have h1 := congrArg List.length w.dl
  have h2 := congrArg List.length w.dr
  have h3 : 0 < (lineOf f.parents l).length := List.length_pos_of_mem (line_self ok tr l)
  have h4 : 0 < (lineOf f.parents r).length := List.length_pos_of_mem (line_self ok tr r)
  rw [List.length_drop] at h1 h2
  have := line_len ok tr a ha
  have := line_len ok tr b hb
  have := ok.small
  omega
end
section
variable {P : Program} {w : World} {K : PySem.W.Frag} {mg : Str → Option Value} {base : Heap}
theorem cast_add (a b : Nat) : (a : Int) + (b : Int) = ((a + b : Nat) : Int) := by omega
theorem nat_lt {a b : Nat} : decide ((a : Int) < (b : Int)) = decide (a < b) := dec_congr (by omega)
theorem nat_eq {a b : Nat} : decide ((a : Int) = (b : Int)) = decide (a = b) := dec_congr (by omega)
theorem fits_eq (c : Cell) : fitsB (c.1 : Int) (c.2.1 : Int) c.2.2 = fitsC c := by
  unfold fitsB fitsC
  by_cases h : c.1 = 0 ∨ c.2.1 = 0
  · rw [if_pos h, if_pos (by omega)]
  · rw [if_neg h, if_neg (by omega)]
theorem side_of {c : Cell} (h : fitsC c = true) : c.2.2 = "line" ∨ c.2.2 = "elder" ∨ c.2.2 = "younger" := by
  unfold fitsC at h
  split at h
  · exact .inl (of_decide_eq_true h)
  · exact .inr (of_decide_eq_true h)
theorem rank_at {s : Str} (h : s = "line" ∨ s = "elder" ∨ s = "younger") : (["line", "elder", "younger"] : List Str)[rankN s]? = some s ∧ ∀ m, m < rankN s → (["line", "elder", "younger"] : List Str)[m]? ≠ some s := by
  rcases h with rfl | rfl | rfl
  · exact ⟨rfl, fun m hm => absurd hm (by unfold rankN; simp)⟩
  · have e : rankN "elder" = 1 := by decide
    rw [e]
    exact ⟨rfl, fun m hm => by
      have : m = 0 := by omega
      subst this
      decide⟩
  · have e : rankN "younger" = 2 := by decide
    rw [e]
    exact ⟨rfl, fun m hm => by
      have : m = 0 ∨ m = 1 := by omega
      rcases this with rfl | rfl <;> decide⟩
theorem ok_kin {f : Addr} {fd : FuncData} (F : FunD K "__init__" "Kin.__init__" (defArgs s_Kin___init__) (defBody s_Kin___init__) (defScope s_Kin___init__) [] [] f fd) (T : Tx K mg) (h_fits_side : DefAt P w K mg base 1 "fits_side" aFits)  : FnOk P w K mg base (L2.CX P w) 2 f fd ["self", "up", "down", "side"] (conc K (aKin K)) := by
  refine def_ok F sc_Kin___init__ nm_Kin___init__ (fun es G KN KE ⟨_, _, e, _⟩ => by rw [e] <;> rfl) ?_
  rintro X F0 es G G2 KN KE rfl rfl rfl rfl rfl c hfn nm rz ⟨y, cc, rfl, rfl, ok, q⟩
  show GSs X F0 _ [some (.raw (.ref y)), some (.int (cc.1 : Int)), some (.int (cc.2.1 : Int)), some (.str cc.2.2)] (gi X.K y (cKin X.K) [] :: G2) _
  have c0 := T.c_Kin
  have n1 := T.na_Kin_up
  have n2 := T.na_Kin_down
  have n3 := T.na_Kin_side
  have n4 := T.na_Kin_far
  have n5 := T.na_Kin_rank
  have h1 := ok.u
  have h2 := ok.d
  have h3 := ok.f
  obtain ⟨r1, r2⟩ := rank_at (side_of ok.f)
  obtain ⟨gS, tS, kS⟩ := T.t_SIDES
  refine xgss_cons (xgs_if (xgt_val (false) ?_ ?_))
  · refine xgt_of_w (xgw_or (xgt_not (xgt_chain (xge_int (xge_nm c nm (.there .here) ?_ rfl)) rfl)))
    mi_spec "opLtE"
    refine ⟨_, rfl, ?_⟩
    -- stop: chain
    refine brY (by omega) ?_
    obtain ⟨u_, con_⟩ := T.con_Kin_MOST
    refine xge_con2 con_ T.c_Kin (xge_nm c nm .here ?_ rfl) rfl
    mi_spec "opConP"
    mi_spec "opLtE"
    refine kb ?_
    -- stop: br xgw_or
    refine brQ0 (by simp; omega) ?_
    refine xgw_or (xgt_not (xgt_chain (xge_int (xge_nm c nm (.there (.there .here)) ?_ rfl)) rfl))
    mi_spec "opLtE"
    refine ⟨_, rfl, ?_⟩
    -- stop: chain
    refine brY (by omega) ?_
    obtain ⟨u_, con_⟩ := T.con_Kin_MOST
    refine xge_con2 con_ T.c_Kin (xge_nm c nm .here ?_ rfl) rfl
    mi_spec "opConP"
    mi_spec "opLtE"
    refine kb ?_
    -- stop: br xgw_or
    refine brQ0 (by simp; omega) ?_
    refine xgw_or1 (xgt_not (xgt_tru (fun _ => rfl) (xge_call c h_fits_side (Nat.le_of_ble_eq_true rfl) nm .here (xga_cons (xge_nm c nm (.there .here) (xga_cons (xge_nm c nm (.there (.there .here)) (xga_cons (xge_nm c nm (.there (.there (.there .here))) (xga_nil ?_) rfl) rfl) rfl) rfl) rfl) rfl) rfl rfl)))
    -- stop: call fits_side
    refine CallK.frame ⟨_, _, _, rfl, rfl, ?_⟩
    mi_spec "opTru"
    refine ⟨?_, rfl⟩
    rw [fits_eq, h3]
    rfl
  refine brF (xgss_nil ?_)
  refine xgss_cons (xgs_fld2 (xge_nm c nm (.there .here) (xge_nm c nm .here ?_ rfl) rfl) rfl)
  mi_spec "opSetFld"
  refine xgss_cons (xgs_fld2 (xge_nm c nm (.there (.there .here)) (xge_nm c nm .here ?_ rfl) rfl) rfl)
  mi_spec "opSetFld"
  refine xgss_cons (xgs_fld2 (xge_nm c nm (.there (.there (.there .here))) (xge_nm c nm .here ?_ rfl) rfl) rfl)
  mi_spec "opSetFld"
  refine xgss_cons (xgs_fld2 (xge_binop (xge_nm c nm (.there .here) (xge_nm c nm (.there (.there .here)) ?_ rfl) rfl)) rfl)
  mi_spec "opAdd"
  refine xge_nm c nm .here ?_ rfl
  mi_spec "opSetFld"
  refine xgss_cons (xgs_fld2 ?_ rfl)
  obtain ⟨gS_, tS_, kS_⟩ := T.t_SIDES
  refine xge_bm PySem.F.plainAttrs_tuple PySem.F.slot_tuple_index PySem.F.type_tuple_index mt_tup_index (xge_globR c nm (.there (.there .here)) gS_ ?_) rfl rfl rfl rfl rfl
  refine ⟨ty_tupW kS_, ?_⟩
  refine xga_cons (xge_nm c nm (.there (.there (.there .here))) (xga_nil ?_) rfl) rfl
  -- stop: SIDES.index: rm_tindexW tS_
  refine rm_tindexW tS_ r1 r2 ?_
  refine xge_nm c nm .here ?_ rfl
  mi_spec "opSetFld"
  refine xgss_nil ?_
  rw [cast_add]
  exact ⟨[gi X.K y (cKin X.K) (kinF.zip (kinDs cc))], Ent.refl _, q⟩
theorem ok_measure {f : Addr} {fd : FuncData} (F : FunD K "measure" "Kin.measure" (defArgs s_Kin_measure) (defBody s_Kin_measure) (defScope s_Kin_measure) [] [] f fd) (T : Tx K mg)   : FnOk P w K mg base (L2.CX P w) 1 f fd ["self"] (conc K (aMeasure K)) := by
  refine def_ok F sc_Kin_measure nm_Kin_measure (fun es G KN KE ⟨_, e, _⟩ => by rw [e] <;> rfl) ?_
  rintro X F0 es G G2 KN KE rfl rfl rfl rfl rfl c hfn nm rz ⟨cc, rfl, rfl, q⟩
  show GSs X F0 _ [some (kinV X.K cc)] (G2) _
  have c0 := T.c_Kin
  have n1 := T.na_Kin_up
  have n2 := T.na_Kin_far
  have n3 := T.na_Kin_rank
  refine xgss_cons (xgs_ret (xge_tup (xga_cons (xge_fld (xge_nm c nm .here ?_ rfl) rfl) rfl)))
  mi_spec "opFld"
  refine xga_cons (xge_fld (xge_nm c nm .here ?_ rfl) rfl) rfl
  mi_spec "opFld"
  refine xga_cons (xge_fld (xge_nm c nm .here ?_ rfl) rfl) rfl
  mi_spec "opFld"
  refine xga_nil ?_
  refine ⟨Nat.le_of_ble_eq_true rfl, ?_⟩
  exact ⟨[], Ent.refl _, q⟩
theorem lex_lt {a b : Cell} : HT.lexLt [((farC a : Nat) : Int), (a.1 : Int), ((rankN a.2.2 : Nat) : Int)] [((farC b : Nat) : Int), (b.1 : Int), ((rankN b.2.2 : Nat) : Int)] = kinLt a b := by
  unfold kinLt
  simp only [HT.lexLt]
  by_cases h1 : farC a = farC b <;> by_cases h2 : a.1 = b.1 <;> by_cases h3 : rankN a.2.2 = rankN b.2.2 <;> simp [h1, h2, h3, nat_lt, nat_eq] <;> omega
theorem ok_kinlt {f : Addr} {fd : FuncData} (F : FunD K "__lt__" "Kin.__lt__" (defArgs s_Kin___lt__) (defBody s_Kin___lt__) (defScope s_Kin___lt__) [] [] f fd) (T : Tx K mg) (h_Kin_measure : MethAt P w K mg base 1 (He.ga K "Kin") "measure" (aMeasure K))  : FnOk P w K mg base (L2.CX P w) 2 f fd ["self", "other"] (conc K (aKinLt K)) := by
  refine def_ok F sc_Kin___lt__ nm_Kin___lt__ (fun es G KN KE ⟨_, _, e, _⟩ => by rw [e] <;> rfl) ?_
  rintro X F0 es G G2 KN KE rfl rfl rfl rfl rfl c hfn nm rz ⟨a, b, rfl, rfl, q⟩
  show GSs X F0 _ [some (kinV X.K a), some (kinV X.K b)] (G2) _
  have c0 := T.c_Kin
  refine xgss_cons (xgs_if (xgt_val (false) ?_ ?_))
  · refine xgt_not (xgt_tru (fun _ => rfl) (xge_callB c nm .here T.misinstance bt_isinstance (xga_cons (xge_nm c nm (.there .here) (xga_cons (xge_globR c nm (.there .here) T.g_Kin (xga_nil ?_)) rfl) rfl) rfl) rfl rfl))
    -- stop: isinstance
    refine rl_isiO (ty_ins T.c_Kin T.own_Kin ins_fr) T.kit_Kin ?_
    mi_spec "opTru"
    exact ⟨rfl, rfl⟩
  refine brF (xgss_nil ?_)
  refine xgss_cons (xgs_ret (xge_compare (xge_meth0 c T.c_Kin h_Kin_measure (Nat.le_of_ble_eq_true rfl) (xge_nm c nm .here ?_ rfl) rfl) (nm_Lt _)))
  mi_spec "opInsM"
  -- stop: call Kin.measure
  refine CallK.frame ⟨_, rfl, rfl, ?_⟩
  refine xge_meth0 c T.c_Kin h_Kin_measure (Nat.le_of_ble_eq_true rfl) (xge_nm c nm (.there .here) ?_ rfl) rfl
  mi_spec "opInsM"
  -- stop: call Kin.measure
  refine CallK.frame ⟨_, rfl, rfl, ?_⟩
  -- stop: man self.measure() < other.measure()
  refine rk_ltT (ns := [((farC a : Nat) : Int), (a.1 : Int), ((rankN a.2.2 : Nat) : Int)]) (ms := [((farC b : Nat) : Int), (b.1 : Int), ((rankN b.2.2 : Nat) : Int)]) c.u0 tup_fr tup_fr ?_
  rw [lex_lt]
  exact ⟨[], Ent.refl _, q⟩
theorem mk_kin {Kf : PySem.W.Frag} {G : Gs} {Q : Addr → List Str → List D → Gs → Prop} {i j : Int} {s : Str} (cc : Cell) (hi : i = (cc.1 : Int)) (hj : j = (cc.2.1 : Int)) (hs : s = cc.2.2) (ok : KinOk cc) (q : Q (cKin Kf) kinF (kinDs cc) G) : ∀ y, CallK (aKin Kf) [.raw (.ref y), .int i, .int j, .str s] (gi Kf y (He.ga Kf "Kin") [] :: G) fun d G' => d = .non ∧ ∃ p C ks es R, D.raw (V.ref y) = .raw (.ref p) ∧ Rem G' (gi Kf p C (ks.zip es)) R ∧ ks.length = es.length ∧ Q C ks es R := by
  subst hi hj hs
  exact fun y => ⟨[gi Kf y (He.ga Kf "Kin") []], G, Ent.refl _, y, cc, rfl, rfl, ok, rfl, y, cKin Kf, kinF, kinDs cc, G, rfl, Rem.here, rfl, q⟩
theorem cap_ok {r : Nat} {cc : Cell} (ok : KinOk cc) (hr : 1 ≤ r) : KinOk (capC r cc) := by
  obtain ⟨u, d, f⟩ := ok
  refine ⟨Nat.le_trans (Nat.min_le_left _ _) u, Nat.le_trans (Nat.min_le_left _ _) d, ?_⟩
  have e : ((capC r cc).1 = 0 ∨ (capC r cc).2.1 = 0) ↔ (cc.1 = 0 ∨ cc.2.1 = 0) := by show (min _ _ = 0 ∨ min _ _ = 0) ↔ _; omega
  unfold fitsC at f ⊢
  by_cases h : cc.1 = 0 ∨ cc.2.1 = 0
  · rw [if_pos h] at f
    rw [if_pos (e.mpr h)]
    exact f
  · rw [if_neg h] at f
    rw [if_neg (fun q => h (e.mp q))]
    exact f
theorem min_if {a b : Nat} : (if (a : Int) < (b : Int) then (a : Int) else (b : Int)) = ((min a b : Nat) : Int) := by
  split <;> omega
theorem ok_kinmod {f : Addr} {fd : FuncData} (F : FunD K "__mod__" "Kin.__mod__" (defArgs s_Kin___mod__) (defBody s_Kin___mod__) (defScope s_Kin___mod__) [] [] f fd) (T : Tx K mg) (h_capped : DefAt P w K mg base 1 "capped" aCapped) (h_Kin : MakeAt P w K mg base 2 "Kin" (He.ga K "Kin") (aKin K))  : FnOk P w K mg base (L2.CX P w) 4 f fd ["self", "reach"] (conc K (aKinMod K)) := by
  refine def_ok F sc_Kin___mod__ nm_Kin___mod__ (fun es G KN KE ⟨_, _, e, _⟩ => by rw [e] <;> rfl) ?_
  rintro X F0 es G G2 KN KE rfl rfl rfl rfl rfl c hfn nm rz ⟨cc, r, rfl, rfl, ok, hr, q⟩
  show GSs X F0 _ [some (kinV X.K cc), some (.int (r : Int))] (G2) _
  have c0 := T.c_Kin
  have n1 := T.na_Kin_up
  have n2 := T.na_Kin_down
  have n3 := T.na_Kin_side
  refine xgss_cons (xgs_if (xgt_compare (xge_nm c nm (.there .here) (xge_int ?_) rfl) (nm_Lt _)))
  mi_spec "opLt"
  refine kb ?_
  -- stop: if
  refine brNo (by omega) (xgss_nil ?_)
  refine xgss_cons (xgs_ret (GTE.freezeI ?_))
  refine xge_make c h_Kin (Nat.le_of_ble_eq_true rfl) nm (.there .here) (xga_cons (xge_call c h_capped (Nat.le_of_ble_eq_true rfl) nm (.there (.there .here)) (xga_cons (xge_fld (xge_nm c nm .here ?_ rfl) rfl) rfl) rfl rfl) rfl) rfl rfl
  mi_spec "opFld"
  refine xga_cons (xge_nm c nm (.there .here) (xga_nil ?_) rfl) rfl
  -- stop: call capped
  refine CallK.frame ⟨_, _, rfl, rfl, ?_⟩
  refine xga_cons (xge_call c h_capped (Nat.le_of_ble_eq_true rfl) nm (.there (.there .here)) (xga_cons (xge_fld (xge_nm c nm .here ?_ rfl) rfl) rfl) rfl rfl) rfl
  mi_spec "opFld"
  refine xga_cons (xge_nm c nm (.there .here) (xga_nil ?_) rfl) rfl
  -- stop: call capped
  refine CallK.frame ⟨_, _, rfl, rfl, ?_⟩
  refine xga_cons (xge_fld (xge_nm c nm .here ?_ rfl) rfl) rfl
  mi_spec "opFld"
  refine xga_nil ?_
  -- stop: make Kin
  refine mk_kin (capC r cc) min_if min_if rfl (cap_ok ok hr) ?_
  exact ⟨[], Ent.refl _, q⟩
theorem ok_isself {f : Addr} {fd : FuncData} (F : FunD K "is_self" "Kin.is_self" (defArgs s_Kin_is_self) (defBody s_Kin_is_self) (defScope s_Kin_is_self) [] [] f fd) (T : Tx K mg)   : FnOk P w K mg base (L2.CX P w) 1 f fd ["self"] (conc K (aIsSelf K)) := by
  refine def_ok F sc_Kin_is_self nm_Kin_is_self (fun es G KN KE ⟨_, e, _⟩ => by rw [e] <;> rfl) ?_
  rintro X F0 es G G2 KN KE rfl rfl rfl rfl rfl c hfn nm rz ⟨cc, rfl, rfl, q⟩
  show GSs X F0 _ [some (kinV X.K cc)] (G2) _
  have c0 := T.c_Kin
  have n1 := T.na_Kin_far
  refine xgss_cons (xgs_ret (xge_compare (xge_fld (xge_nm c nm .here ?_ rfl) rfl) (nm_Eq _)))
  mi_spec "opFld"
  refine xge_int ?_
  mi_spec "opEq"
  have e : decide (((cc.1 + cc.2.1 : Nat) : Int) = 0) = decide (farC cc = 0) := dec_congr (by unfold farC; omega)
  rw [e]
  exact ⟨[], Ent.refl _, q⟩
theorem ok_reach {f : Addr} {fd : FuncData} (F : FunD K "demand_reach" "demand_reach" (defArgs s_demand_reach) (defBody s_demand_reach) (defScope s_demand_reach) [] [] f fd) (T : Tx K mg)   : FnOk P w K mg base (L2.CX P w) 1 f fd ["reach"] (conc K aReach) := by
  refine def_ok F sc_demand_reach nm_demand_reach (fun es G KN KE ⟨_, e, _⟩ => by rw [e] <;> rfl) ?_
  rintro X F0 es G G2 KN KE rfl rfl rfl rfl rfl c hfn nm rz ⟨r, rfl, rfl, h1, h4, q⟩
  show GSs X F0 _ [some (.int (r : Int))] (G2) _
  refine xgss_cons (xgs_if (xgt_val (false) ?_ ?_))
  · refine xgt_not (xgt_chain ?_ rfl)
    obtain ⟨ti_, hi_⟩ := T.i_LEAST_REACH
    refine xge_globI c nm .here hi_ (xge_nm c nm .here ?_ rfl)
    mi_spec "opLtE"
    refine ⟨_, rfl, ?_⟩
    -- stop: chain
    refine brY (by omega) ?_
    obtain ⟨ti_, hi_⟩ := T.i_MOST_REACH
    refine xge_globI c nm (.there .here) hi_ ?_
    mi_spec "opLtE"
    refine kb ?_
    refine ⟨?_, rfl⟩
    simp
    omega
  refine brF (xgss_nil (xgss_nil ?_))
  exact ⟨[], Ent.refl _, q⟩
end
section
variable {P : Program} {w : World} {K : PySem.W.Frag} {mg : Str → Option Value} {base : Heap}
theorem cellsF_succ {r far n : Nat} : cellsF r far (n + 1) = cellsF r far n ++ (if n ≤ far ∧ far - n ≤ r then sidesC n (far - n) else []) := by
  unfold cellsF
  rw [List.range_succ, List.map_append, List.flatten_append]
  simp
theorem cellsN_succ {r n : Nat} : cellsN r (n + 1) = cellsN r n ++ cellsF r (n + 1) (r + 1) := by
  unfold cellsN
  rw [List.range_succ, List.map_append, List.flatten_append]
  simp
theorem cellsF_len {r far : Nat} : ∀ n, (cellsF r far n).length ≤ 2 * n
  | 0 => by simp [cellsF]
  | n + 1 => by
    rw [cellsF_succ, List.length_append]
    have := @cellsF_len r far n
    split
    · unfold sidesC
      split <;> simp <;> omega
    · simp; omega
theorem cellsN_len {r : Nat} (hr : r ≤ 4) : ∀ n, (cellsN r n).length ≤ 10 * n
  | 0 => by simp [cellsN]
  | n + 1 => by
    rw [cellsN_succ, List.length_append]
    have h1 := @cellsN_len r hr n
    have h2 := @cellsF_len r (n + 1) (r + 1)
    omega
theorem dKins_app {Kf : PySem.W.Frag} {a b : List Cell} : dKins Kf (a ++ b) = dKins Kf a ++ dKins Kf b := List.map_append
theorem ok_cells {f : Addr} {fd : FuncData} (F : FunD K "all_cells" "all_cells" (defArgs s_all_cells) (defBody s_all_cells) (defScope s_all_cells) [] [] f fd) (T : Tx K mg) (h_demand_reach : DefAt P w K mg base 1 "demand_reach" aReach) (h_Kin : MakeAt P w K mg base 2 "Kin" (He.ga K "Kin") (aKin K))  : FnOk P w K mg base (L2.CX P w) 4 f fd ["reach"] (conc K (aCells K)) := by
  refine def_ok F sc_all_cells nm_all_cells (fun es G KN KE ⟨_, e, _⟩ => by rw [e] <;> rfl) ?_
  rintro X F0 es G G2 KN KE rfl rfl rfl rfl rfl c hfn nm rz ⟨r, rfl, rfl, h1, h4, q⟩
  show GSs X F0 _ [some (.int (r : Int)), none, none, none, none] (G2) _
  refine xgss_cons (xgs_expr (xge_call c h_demand_reach (Nat.le_of_ble_eq_true rfl) nm .here (xga_cons (xge_nm c nm .here (xga_nil ?_) rfl) rfl) rfl rfl) rfl)
  -- stop: call demand_reach
  refine CallK.frame ⟨_, rfl, rfl, h1, h4, ?_⟩
  refine xgss_cons (xgs_asg c hfn nm (.there .here) (xge_lst ?_) rfl rfl)
  refine xga_nil ?_
  refine ⟨Nat.le_of_ble_eq_true rfl, fun p => ?_⟩
  refine xgss_cons (xgs_forR2 c hfn nm (.there (.there .here)) (.there .here) T.mrange (xga_cons (xge_int (xga_cons (xge_binop (xge_binop (xge_int (xge_nm c nm .here ?_ rfl)))) rfl)) rfl) rfl rfl rfl)
  mi_spec "opMult"
  refine xge_int ?_
  mi_spec "opAdd"
  refine xga_nil ?_
  -- stop: for
  have lenN := fun n => @cellsN_len r h4 n
  refine ⟨_, _, rfl, ⟨by omega, by omega, by omega, by omega⟩, fun j ds' G' => (∃ o1 o2 o3, ds' = [some (.int (r : Int)), some (.raw (.ref p)), o1, o2, o3]) ∧ Ent G' (gl X.K p (dKins X.K (cellsN r j)) :: G2), ⟨⟨_, _, _, rfl⟩, Ent.refl _⟩, ?_, ?_⟩
  · rintro j ds' G' hj ⟨⟨o1, o2, o3, rfl⟩, en⟩
    refine GTS.ent en ?_
    have hj' : j < 2 * r := by omega
    have hl := lenN j
    have e1 : (1 : Int) + ((j : Nat) : Int) = ((j + 1 : Nat) : Int) := by omega
    rw [e1]
    refine xgss_cons (xgs_forR1 c hfn nm (.there (.there (.there .here))) (.there .here) T.mrange (xga_cons (xge_binop (xge_nm c nm .here (xge_int ?_) rfl)) rfl) rfl rfl)
    mi_spec "opAdd"
    refine xga_nil ?_
    -- stop: for
    refine ⟨_, rfl, ⟨by omega, by omega⟩, fun i ds' G' => (∃ o1 o2, ds' = [some (.int (r : Int)), some (.raw (.ref p)), some (.int ((j + 1 : Nat) : Int)), o1, o2]) ∧ Ent G' (gl X.K p (dKins X.K (cellsN r j ++ cellsF r (j + 1) i)) :: G2), ⟨⟨_, _, rfl⟩, by simp [cellsF]; exact Ent.refl _⟩, ?_, ?_⟩
    · rintro i ds' G' hi ⟨⟨o1, o2, rfl⟩, en⟩
      refine GTS.ent en ?_
      rw [Int.zero_add]
      have hi' : i < r + 1 := by omega
      have hl2 := @cellsF_len r (j + 1) i
      have hlen : (dKins X.K (cellsN r j ++ cellsF r (j + 1) i)).length < 1000 := by simp; omega
      refine xgss_cons (xgs_asg c hfn nm (.there (.there (.there (.there .here)))) (xge_binop (xge_nm c nm (.there (.there .here)) (xge_nm c nm (.there (.there (.there .here))) ?_ rfl) rfl)) rfl rfl)
      mi_spec "opSub"
      refine xgss_cons (xgs_if (xgt_val (!decide (i ≤ j + 1 ∧ j + 1 - i ≤ r)) ?_ ?_))
      · refine xgt_of_w (xgw_or (xgt_compare (xge_nm c nm (.there (.there (.there (.there .here)))) (xge_int ?_) rfl) (nm_Lt _)))
        mi_spec "opLt"
        refine kb ?_
        -- stop: br xgw_or
        refine br ?_ ?_ <;> intro hb
        · exact ⟨by simp; omega, rfl⟩
        · refine xgw_or1 (xgt_compare (xge_nm c nm (.there (.there (.there (.there .here)))) (xge_nm c nm .here ?_ rfl) rfl) (nm_Gt _))
          mi_spec "opGt"
          refine kb ?_
          exact ⟨by rw [Bool.eq_iff_iff]; simp; omega, rfl⟩
      refine brN ?_ ?_ <;> intro hb
      · refine xgss_cons (xgs_continue ?_)
        exact ⟨⟨_, _, rfl⟩, by rw [cellsF_succ, if_neg hb, List.append_nil]; exact Ent.refl _⟩
      · refine xgss_nil ?_
        have e2 : ((j + 1 : Nat) : Int) - ((i : Nat) : Int) = ((j + 1 - i : Nat) : Int) := by omega
        rw [e2]
        refine xgss_cons (xgs_if (xgt_val (decide (i = 0 ∨ j + 1 - i = 0)) ?_ ?_))
        · refine xgt_of_w (xgw_or (xgt_compare (xge_nm c nm (.there (.there (.there .here))) (xge_int ?_) rfl) (nm_Eq _)))
          mi_spec "opEq"
          refine kb ?_
          -- stop: br xgw_or
          refine br ?_ ?_ <;> intro hc
          · exact ⟨by rw [eq_comm, decide_eq_true_iff]; omega, rfl⟩
          · refine xgw_or1 (xgt_compare (xge_nm c nm (.there (.there (.there (.there .here)))) (xge_int ?_) rfl) (nm_Eq _))
            mi_spec "opEq"
            refine kb ?_
            exact ⟨by rw [Bool.eq_iff_iff]; simp; omega, rfl⟩
        refine br ?_ ?_ <;> intro hc
        · refine xgss_cons (xgs_expr (xge_bm PySem.F.plainAttrs_list PySem.F.slot_list_append PySem.F.type_list_append mt_append (xge_nm c nm (.there .here) ?_ rfl) rfl rfl rfl rfl rfl) rfl)
          mi_spec "opTy"
          refine xga_cons (GTE.freezeI ?_) rfl
          refine xge_make c h_Kin (Nat.le_of_ble_eq_true rfl) nm (.there (.there .here)) (xga_cons (xge_nm c nm (.there (.there (.there .here))) (xga_cons (xge_nm c nm (.there (.there (.there (.there .here)))) (xga_cons (xge_str (xga_nil ?_)) rfl) rfl) rfl) rfl) rfl) rfl rfl
          -- stop: make Kin
          refine mk_kin (i, j + 1 - i, "line") rfl rfl rfl ⟨by show i ≤ 999; omega, by show j + 1 - i ≤ 999; omega, by unfold fitsC; rw [if_pos hc]; rfl⟩ ?_
          refine xga_nil ?_
          mi_spec "rm_append"
          · omega
          refine xgss_nil (xgss_nil ?_)
          refine ⟨⟨_, _, rfl⟩, ?_⟩
          rw [cellsF_succ, if_pos hb, ← List.append_assoc, dKins_app (a := cellsN r j ++ cellsF r (j + 1) i)]
          unfold sidesC
          rw [if_pos hc]
          exact Ent.refl _
        · refine xgss_cons (xgs_expr (xge_bm PySem.F.plainAttrs_list PySem.F.slot_list_append PySem.F.type_list_append mt_append (xge_nm c nm (.there .here) ?_ rfl) rfl rfl rfl rfl rfl) rfl)
          mi_spec "opTy"
          refine xga_cons (GTE.freezeI ?_) rfl
          refine xge_make c h_Kin (Nat.le_of_ble_eq_true rfl) nm (.there (.there .here)) (xga_cons (xge_nm c nm (.there (.there (.there .here))) (xga_cons (xge_nm c nm (.there (.there (.there (.there .here)))) (xga_cons (xge_str (xga_nil ?_)) rfl) rfl) rfl) rfl) rfl) rfl rfl
          -- stop: make Kin
          refine mk_kin (i, j + 1 - i, "elder") rfl rfl rfl ⟨by show i ≤ 999; omega, by show j + 1 - i ≤ 999; omega, by unfold fitsC; rw [if_neg hc]; rfl⟩ ?_
          refine xga_nil ?_
          mi_spec "rm_append"
          · omega
          refine xgss_cons (xgs_expr (xge_bm PySem.F.plainAttrs_list PySem.F.slot_list_append PySem.F.type_list_append mt_append (xge_nm c nm (.there .here) ?_ rfl) rfl rfl rfl rfl rfl) rfl)
          mi_spec "opTy"
          refine xga_cons (GTE.freezeI ?_) rfl
          refine xge_make c h_Kin (Nat.le_of_ble_eq_true rfl) nm (.there (.there .here)) (xga_cons (xge_nm c nm (.there (.there (.there .here))) (xga_cons (xge_nm c nm (.there (.there (.there (.there .here)))) (xga_cons (xge_str (xga_nil ?_)) rfl) rfl) rfl) rfl) rfl) rfl rfl
          -- stop: make Kin
          refine mk_kin (i, j + 1 - i, "younger") rfl rfl rfl ⟨by show i ≤ 999; omega, by show j + 1 - i ≤ 999; omega, by unfold fitsC; rw [if_neg hc]; rfl⟩ ?_
          refine xga_nil ?_
          mi_spec "rm_append"
          · simp; simp at hlen; omega
          refine xgss_nil (xgss_nil ?_)
          refine ⟨⟨_, _, rfl⟩, ?_⟩
          rw [cellsF_succ, if_pos hb, ← List.append_assoc, dKins_app (a := cellsN r j ++ cellsF r (j + 1) i), List.append_assoc]
          unfold sidesC
          rw [if_neg hc]
          exact Ent.refl _
    · rintro ds' G' ⟨⟨o1, o2, rfl⟩, en⟩
      refine GTS.ent en (xgss_nil ?_)
      refine ⟨⟨_, _, _, rfl⟩, ?_⟩
      rw [cellsN_succ]
      exact Ent.refl _
  · rintro ds' G' ⟨⟨o1, o2, o3, rfl⟩, en⟩
    refine GTS.ent en ?_
    refine xgss_cons (xgs_ret (xge_nm c nm (.there .here) ?_ rfl))
    exact ⟨[gl X.K p (dKins X.K (cellsOf r))], by
      have e : (2 * (r : Int) + 1 - 1).toNat = 2 * r := by omega
      rw [e]
      exact Ent.refl _, q p⟩
end
section
variable {P : Program} {w : World} {K : PySem.W.Frag} {mg : Str → Option Value} {base : Heap}
theorem keyC_inj {a b : Cell} : keyC a = keyC b ↔ a = b := by
  constructor
  · intro h
    obtain ⟨a1, a2, a3⟩ := a
    obtain ⟨b1, b2, b3⟩ := b
    simp only [List.cons.injEq, Sum.inl.injEq, Sum.inr.injEq, Int.ofNat_inj] at h
    obtain ⟨h1, h2, h3, _⟩ := h
    have e1 : a1 = b1 := by simpa using h1
    have e2 : a2 = b2 := by simpa using h2
    have e3 : a3 = b3 := by simpa using h3
    rw [e1, e2, e3]
  · intro h
    rw [h]
theorem letOk_nil : LetOk [] [] := ⟨Nat.le_refl _, fun c => rfl⟩
theorem LetOk.put {kvs : List (List Key × D)} {S : List Cell} (h : LetOk kvs S) (c : Cell) : LetOk (putK' kvs (keyC c) (.bl true)) (S ++ [c]) := by
  refine ⟨?_, fun c' => ?_⟩
  · have := @len_put _ _ (keyC c) (.bl true) kvs
    have := h.len
    simp
    omega
  · rw [valD_some, Ly.any_put, ← valD_some, h.at_ c']
    rw [Bool.eq_iff_iff]
    simp only [Bool.or_eq_true, decide_eq_true_iff, List.mem_append, List.mem_singleton]
    constructor
    · rintro (h | h)
      · exact .inr (keyC_inj.mp h).symm
      · exact .inl h
    · rintro (h | h)
      · exact .inr h
      · exact .inl (by rw [h])
theorem LetOk.same {kvs : List (List Key × D)} {S S' : List Cell} (h : LetOk kvs S) (e : ∀ c, c ∈ S ↔ c ∈ S') (l : S.length ≤ S'.length) : LetOk kvs S' := ⟨Nat.le_trans h.len l, fun c => by rw [h.at_ c]; exact dec_congr (e c)⟩
theorem gLet_close {Kf : PySem.W.Frag} {p : Addr} {kvs : List (List Key × D)} {S : List Cell} {G : Gs} (h : LetOk kvs S) : Ent (gdT Kf p kvs :: G) (gLet Kf p S :: G) := gx_close (f := fun kvs : {kvs // LetOk kvs S} => [gdT Kf p kvs.1]) ⟨kvs, h⟩
theorem gRows_close {Kf : PySem.W.Frag} {p : Addr} {rows S : List Cell} {G : Gs} (h : RowsOk rows S) : Ent (gl Kf p (dKins Kf rows) :: G) (gRows Kf p S :: G) := gx_close (f := fun rows : {rows // RowsOk rows S} => [gl Kf p (dKins Kf rows.1)]) ⟨rows, h⟩
theorem dKins_at {Kf : PySem.W.Frag} {cs : List Cell} {j : Nat} {y : D} (h : (dKins Kf cs)[j]? = some y) : ∃ c, cs[j]? = some c ∧ y = kinV Kf c := by
  rw [List.getElem?_map] at h
  cases q : cs[j]? with
  | none => rw [q] at h; cases h
  | some n => rw [q] at h; cases h; exact ⟨n, rfl, rfl⟩
theorem openLet {X : Cx} {F0 : Hp} {ds : DS} {G R : Gs} {t : TS} {A : AE} {l : Addr} {S : List Cell} (h : Rem G (gLet X.K l S) R) (k : ∀ kvs, LetOk kvs S → GTS X F0 t ds (gdT X.K l kvs :: R) A) : GTS X F0 t ds G A := GTS.gxR (f := fun kvs : {kvs // LetOk kvs S} => [gdT X.K l kvs.1]) h fun x => k x.1 x.2
theorem openRows {X : Cx} {F0 : Hp} {ds : DS} {G R : Gs} {t : TS} {A : AE} {l : Addr} {S : List Cell} (h : Rem G (gRows X.K l S) R) (k : ∀ rows, RowsOk rows S → GTS X F0 t ds (gl X.K l (dKins X.K rows) :: R) A) : GTS X F0 t ds G A := GTS.gxR (f := fun rows : {rows // RowsOk rows S} => [gl X.K l (dKins X.K rows.1)]) h fun x => k x.1 x.2
theorem ok_letparts {f : Addr} {fd : FuncData} (F : FunD K "let_parts" "let_parts" (defArgs s_let_parts) (defBody s_let_parts) (defScope s_let_parts) [] [] f fd) (T : Tx K mg) (h_Kin_is_self : PropAt P w K mg base 1 (He.ga K "Kin") "is_self" (aIsSelf K)) (h_Kin___mod__ : SpecAt P w K mg base 4 (He.ga K "Kin") "__mod__" (aKinMod K))  : FnOk P w K mg base (L2.CX P w) 5 f fd ["reach", "kins"] (conc K (aLetParts K)) := by
  refine def_ok F sc_let_parts nm_let_parts (fun es G KN KE ⟨_, _, e, _⟩ => by rw [e] <;> rfl) ?_
  rintro X F0 es G G2 KN KE rfl rfl rfl rfl rfl c hfn nm rz ⟨r, cs, rfl, rfl, h1, ok, hz, q⟩
  show GSs X F0 _ [some (.int (r : Int)), some (.tup (dKins X.K cs)), none, none, none] (G2) _
  have c0 := T.c_Kin
  have n1 := T.na_Kin_up
  have n2 := T.na_Kin_down
  have n3 := T.na_Kin_side
  refine xgss_cons (xgs_asg c hfn nm (.there (.there .here)) (xge_dnewT ?_) rfl rfl)
  refine fun p => ?_
  refine xgss_cons (xgs_forT c hfn (.there (.there (.there .here))) (nm.loc (.there (.there (.there .here))) rfl) (xge_nm c nm (.there .here) ?_ rfl) (fun _ => rfl))
  -- stop: for
  refine ⟨dKins X.K cs, fun j ds' G' => (∃ o1 o2, ds' = [some (.int (r : Int)), some (.tup (dKins X.K cs)), some (.raw (.ref p)), o1, o2]) ∧ ∃ kvs, LetOk kvs ((cs.take j).map (capC r)) ∧ Ent G' (gdT X.K p kvs :: G2), ⟨⟨_, _, rfl⟩, [], letOk_nil, Ent.refl _⟩, fun j ds' G' hj _ => tup_fr, ?_, ?_⟩
  · rintro j y ds' G' hy ⟨⟨o1, o2, rfl⟩, kvs, lo, en⟩
    refine GTS.ent en ?_
    obtain ⟨cc, hc, rfl⟩ := dKins_at hy
    have hmem := List.mem_of_getElem? hc
    obtain ⟨ok1, ok2⟩ := ok cc hmem
    refine xgss_cons (xgs_if (xgt_val (false) ?_ ?_))
    · refine xgt_tru (fun _ => rfl) (xge_prop c T.c_Kin h_Kin_is_self (Nat.le_of_ble_eq_true rfl) (xge_nm c nm (.there (.there (.there .here))) ?_ rfl) rfl)
      mi_spec "opInsP"
      -- stop: prop Kin.is_self
      refine CallK.frame ⟨cc, rfl, rfl, ?_⟩
      mi_spec "opTru"
      refine ⟨?_, rfl⟩
      simp
      omega
    refine brF (xgss_nil ?_)
    refine xgss_cons (xgs_asg c hfn nm (.there (.there (.there (.there .here)))) (xge_binop (xge_nm c nm (.there (.there (.there .here))) (xge_nm c nm .here ?_ rfl) rfl)) rfl rfl)
    -- stop: man kin % reach
    refine rk_binM T.bini_Kin_Mod c h_Kin___mod__ (Nat.le_of_ble_eq_true rfl) (ins_fr) (CallK.frame ⟨cc, r, rfl, rfl, ok1, h1, ?_, ?_⟩)
    · intro F v rv
      obtain ⟨a, dx, vs, e, _⟩ := rep_ins.mp rv
      exact ⟨a, e⟩
    refine xgss_cons (xgs_dput c (xge_bl (xge_nm c nm (.there (.there .here)) (xge_tup (xga_cons (xge_fld (xge_nm c nm (.there (.there (.there (.there .here)))) ?_ rfl) rfl) rfl)) rfl)) rfl)
    mi_spec "opFld"
    refine xga_cons (xge_fld (xge_nm c nm (.there (.there (.there (.there .here)))) ?_ rfl) rfl) rfl
    mi_spec "opFld"
    refine xga_cons (xge_fld (xge_nm c nm (.there (.there (.there (.there .here)))) ?_ rfl) rfl) rfl
    mi_spec "opFld"
    refine xga_nil ?_
    refine ⟨Nat.le_of_ble_eq_true rfl, ?_⟩
    -- stop: dput
    have hl := lo.len
    rw [List.length_map, List.length_take] at hl
    refine ⟨_, _, rfl, PutD.t (ks := keyC (capC r cc)) (by mi_spec "foc") (by omega), ?_⟩
    refine xgss_nil ?_
    refine ⟨⟨_, _, rfl⟩, _, ?_, Ent.refl _⟩
    rw [List.take_succ, hc]
    simp only [Option.toList, List.map_append, List.map_cons, List.map_nil]
    exact lo.put _
  · rintro ds' G' ⟨⟨o1, o2, rfl⟩, kvs, lo, en⟩
    refine GTS.ent en ?_
    refine xgss_cons (xgs_ret (xge_nm c nm (.there (.there .here)) ?_ rfl))
    rw [show (dKins X.K cs).length = cs.length by simp, List.take_of_length_le (Nat.le_refl _)] at lo
    exact ⟨[gLet X.K p (cs.map (capC r))], gLet_close lo, q p⟩
theorem ok_lets {f : Addr} {fd : FuncData} (F : FunD K "lets" "Rule.lets" (defArgs s_Rule_lets) (defBody s_Rule_lets) (defScope s_Rule_lets) [] [] f fd) (T : Tx K mg) (h_capped : DefAt P w K mg base 1 "capped" aCapped)  : FnOk P w K mg base (L2.CX P w) 2 f fd ["self", "up", "down", "side"] (conc K (aLets K)) := by
  refine def_ok F sc_Rule_lets nm_Rule_lets (fun es G KN KE ⟨_, _, _, _, _, _, e, _⟩ => by rw [e] <;> rfl) ?_
  rintro X F0 es G G2 KN KE rfl rfl rfl rfl rfl c hfn nm rz ⟨p, l, fs, r, S, cc, rfl, rfl, e1, e2, q⟩
  show GSs X F0 _ [some (.raw (.ref p)), some (.int (cc.1 : Int)), some (.int (cc.2.1 : Int)), some (.str cc.2.2)] (gi X.K p (cRule X.K) fs :: gLet X.K l S :: G2) _
  have c0 := T.c_Rule
  have n1 := T.na_Rule__reach
  have n2 := T.na_Rule__let
  refine openLet (by mi_spec "rem") fun kvs lo => ?_
  refine xgss_cons (xgs_ret (xge_din c (xge_tup (xga_cons (xge_call c h_capped (Nat.le_of_ble_eq_true rfl) nm .here (xga_cons (xge_nm c nm (.there .here) (xga_cons (xge_fld (xge_nm c nm .here ?_ rfl) rfl) rfl) rfl) rfl) rfl rfl) rfl)) rfl))
  mi_spec "opFld"
  refine xga_nil ?_
  -- stop: call capped
  refine CallK.frame ⟨_, _, rfl, rfl, ?_⟩
  refine xga_cons (xge_call c h_capped (Nat.le_of_ble_eq_true rfl) nm .here (xga_cons (xge_nm c nm (.there (.there .here)) (xga_cons (xge_fld (xge_nm c nm .here ?_ rfl) rfl) rfl) rfl) rfl) rfl rfl) rfl
  mi_spec "opFld"
  refine xga_nil ?_
  -- stop: call capped
  refine CallK.frame ⟨_, _, rfl, rfl, ?_⟩
  refine xga_cons (xge_nm c nm (.there (.there (.there .here))) (xga_nil ?_) rfl) rfl
  refine ⟨Nat.le_of_ble_eq_true rfl, ?_⟩
  refine xge_fld (xge_nm c nm .here ?_ rfl) rfl
  mi_spec "opFld"
  -- stop: in dict
  have e : D.tup [D.int (if (cc.1 : Int) < ((r : Nat) : Int) then (cc.1 : Int) else (r : Int)), .int (if (cc.2.1 : Int) < (r : Int) then (cc.2.1 : Int) else (r : Int)), .str cc.2.2] = .tup ((keyC (capC r cc)).map kD) := by
    rw [min_if, min_if]
    rfl
  rw [e]
  refine ⟨_, _, rfl, LookD.t (by mi_spec "foc"), ?_⟩
  rw [lo.at_]
  exact ⟨[gi X.K p (cRule X.K) fs, gLet X.K l S], Ent.trans (gLet_close lo) Ent.swap, q⟩
theorem mem_cellsF {r far n : Nat} {c : Cell} : c ∈ cellsF r far n ↔ c.1 < n ∧ c.1 ≤ far ∧ far - c.1 ≤ r ∧ c ∈ sidesC c.1 (far - c.1) := by
  induction n with
  | zero => simp [cellsF]
  | succ n ih =>
    rw [cellsF_succ, List.mem_append, ih]
    have hs : ∀ u d, c ∈ sidesC u d → c.1 = u := fun u d h => by
      unfold sidesC at h
      split at h <;> simp at h
      · rw [h]
      · rcases h with h | h <;> rw [h]
    constructor
    · rintro (⟨a, b, c', d⟩ | h)
      · exact ⟨by omega, b, c', d⟩
      · split at h
        · rename_i hb
          have e := hs _ _ h
          exact ⟨by omega, by omega, by omega, by rw [e]; exact h⟩
        · cases h
    · rintro ⟨a, b, c', d⟩
      by_cases e : c.1 < n
      · exact .inl ⟨e, b, c', d⟩
      · have e2 : c.1 = n := by omega
        refine .inr ?_
        rw [if_pos (by omega)]
        rw [e2] at d
        exact d
theorem mem_cellsN {r n : Nat} {c : Cell} : c ∈ cellsN r n ↔ ∃ f, f < n ∧ c ∈ cellsF r (f + 1) (r + 1) := by
  unfold cellsN
  simp only [List.mem_flatten, List.mem_map, List.mem_range]
  constructor
  · rintro ⟨l, ⟨f, hf, rfl⟩, h⟩
    exact ⟨f, hf, h⟩
  · rintro ⟨f, hf, h⟩
    exact ⟨_, ⟨f, hf, rfl⟩, h⟩
theorem mem_sides {c : Cell} : c ∈ sidesC c.1 c.2.1 ↔ fitsC c = true := by
  obtain ⟨u, d, s⟩ := c
  unfold sidesC fitsC
  by_cases h : u = 0 ∨ d = 0
  · rw [if_pos h, if_pos h]
    simp
  · rw [if_neg h, if_neg h]
    simp
/-- the cells of a reach -/
theorem mem_cellsOf {r : Nat} {c : Cell} : c ∈ cellsOf r ↔ CellOk r c := by
  unfold cellsOf
  rw [mem_cellsN]
  constructor
  · rintro ⟨f, hf, h⟩
    obtain ⟨a, b, c', d⟩ := mem_cellsF.mp h
    have e : c.2.1 = f + 1 - c.1 := by
      unfold sidesC at d
      split at d <;> simp at d
      · rw [d]
      · rcases d with d | d <;> rw [d]
    rw [← e] at d
    exact ⟨by omega, by omega, by unfold farC; omega, mem_sides.mp d⟩
  · rintro ⟨u, d, n, f⟩
    unfold farC at n
    refine ⟨c.1 + c.2.1 - 1, by omega, mem_cellsF.mpr ⟨by omega, by omega, by omega, ?_⟩⟩
    have e : c.1 + c.2.1 - 1 + 1 - c.1 = c.2.1 := by omega
    rw [e]
    exact mem_sides.mpr f
theorem CellOk.kin {r : Nat} {c : Cell} (h : CellOk r c) (hr : r ≤ 4) : KinOk c := ⟨by have := h.u; omega, by have := h.d; omega, h.f⟩
theorem cap_cell {r : Nat} {c : Cell} (ok : KinOk c) (h : 0 < farC c) (hr : 1 ≤ r) : CellOk r (capC r c) := ⟨Nat.min_le_right _ _, Nat.min_le_right _ _, by unfold farC at h ⊢; show 0 < min _ _ + min _ _; omega, (cap_ok ok hr).f⟩
theorem cap_same {r : Nat} {c : Cell} (h : CellOk r c) : capC r c = c := by
  obtain ⟨u, d, s⟩ := c
  have h1 := h.u
  have h2 := h.d
  show (min u r, min d r, s) = (u, d, s)
  rw [Nat.min_eq_left h1, Nat.min_eq_left h2]
/-- the rows that a rule is made with -/
def rowsOf (r : Nat) (S : List Cell) : List Cell := (cellsOf r).filter fun c => decide (c ∈ S)
theorem takeF {α : Type} {p : α → Bool} {xs : List α} {j : Nat} {y : α} (h : xs[j]? = some y) : (xs.take (j + 1)).filter p = (xs.take j).filter p ++ (if p y = true then [y] else []) := by
  rw [List.take_succ, h, List.filter_append]
  congr 1
  simp only [Option.toList, List.filter_cons, List.filter_nil]
theorem ok_rule {f : Addr} {fd : FuncData} (F : FunD K "__init__" "Rule.__init__" (defArgs s_Rule___init__) (defBody s_Rule___init__) (defScope s_Rule___init__) [] [] f fd) (T : Tx K mg) (h_demand_reach : DefAt P w K mg base 1 "demand_reach" aReach) (h_let_parts : DefAt P w K mg base 5 "let_parts" (aLetParts K)) (h_all_cells : DefAt P w K mg base 4 "all_cells" (aCells K)) (h_Rule_lets : MethAt P w K mg base 2 (He.ga K "Rule") "lets" (aLets K))  : FnR P w K mg base (L2.CX P w) 6 f (conc K (starA 2 (aRule K))) := by
  refine def_star (ps := ["self", "reach"]) (pv := "kins") F sc_Rule___init__ nm_Rule___init__ (fun kV doc pm an cdv ct => StX.bind_star2 (B := fun xs => bindArgs _ ⟨xs, []⟩) (fun _ _  => rfl) (fun _ _ _ _  => rfl)) ?_
  rintro X F0 es G G2 KN KE rfl rfl rfl rfl rfl c hfn nm rz ⟨y, r, cs, rfl, rfl, h1, h4, ok, hz, q⟩
  show GSs X F0 _ [some (.raw (.ref y)), some (.int (r : Int)), some (.tup (dKins X.K cs)), none] (gi X.K y (cRule X.K) [] :: G2) _
  have c0 := T.c_Rule
  have c1 := T.c_Kin
  have n1 := T.na_Rule__reach
  have n2 := T.na_Rule__let
  have n3 := T.na_Rule__rows
  have k1 := T.na_Kin_up
  have k2 := T.na_Kin_down
  have k3 := T.na_Kin_side
  refine xgss_cons (xgs_expr (xge_call c h_demand_reach (Nat.le_of_ble_eq_true rfl) nm .here (xga_cons (xge_nm c nm (.there .here) (xga_nil ?_) rfl) rfl) rfl rfl) rfl)
  -- stop: call demand_reach
  refine CallK.frame ⟨_, rfl, rfl, h1, h4, ?_⟩
  refine xgss_cons (xgs_fld2 (xge_nm c nm (.there .here) (xge_nm c nm .here ?_ rfl) rfl) rfl)
  mi_spec "opSetFld"
  refine xgss_cons (xgs_fld2 (xge_call c h_let_parts (Nat.le_of_ble_eq_true rfl) nm (.there .here) (xga_cons (xge_nm c nm (.there .here) (xga_cons (xge_nm c nm (.there (.there .here)) (xga_nil ?_) rfl) rfl) rfl) rfl) rfl rfl) rfl)
  -- stop: call let_parts
  refine CallK.frame ⟨_, cs, rfl, rfl, h1, ok, hz, fun l => ?_⟩
  refine xge_nm c nm .here ?_ rfl
  mi_spec "opSetFld"
  refine xgss_cons (xgs_fld2 (xge_lc c (lcOk_by (by decide +kernel)) (src_L (fun _ => rfl)) (by decide) (xgt_lcL c (.there (.there (.there .here))) (xge_call c h_all_cells (Nat.le_of_ble_eq_true rfl) nm (.there (.there .here)) (xga_cons (xge_nm c nm (.there .here) (xga_nil ?_) rfl) rfl) rfl rfl))) rfl)
  -- stop: call all_cells
  refine CallK.frame ⟨_, rfl, rfl, h1, h4, fun pc => ?_⟩
  -- stop: comp [cell for cell in all_cells(reach) if self.lets(cell.up, cell.down, cell.side)]
  have hlc := @cellsN_len r h4 (2 * r)
  have hS : ∀ c ∈ cs.map (capC r), CellOk r c := by
    intro c hc
    obtain ⟨c', h', rfl⟩ := List.mem_map.mp hc
    exact cap_cell (ok c' h').1 (ok c' h').2 h1
  refine ⟨dKins X.K (cellsOf r), lst_own (by mi_spec "foc"), fun p => ⟨fun j acc G' => acc = dKins X.K (((cellsOf r).take j).filter fun c => decide (c ∈ cs.map (capC r))) ∧ Ent G' (gl X.K pc (dKins X.K (cellsOf r)) :: gLet X.K l (cs.map (capC r)) :: gi X.K y (cRule X.K) [("_reach", .int (r : Int)), ("_let", .raw (.ref l))] :: G2), ⟨rfl, Ent.refl _⟩, ?_, ?_, ?_⟩⟩
  · rintro j acc G' hj ⟨rfl, en⟩
    exact LstAt.cons (LstAt.ent en (lst_own (by mi_spec "foc")))
  · rintro j z acc G' hy ⟨rfl, en⟩
    obtain ⟨cc, hc, rfl⟩ := dKins_at hy
    have hf := List.length_filter_le (fun c => decide (c ∈ cs.map (capC r))) ((cellsOf r).take j)
    have ht : ((cellsOf r).take j).length ≤ (cellsOf r).length := by rw [List.length_take]; omega
    have hco : CellOk r cc := mem_cellsOf.mp (List.mem_of_getElem? hc)
    intro s H env fp fnv c'
    refine GTT.ent (Ent.cons _ en) ?_
    have vm := vmOk_of c' (Gn := []) (vis := [0, 3]) (by decide +kernel)
    refine xgt_tru (fun _ => rfl) (xge_meth c' T.c_Rule h_Rule_lets (Nat.le_of_ble_eq_true rfl) (xge_vm c' vm .here ?_ rfl) rfl rfl rfl)
    mi_spec "opInsM"
    refine xga_cons (xge_fld (xge_vm c' vm (.there (.there (.there .here))) ?_ rfl) rfl) rfl
    mi_spec "opFld"
    refine xga_cons (xge_fld (xge_vm c' vm (.there (.there (.there .here))) ?_ rfl) rfl) rfl
    mi_spec "opFld"
    refine xga_cons (xge_fld (xge_vm c' vm (.there (.there (.there .here))) ?_ rfl) rfl) rfl
    mi_spec "opFld"
    refine xga_nil ?_
    mi_spec "opInsP"
    -- stop: call Rule.lets
    refine ⟨[_, gLet X.K l (cs.map (capC r))], _, by mi_spec "ent", y, l, _, r, _, cc, rfl, rfl, rfl, rfl, ?_⟩
    mi_spec "opTru"
    rw [cap_same hco]
    refine brB ?_ ?_ <;> intro hb
    · intro s H env fp fnv c'
      have vm := vmOk_of c' (Gn := []) (vis := [0, 3]) (by decide +kernel)
      refine xge_vm c' vm (.there (.there (.there .here))) ?_ rfl
      refine ⟨_, by (apply Ent.take; (case h => mi_spec "rem")); exact Ent.refl _, by unfold cellsOf at hf ht; rw [List.length_map]; unfold cellsOf; omega, ?_, by mi_spec "entE"⟩
      rw [takeF hc, if_pos hb, dKins_app]
      rfl
    · refine ⟨_, by (apply Ent.take; (case h => mi_spec "rem")); exact Ent.refl _, ?_, by mi_spec "entE"⟩
      rw [takeF hc, if_neg (by rw [hb]; decide), List.append_nil]
  · rintro acc G' ⟨rfl, en⟩
    refine GTE.ent (Ent.cons _ en) ?_
    rw [show (dKins X.K (cellsOf r)).length = (cellsOf r).length by simp, List.take_of_length_le (Nat.le_refl _)]
    refine xge_nm c nm .here ?_ rfl
    mi_spec "opSetFld"
    refine xgss_nil ?_
    refine ⟨gRule X.K ⟨y, l, p⟩ r (cs.map (capC r)), ?_, q l p⟩
    have ro : RowsOk ((cellsOf r).filter fun c => decide (c ∈ cs.map (capC r))) (cs.map (capC r)) := by
      refine ⟨?_, fun c => ?_⟩
      · have := List.length_filter_le (fun c => decide (c ∈ cs.map (capC r))) (cellsOf r)
        unfold cellsOf at this
        unfold cellsOf
        omega
      · rw [List.mem_filter, decide_eq_true_iff]
        exact ⟨fun h => h.2, fun h => ⟨mem_cellsOf.mpr (hS c h), h⟩⟩
    refine Ent.trans (gRows_close ro) ?_
    mi_spec "entE"
theorem ok_getitem {f : Addr} {fd : FuncData} (F : FunD K "__getitem__" "Rule.__getitem__" (defArgs s_Rule___getitem__) (defBody s_Rule___getitem__) (defScope s_Rule___getitem__) [] [] f fd) (T : Tx K mg) (h_Rule_lets : MethAt P w K mg base 2 (He.ga K "Rule") "lets" (aLets K))  : FnOk P w K mg base (L2.CX P w) 3 f fd ["self", "kin"] (conc K (aGetItem K)) := by
  refine def_ok F sc_Rule___getitem__ nm_Rule___getitem__ (fun es G KN KE ⟨_, _, _, _, e, _⟩ => by rw [e] <;> rfl) ?_
  rintro X F0 es G G2 KN KE rfl rfl rfl rfl rfl c hfn nm rz ⟨a, r, S, cc, rfl, rfl, q⟩
  show GSs X F0 _ [some (.raw (.ref a.p)), some (kinV X.K cc)] (gRule X.K a r S ++ G2) _
  simp only [gRule, List.cons_append, List.nil_append, List.append_assoc]
  have c0 := T.c_Rule
  have c1 := T.c_Kin
  have k1 := T.na_Kin_up
  have k2 := T.na_Kin_down
  have k3 := T.na_Kin_side
  refine xgss_cons (xgs_ret (xge_meth c T.c_Rule h_Rule_lets (Nat.le_of_ble_eq_true rfl) (xge_nm c nm .here ?_ rfl) rfl rfl rfl))
  mi_spec "opInsM"
  refine xga_cons (xge_fld (xge_nm c nm (.there .here) ?_ rfl) rfl) rfl
  mi_spec "opFld"
  refine xga_cons (xge_fld (xge_nm c nm (.there .here) ?_ rfl) rfl) rfl
  mi_spec "opFld"
  refine xga_cons (xge_fld (xge_nm c nm (.there .here) ?_ rfl) rfl) rfl
  mi_spec "opFld"
  refine xga_nil ?_
  mi_spec "opInsP"
  -- stop: call Rule.lets
  refine ⟨[_, gLet X.K a.l S], _, by mi_spec "ent", a.p, a.l, _, r, S, cc, rfl, rfl, rfl, rfl, ?_⟩
  exact ⟨gRule X.K a r S, by mi_spec "entE", q⟩
theorem ok_setitem {f : Addr} {fd : FuncData} (F : FunD K "__setitem__" "Rule.__setitem__" (defArgs s_Rule___setitem__) (defBody s_Rule___setitem__) (defScope s_Rule___setitem__) [] [] f fd) (T : Tx K mg) (h_Kin_is_self : PropAt P w K mg base 1 (He.ga K "Kin") "is_self" (aIsSelf K)) (h_Kin___mod__ : SpecAt P w K mg base 4 (He.ga K "Kin") "__mod__" (aKinMod K)) (h_Rule_put : MethAt P w K mg base 5 (He.ga K "Rule") "put" (aPut K))  : FnOk P w K mg base (L2.CX P w) 6 f fd ["self", "kin", "worth"] (conc K (aSetItem K)) := by
  refine def_ok F sc_Rule___setitem__ nm_Rule___setitem__ (fun es G KN KE ⟨_, _, _, _, e, _⟩ => by rw [e] <;> rfl) ?_
  rintro X F0 es G G2 KN KE rfl rfl rfl rfl rfl c hfn nm rz ⟨a, r, S, cc, rfl, rfl, ok, hn, h1, hl, q⟩
  show GSs X F0 _ [some (.raw (.ref a.p)), some (kinV X.K cc), some (.bl true)] (gRule X.K a r S ++ G2) _
  simp only [gRule, List.cons_append, List.nil_append, List.append_assoc]
  have c0 := T.c_Rule
  have n1 := T.na_Rule__reach
  refine xgss_cons (xgs_if (xgt_val (false) ?_ ?_))
  · refine xgt_tru (fun _ => rfl) (xge_prop c T.c_Kin h_Kin_is_self (Nat.le_of_ble_eq_true rfl) (xge_nm c nm (.there .here) ?_ rfl) rfl)
    mi_spec "opInsP"
    -- stop: prop Kin.is_self
    refine CallK.frame ⟨cc, rfl, rfl, ?_⟩
    mi_spec "opTru"
    refine ⟨?_, rfl⟩
    simp
    omega
  refine brF (xgss_nil ?_)
  refine xgss_cons (xgs_if (xgt_tru (fun _ => rfl) (xge_nm c nm (.there (.there .here)) ?_ rfl)))
  mi_spec "opTru"
  -- stop: if
  refine brT ?_
  refine xgss_cons (xgs_expr (xge_meth c T.c_Rule h_Rule_put (Nat.le_of_ble_eq_true rfl) (xge_nm c nm .here ?_ rfl) rfl rfl rfl) rfl)
  mi_spec "opInsM"
  refine xga_cons (xge_binop (xge_nm c nm (.there .here) (xge_fld (xge_nm c nm .here ?_ rfl) rfl) rfl)) rfl
  mi_spec "opFld"
  -- stop: man kin % self._reach
  refine rk_binM T.bini_Kin_Mod c h_Kin___mod__ (Nat.le_of_ble_eq_true rfl) (ins_fr) (CallK.frame ⟨cc, r, rfl, rfl, ok, h1, ?_, ?_⟩)
  · intro F v rv
    obtain ⟨a, dx, vs, e, _⟩ := rep_ins.mp rv
    exact ⟨a, e⟩
  refine xga_nil ?_
  mi_spec "opInsP"
  -- stop: call Rule.put
  refine ⟨gRule X.K a r S, _, by mi_spec "ent", a, r, S, capC r cc, rfl, rfl, cap_cell ok hn h1, hl, ?_⟩
  refine xgss_nil (xgss_nil ?_)
  exact ⟨gRule X.K a r (putS S (capC r cc)), by mi_spec "entE", q⟩
theorem ok_put {f : Addr} {fd : FuncData} (F : FunD K "put" "Rule.put" (defArgs s_Rule_put) (defBody s_Rule_put) (defScope s_Rule_put) [] [] f fd) (T : Tx K mg) (h_Rule___getitem__ : SpecAt P w K mg base 3 (He.ga K "Rule") "__getitem__" (aGetItem K)) (h_Kin___lt__ : SpecAt P w K mg base 2 (He.ga K "Kin") "__lt__" (aKinLt K))  : FnOk P w K mg base (L2.CX P w) 5 f fd ["self", "cell"] (conc K (aPut K)) := by
  refine def_ok F sc_Rule_put nm_Rule_put (fun es G KN KE ⟨_, _, _, _, e, _⟩ => by rw [e] <;> rfl) ?_
  rintro X F0 es G G2 KN KE rfl rfl rfl rfl rfl c hfn nm rz ⟨a, r, S, cc, rfl, rfl, ok, hl, q⟩
  show GSs X F0 _ [some (.raw (.ref a.p)), some (kinV X.K cc), none] (gRule X.K a r S ++ G2) _
  simp only [gRule, List.cons_append, List.nil_append, List.append_assoc]
  have c0 := T.c_Rule
  have c1 := T.c_Kin
  have n1 := T.na_Rule__reach
  have n2 := T.na_Rule__let
  have n3 := T.na_Rule__rows
  have k1 := T.na_Kin_up
  have k2 := T.na_Kin_down
  have k3 := T.na_Kin_side
  refine xgss_cons (xgs_if (xgt_tru (fun _ => rfl) (xge_index (xge_nm c nm .here (xge_nm c nm (.there .here) ?_ rfl) rfl) (fun b_ _ _ => by cases b_ <;> exact rfl))))
  -- stop: man self[cell]
  refine rk_ixM c h_Rule___getitem__ (Nat.le_of_ble_eq_true rfl) (ins_own (by mi_spec "foc")) ⟨gRule X.K a r S, _, by mi_spec "ent", a, r, S, cc, rfl, rfl, ?_⟩
  rw [cap_same ok]
  mi_spec "opTru"
  -- stop: if
  refine br ?_ ?_ <;> intro hc
  · refine xgss_cons (xgs_retN ?_)
    have e : putS S cc = S := by unfold putS; rw [if_pos hc]
    exact ⟨gRule X.K a r (putS S cc), by rw [e]; mi_spec "entE", q⟩
  · refine xgss_nil ?_
    have e : putS S cc = S ++ [cc] := by unfold putS; rw [if_neg hc]
    refine openLet (by mi_spec "rem") fun kvs lo => ?_
    refine openRows (by mi_spec "rem") fun rows ro => ?_
    refine xgss_cons (xgs_dput c (xge_bl (xge_fld (xge_nm c nm .here ?_ rfl) rfl)) rfl)
    mi_spec "opFld"
    refine xge_tup (xga_cons (xge_fld (xge_nm c nm (.there .here) ?_ rfl) rfl) rfl)
    mi_spec "opFld"
    refine xga_cons (xge_fld (xge_nm c nm (.there .here) ?_ rfl) rfl) rfl
    mi_spec "opFld"
    refine xga_cons (xge_fld (xge_nm c nm (.there .here) ?_ rfl) rfl) rfl
    mi_spec "opFld"
    refine xga_nil ?_
    refine ⟨Nat.le_of_ble_eq_true rfl, ?_⟩
    -- stop: dput
    have hlo := lo.len
    have hro := ro.len
    refine ⟨_, _, rfl, PutD.t (ks := keyC cc) (by mi_spec "foc") (by omega), ?_⟩
    refine xgss_cons (xgs_asg c hfn nm (.there (.there .here)) (xge_int ?_) rfl rfl)
    refine xgss_cons (xgs_while c (fun m ds G => ∃ i, i ≤ rows.length ∧ m = rows.length - i ∧ ds = [some (.raw (.ref a.p)), some (kinV X.K cc), some (.int ((i : Nat) : Int))] ∧ Ent G (gl X.K a.r (dKins X.K rows) :: gdT X.K a.l (putK' kvs (keyC cc) (D.bl true)) :: gi X.K a.p (cRule X.K) (ruleFs a r) :: G2)) rows.length ⟨0, Nat.zero_le _, rfl, rfl, Ent.refl _⟩ ?_)
    rintro m ds G' ⟨i, hi, rfl, rfl, en⟩
    refine GTT.ent en ?_
    have stay : ∀ G', Ent G' (gl X.K a.r (dKins X.K rows) :: gdT X.K a.l (putK' kvs (keyC cc) (D.bl true)) :: gi X.K a.p (cRule X.K) (ruleFs a r) :: G2) → GSs X F0 ((defBody s_Rule_put).drop 4) [some (.raw (.ref a.p)), some (kinV X.K cc), some (.int ((i : Nat) : Int))] G' (bodyA KN G2) := by
      intro G' en
      refine GTS.ent en ?_
      refine xgss_cons (xgs_expr (xge_bm PySem.F.plainAttrs_list PySem.F.slot_list_insert PySem.F.type_list_insert mt_insert (xge_fld (xge_nm c nm .here ?_ rfl) rfl) rfl rfl rfl rfl rfl) rfl)
      mi_spec "opFld"
      mi_spec "opTy"
      refine xga_cons (xge_nm c nm (.there (.there .here)) (xga_cons (xge_nm c nm (.there .here) (xga_nil ?_) rfl) rfl) rfl) rfl
      -- stop: rm_insert
      refine rm_insert (by mi_spec "foc") (by simp; omega) ⟨by omega, by omega⟩ ?_
      refine xgss_nil ?_
      refine ⟨gRule X.K a r (putS S cc), ?_, q⟩
      rw [e]
      have er : (dKins X.K rows).take (i : Int).toNat ++ [kinV X.K cc] ++ (dKins X.K rows).drop (i : Int).toNat = dKins X.K (rows.take i ++ [cc] ++ rows.drop i) := by simp
      rw [er]
      have ro2 : RowsOk (rows.take i ++ [cc] ++ rows.drop i) (S ++ [cc]) := by
        refine ⟨by simp; omega, fun c => ?_⟩
        rw [List.mem_append, List.mem_append, List.mem_append, List.mem_singleton, ← ro.at_ c]
        have := List.take_append_drop i rows
        constructor
        · rintro ((h | h) | h)
          · exact .inl (List.mem_of_mem_take h)
          · exact .inr h
          · exact .inl (List.mem_of_mem_drop h)
        · rintro (h | h)
          · rw [← this, List.mem_append] at h
            rcases h with h | h
            · exact .inl (.inl h)
            · exact .inr h
          · exact .inl (.inr h)
      refine Ent.trans (gRows_close ro2) ?_
      refine Ent.trans (Ent.cons _ (gLet_close (lo.put cc))) ?_
      mi_spec "entE"
    refine xgt_of_w (xgw_and (xgt_compare (xge_nm c nm (.there (.there .here)) (xge_callB c nm .here T.mlen bt_len (xga_cons (xge_fld (xge_nm c nm .here ?_ rfl) rfl) rfl) rfl rfl) rfl) (nm_Lt _)))
    mi_spec "opFld"
    refine xga_nil ?_
    mi_spec "rl_len"
    mi_spec "opLt"
    refine kb ?_
    -- stop: br xgw_and
    rw [show ((dKins X.K rows).length : Int) = ((rows.length : Nat) : Int) by simp]
    refine br ?_ ?_ <;> intro hp
    · have hp' : i < rows.length := by omega
      refine xgw_and1 (xgt_compare (xge_index (xge_fld (xge_nm c nm .here ?_ rfl) rfl) (fun b_ _ _ => by cases b_ <;> exact rfl)) (nm_Lt _))
      mi_spec "opFld"
      refine xge_nm c nm (.there (.there .here)) ?_ rfl
      -- stop: man self._rows[place]
      refine rk_ixL (lst_own (by mi_spec "foc")) (x := kinV X.K rows[i]) (Ly.atI_nat (by rw [List.getElem?_map, List.getElem?_eq_getElem hp'] <;> rfl)) ?_
      refine xge_nm c nm (.there .here) ?_ rfl
      -- stop: man self._rows[place] < cell
      refine rk_cmpM (.inl rfl) c h_Kin___lt__ (Nat.le_of_ble_eq_true rfl) ins_fr ins_fr (CallK.frame ⟨rows[i], cc, rfl, rfl, ⟨_, rfl, ?_⟩⟩)
      refine kb ?_
      refine brB ?_ ?_ <;> intro hb
      · refine xgss_cons (xgs_augN c hfn nm (.there (.there .here)) (.there (.there .here)) (xge_int ?_) rfl)
        mi_spec "iopAdd"
        refine xgss_nil ?_
        exact ⟨rows.length - (i + 1), by omega, i + 1, by omega, rfl, rfl, by mi_spec "entE"⟩
      · exact stay _ (by mi_spec "entE")
    · exact brF (stay _ (Ent.refl _))
end
section
variable {P : Program} {w : World} {K : PySem.W.Frag} {mg : Str → Option Value} {base : Heap}
theorem callK_all2 {a : ASp} {es : List D} {G G2 : Gs} {KN : D → Gs → Prop} (h : a es G (fun d G' => KN d (G' ++ G2)) NoX) : CallK a es (G ++ G2) KN := ⟨G, G2, Ent.refl _, h⟩
theorem map_same {r : Nat} {rows S : List Cell} (ro : RowsOk rows S) (ok : ∀ c ∈ S, CellOk r c) : ∀ c, c ∈ rows.map (capC r) ↔ c ∈ S := by
  intro c
  rw [List.mem_map]
  constructor
  · rintro ⟨c', h, rfl⟩
    have h' := (ro.at_ c').mp h
    rw [cap_same (ok c' h')]
    exact h'
  · intro h
    exact ⟨c, (ro.at_ c).mpr h, cap_same (ok c h)⟩
theorem ok_rtwin {f : Addr} {fd : FuncData} (F : FunD K "twin" "Rule.twin" (defArgs s_Rule_twin) (defBody s_Rule_twin) (defScope s_Rule_twin) [] [] f fd) (T : Tx K mg) (h_Rule : MakeR P w K mg base 6 "Rule" (He.ga K "Rule") (starA 2 (aRule K)))  : FnOk P w K mg base (L2.CX P w) 8 f fd ["self"] (conc K (aRTwin K)) := by
  refine def_ok F sc_Rule_twin nm_Rule_twin (fun es G KN KE ⟨_, _, _, e, _⟩ => by rw [e] <;> rfl) ?_
  rintro X F0 es G G2 KN KE rfl rfl rfl rfl rfl c hfn nm rz ⟨a, r, S, rfl, rfl, ok, q⟩
  show GSs X F0 _ [some (.raw (.ref a.p))] (gRule X.K a r S ++ G2) _
  simp only [gRule, List.cons_append, List.nil_append, List.append_assoc]
  have c0 := T.c_Rule
  have n1 := T.na_Rule__reach
  have n2 := T.na_Rule__let
  have n3 := T.na_Rule__rows
  refine openRows (by mi_spec "rem") fun rows ro => ?_
  refine xgss_cons (xgs_ret (xge_makeS c h_Rule (Nat.le_of_ble_eq_true rfl) nm .here (xga_cons (xge_fld (xge_nm c nm .here ?_ rfl) rfl) rfl) rfl rfl))
  mi_spec "opFld"
  refine xga_star (xge_fld (xge_nm c nm .here ?_ rfl) rfl) rfl
  mi_spec "opFld"
  mi_spec "opStar"
  refine xga_nil ?_
  -- stop: make Rule
  intro y
  have hl := ro.len
  have hs := ok.len
  have sm := map_same ro ok.c
  refine ⟨[gi X.K y (He.ga X.K "Rule") []], _, by mi_spec "ent", Nat.le_of_ble_eq_true rfl, by simp; omega, y, r, rows, by simp, rfl, ok.r1, ok.r4, ?_, by omega, ?_⟩
  · intro c hc
    have := ok.c c ((ro.at_ c).mp hc)
    exact ⟨this.kin ok.r4, this.n⟩
  · intro l q2
    refine ⟨rfl, ?_⟩
    refine ⟨gRule X.K ⟨y, l, q2⟩ r (rows.map (capC r)) ++ gRule X.K a r S, ?_, q ⟨y, l, q2⟩ _ sm (by simp; omega)⟩
    refine Ent.trans (G1 := gl X.K a.r (dKins X.K rows) :: gRule X.K ⟨y, l, q2⟩ r (rows.map (capC r)) ++ [gi X.K a.p (cRule X.K) (ruleFs a r), gLet X.K a.l S] ++ G2) (by mi_spec "entE") ?_
    refine Ent.trans (gRows_close ro) ?_
    mi_spec "entE"
theorem ok_hands {f : Addr} {fd : FuncData} (F : FunD K "__init__" "Hands.__init__" (defArgs s_Hands___init__) (defBody s_Hands___init__) (defScope s_Hands___init__) [] [("keeps", .bl true), ("greets", .bl false), ("inherits", .bl true), ("told", .bl false)] f fd) (T : Tx K mg)   : FnOk P w K mg base (L2.CX P w) 1 f fd ["self", "keeps", "greets", "inherits", "told"] (conc K (aHands K)) := by
  refine def_ok F sc_Hands___init__ nm_Hands___init__ (fun es G KN KE ⟨_, _, e, _⟩ => by rw [e] <;> rfl) ?_
  rintro X F0 es G G2 KN KE rfl rfl rfl rfl rfl c hfn nm rz ⟨y, f, rfl, rfl, q⟩
  show GSs X F0 _ [some (.raw (.ref y)), some (.bl f.keeps), some (.bl f.greets), some (.bl f.inherits), some (.bl f.told)] (gi X.K y (cHands X.K) [] :: G2) _
  have c0 := T.c_Hands
  have n1 := T.na_Hands_keeps
  have n2 := T.na_Hands_greets
  have n3 := T.na_Hands_inherits
  have n4 := T.na_Hands_told
  refine xgss_cons (xgs_fld2 (xge_nm c nm (.there .here) (xge_nm c nm .here ?_ rfl) rfl) rfl)
  mi_spec "opSetFld"
  refine xgss_cons (xgs_fld2 (xge_nm c nm (.there (.there .here)) (xge_nm c nm .here ?_ rfl) rfl) rfl)
  mi_spec "opSetFld"
  refine xgss_cons (xgs_fld2 (xge_nm c nm (.there (.there (.there .here))) (xge_nm c nm .here ?_ rfl) rfl) rfl)
  mi_spec "opSetFld"
  refine xgss_cons (xgs_fld2 (xge_nm c nm (.there (.there (.there (.there .here)))) (xge_nm c nm .here ?_ rfl) rfl) rfl)
  mi_spec "opSetFld"
  refine xgss_nil ?_
  exact ⟨[gi X.K y (cHands X.K) (handF.zip (handDs f))], Ent.refl _, q⟩
theorem ok_every {f : Addr} {fd : FuncData} (F : FunD K "every" "Hands.every" (defArgs s_Hands_every) (defBody s_Hands_every) (defScope s_Hands_every) [] [] f fd) (T : Tx K mg) (h_Hands : MakeAtK P w K mg base 1 (He.ga K "Hands") 0 ["keeps", "greets", "inherits", "told"] (aHands K))  : FnOk P w K mg base (L2.CX P w) 3 f fd ["cls"] (conc K (aEvery K)) := by
  refine def_ok F sc_Hands_every nm_Hands_every (fun es G KN KE ⟨e, _⟩ => by rw [e] <;> rfl) ?_
  rintro X F0 es G G2 KN KE rfl rfl rfl rfl rfl c hfn nm rz ⟨rfl, rfl, q⟩
  show GSs X F0 _ [some (.raw (.ref (cHands X.K)))] (G2) _
  refine xgss_cons (xgs_ret (GTE.freezeI ?_))
  refine xge_clsK0 c h_Hands (Nat.le_of_ble_eq_true rfl) nm .here (xgk_cons (xge_bl (xgk_cons (xge_bl (xgk_cons (xge_bl (xgk_cons (xge_bl (xgk_nil ?_))))))))) rfl rfl rfl rfl
  -- stop: make Hands
  refine ⟨rfl, fun y => ⟨[gi X.K y (cHands X.K) []], G2, Ent.refl _, y, ⟨true, true, true, true⟩, rfl, rfl, rfl, y, cHands X.K, handF, handDs ⟨true, true, true, true⟩, G2, rfl, Rem.here, rfl, ?_⟩⟩
  exact ⟨[], Ent.refl _, q⟩
theorem ok_fam {f : Addr} {fd : FuncData} (F : FunD K "__init__" "Family.__init__" (defArgs s_Family___init__) (defBody s_Family___init__) (defScope s_Family___init__) [] [] f fd) (T : Tx K mg)   : FnOk P w K mg base (L2.CX P w) 1 f fd ["self"] (conc K (aFam K)) := by
  refine def_ok F sc_Family___init__ nm_Family___init__ (fun es G KN KE ⟨_, e, _⟩ => by rw [e] <;> rfl) ?_
  rintro X F0 es G G2 KN KE rfl rfl rfl rfl rfl c hfn nm rz ⟨y, rfl, rfl, q⟩
  show GSs X F0 _ [some (.raw (.ref y))] (gi X.K y (cFam X.K) [] :: G2) _
  have c0 := T.c_Family
  have n1 := T.na_Family__tasks
  have n2 := T.na_Family__parents
  have n3 := T.na_Family__places
  have n4 := T.na_Family__depths
  have n5 := T.na_Family__broods
  refine xgss_cons (xgs_fld2 (xge_lst ?_) rfl)
  refine xga_cons (xge_int (xga_nil ?_)) rfl
  refine ⟨Nat.le_of_ble_eq_true rfl, fun l1 => ?_⟩
  refine xge_nm c nm .here ?_ rfl
  mi_spec "opSetFld"
  refine xgss_cons (xgs_fld2 (xge_lst ?_) rfl)
  refine xga_cons (xge_non (xga_nil ?_)) rfl
  refine ⟨Nat.le_of_ble_eq_true rfl, fun l2 => ?_⟩
  refine xge_nm c nm .here ?_ rfl
  mi_spec "opSetFld"
  refine xgss_cons (xgs_fld2 (xge_lst ?_) rfl)
  refine xga_cons (xge_int (xga_nil ?_)) rfl
  refine ⟨Nat.le_of_ble_eq_true rfl, fun l3 => ?_⟩
  refine xge_nm c nm .here ?_ rfl
  mi_spec "opSetFld"
  refine xgss_cons (xgs_fld2 (xge_lst ?_) rfl)
  refine xga_cons (xge_int (xga_nil ?_)) rfl
  refine ⟨Nat.le_of_ble_eq_true rfl, fun l4 => ?_⟩
  refine xge_nm c nm .here ?_ rfl
  mi_spec "opSetFld"
  refine xgss_cons (xgs_fld2 (xge_lst ?_) rfl)
  refine xga_cons (xge_lst ?_) st_list
  refine xga_nil ?_
  refine ⟨Nat.le_of_ble_eq_true rfl, fun p => ?_⟩
  refine xga_nil ?_
  refine ⟨Nat.le_of_ble_eq_true rfl, fun l5 => ?_⟩
  refine xge_nm c nm .here ?_ rfl
  mi_spec "opSetFld"
  refine xgss_nil ?_
  have eF : gFam X.K ⟨y, l1, l2, l3, l4, l5⟩ Fam.zero = [gi X.K y (cFam X.K) (famFs ⟨y, l1, l2, l3, l4, l5⟩), gl X.K l1 [.int 0], gl X.K l2 [.non], gl X.K l3 [.int 0], gl X.K l4 [.int 0], gA X.K l5 ([[]].map (phL' X.K))] := rfl
  refine ⟨gFam X.K ⟨y, l1, l2, l3, l4, l5⟩ Fam.zero, ?_, q l1 l2 l3 l4 l5⟩
  refine Ent.trans (arrM_one (φ := phL' X.K) (y := [])) ?_
  rw [eF]
  mi_spec "entE"
theorem ok_fdemand {f : Addr} {fd : FuncData} (F : FunD K "demand" "Family.demand" (defArgs s_Family_demand) (defBody s_Family_demand) (defScope s_Family_demand) [] [] f fd) (T : Tx K mg)   : FnOk P w K mg base (L2.CX P w) 1 f fd ["self", "task"] (conc K (aFDemand K)) := by
  refine def_ok F sc_Family_demand nm_Family_demand (fun es G KN KE ⟨_, _, _, e, _⟩ => by rw [e] <;> rfl) ?_
  rintro X F0 es G G2 KN KE rfl rfl rfl rfl rfl c hfn nm rz ⟨a, f, t, rfl, rfl, ht, q⟩
  show GSs X F0 _ [some (.raw (.ref a.p)), some (.int (t : Int))] (gFam X.K a f ++ G2) _
  simp only [gFam, List.cons_append, List.nil_append, List.append_assoc]
  have c0 := T.c_Family
  have n1 := T.na_Family__tasks
  refine xgss_cons (xgs_if (xgt_val (false) ?_ ?_))
  · refine xgt_not (xgt_chain (xge_int (xge_nm c nm (.there .here) ?_ rfl)) rfl)
    mi_spec "opLtE"
    refine ⟨_, rfl, ?_⟩
    -- stop: chain
    refine brY (by omega) ?_
    refine xge_callB c nm .here T.mlen bt_len (xga_cons (xge_fld (xge_nm c nm .here ?_ rfl) rfl) rfl) rfl rfl
    mi_spec "opFld"
    refine xga_nil ?_
    mi_spec "rl_len"
    mi_spec "opLt"
    refine kb ?_
    refine ⟨?_, rfl⟩
    simp
    omega
  refine brF (xgss_nil (xgss_nil ?_))
  exact ⟨gFam X.K a f, Ent.refl _, q⟩
theorem ints_app {ns : List Nat} {n : Nat} : dInts ns ++ [.int (n : Int)] = dInts (ns ++ [n]) := by simp
theorem opts_app {ns : List (Option Nat)} {n : Nat} : dOpts ns ++ [.int (n : Int)] = dOpts (ns ++ [some n]) := by simp [optD]
theorem ints_get {ns : List Nat} {n : Nat} (h : n < ns.length) : atI (dInts ns) ((n : Nat) : Int) = some (.int ((ns.getD n 0 : Nat) : Int)) := Ly.atI_nat (by rw [List.getElem?_map, List.getD_eq_getElem?_getD, List.getElem?_eq_getElem h] <;> rfl)
theorem getD_nth {α : Type} {xs : List α} {i : Nat} {d : α} (h : i < xs.length) : xs.getD i d = xs[i] := by rw [List.getD_eq_getElem?_getD, List.getElem?_eq_getElem h] <;> rfl
theorem ok_fbear {f : Addr} {fd : FuncData} (F : FunD K "bear" "Family.bear" (defArgs s_Family_bear) (defBody s_Family_bear) (defScope s_Family_bear) [] [] f fd) (T : Tx K mg) (h_Family_demand : MethAt P w K mg base 1 (He.ga K "Family") "demand" (aFDemand K))  : FnOk P w K mg base (L2.CX P w) 2 f fd ["self", "parent"] (conc K (aFBear K)) := by
  refine def_ok F sc_Family_bear nm_Family_bear (fun es G KN KE ⟨_, _, _, e, _⟩ => by rw [e] <;> rfl) ?_
  rintro X F0 es G G2 KN KE rfl rfl rfl rfl rfl c hfn nm rz ⟨a, f, t, rfl, rfl, ok, ht, hl, q⟩
  show GSs X F0 _ [some (.raw (.ref a.p)), some (.int (t : Int)), none] (gFam X.K a f ++ G2) _
  simp only [gFam, List.cons_append, List.nil_append, List.append_assoc]
  have c0 := T.c_Family
  have n1 := T.na_Family__tasks
  have n2 := T.na_Family__parents
  have n3 := T.na_Family__places
  have n4 := T.na_Family__depths
  have n5 := T.na_Family__broods
  have l1 := ok.l1
  have l2 := ok.l2
  have l3 := ok.l3
  have l4 := ok.l4
  have ht4 : t < f.broods.length := by omega
  refine xgss_cons (xgs_expr (xge_meth c T.c_Family h_Family_demand (Nat.le_of_ble_eq_true rfl) (xge_nm c nm .here ?_ rfl) rfl rfl rfl) rfl)
  mi_spec "opInsM"
  refine xga_cons (xge_nm c nm (.there .here) (xga_nil ?_) rfl) rfl
  mi_spec "opInsP"
  -- stop: call Family.demand
  refine ⟨gFam X.K a f, _, by mi_spec "ent", a, f, t, rfl, rfl, ht, ?_⟩
  refine openA (φ := phL' X.K) (xs := f.broods) (by mi_spec "rem") fun qs hq => ?_
  have ht5 : t < qs.length := by omega
  have ht3 : t < f.depths.length := by omega
  refine xgss_cons (xgs_asg c hfn nm (.there (.there .here)) (xge_callB c nm .here T.mlen bt_len (xga_cons (xge_fld (xge_nm c nm .here ?_ rfl) rfl) rfl) rfl rfl) rfl rfl)
  mi_spec "opFld"
  refine xga_nil ?_
  mi_spec "rl_len"
  rw [show ((dInts f.tasks).length : Int) = ((f.tasks.length : Nat) : Int) by simp]
  refine xgss_cons (xgs_if (xgt_compare (xge_nm c nm (.there (.there .here)) ?_ rfl) (nm_GtE _)))
  obtain ⟨u_, con_⟩ := T.con_Family_MOST
  refine xge_con2 con_ T.c_Family (xge_nm c nm .here ?_ rfl) rfl
  mi_spec "opConP"
  mi_spec "opGtE"
  refine kb ?_
  -- stop: if
  refine brNo (by omega) (xgss_nil ?_)
  refine xgss_cons (xgs_expr (xge_bm PySem.F.plainAttrs_list PySem.F.slot_list_append PySem.F.type_list_append mt_append (xge_fld (xge_nm c nm .here ?_ rfl) rfl) rfl rfl rfl rfl rfl) rfl)
  mi_spec "opFld"
  mi_spec "opTy"
  refine xga_cons (xge_nm c nm (.there (.there .here)) (xga_nil ?_) rfl) rfl
  mi_spec "rm_append"
  · simp; omega
  refine xgss_cons (xgs_expr (xge_bm PySem.F.plainAttrs_list PySem.F.slot_list_append PySem.F.type_list_append mt_append (xge_fld (xge_nm c nm .here ?_ rfl) rfl) rfl rfl rfl rfl rfl) rfl)
  mi_spec "opFld"
  mi_spec "opTy"
  refine xga_cons (xge_nm c nm (.there .here) (xga_nil ?_) rfl) rfl
  mi_spec "rm_append"
  · simp; omega
  refine xgss_cons (xgs_expr (xge_bm PySem.F.plainAttrs_list PySem.F.slot_list_append PySem.F.type_list_append mt_append (xge_fld (xge_nm c nm .here ?_ rfl) rfl) rfl rfl rfl rfl rfl) rfl)
  mi_spec "opFld"
  mi_spec "opTy"
  refine xga_cons (xge_callB c nm .here T.mlen bt_len (xga_cons (xge_index (xge_fld (xge_nm c nm .here ?_ rfl) rfl) (fun b_ _ _ => by cases b_ <;> exact rfl)) rfl) rfl rfl) rfl
  mi_spec "opFld"
  refine xge_nm c nm (.there .here) ?_ rfl
  -- stop: man self._broods[parent]
  refine rk_ixL (lst_own (by mi_spec "foc")) (arr_ref ht5) ?_
  refine xga_nil ?_
  mi_spec "rl_len"
  refine xga_nil ?_
  mi_spec "rm_append"
  · simp; omega
  refine xgss_cons (xgs_expr (xge_bm PySem.F.plainAttrs_list PySem.F.slot_list_append PySem.F.type_list_append mt_append (xge_fld (xge_nm c nm .here ?_ rfl) rfl) rfl rfl rfl rfl rfl) rfl)
  mi_spec "opFld"
  mi_spec "opTy"
  refine xga_cons (xge_binop (xge_index (xge_fld (xge_nm c nm .here ?_ rfl) rfl) (fun b_ _ _ => by cases b_ <;> exact rfl))) rfl
  mi_spec "opFld"
  refine xge_nm c nm (.there .here) ?_ rfl
  -- stop: man self._depths[parent]
  refine rk_ixL (lst_own (by mi_spec "foc")) (ints_get ht3) ?_
  refine xge_int ?_
  mi_spec "opAdd"
  refine xga_nil ?_
  mi_spec "rm_append"
  · simp; omega
  refine xgss_cons (xgs_expr (xge_bm PySem.F.plainAttrs_list PySem.F.slot_list_append PySem.F.type_list_append mt_append (xge_index (xge_fld (xge_nm c nm .here ?_ rfl) rfl) (fun b_ _ _ => by cases b_ <;> exact rfl)) rfl rfl rfl rfl rfl) rfl)
  mi_spec "opFld"
  refine xge_nm c nm (.there .here) ?_ rfl
  -- stop: man self._broods[parent]
  refine rk_ixL (lst_own (by mi_spec "foc")) (arr_ref ht5) ?_
  mi_spec "opTy"
  refine xga_cons (xge_nm c nm (.there (.there .here)) (xga_nil ?_) rfl) rfl
  mi_spec "rm_append"
  · have := ok.br _ (List.getElem_mem ht4)
    rw [List.length_map]
    omega
  have e9 : gl X.K (qs[t]'ht5) (dInts (f.broods[t]'ht4) ++ [.int (f.tasks.length : Int)]) = one (qs[t]'ht5) (phL' X.K (f.broods[t] ++ [f.tasks.length])) := by rw [ints_app]
  rw [e9, arrM_set ht5]
  refine xgss_cons (xgs_expr (xge_bm PySem.F.plainAttrs_list PySem.F.slot_list_append PySem.F.type_list_append mt_append (xge_fld (xge_nm c nm .here ?_ rfl) rfl) rfl rfl rfl rfl rfl) rfl)
  mi_spec "opFld"
  mi_spec "opTy"
  refine xga_cons (xge_lst ?_) st_list
  refine xga_nil ?_
  refine ⟨Nat.le_of_ble_eq_true rfl, fun p => ?_⟩
  refine xga_nil ?_
  mi_spec "rm_append"
  · simp; omega
  refine xgss_cons (xgs_ret (xge_nm c nm (.there (.there .here)) ?_ rfl))
  refine ⟨gFam X.K a (f.bear t), ?_, q⟩
  have ea : dInts f.tasks ++ [.int (f.tasks.length : Int)] = dInts (f.bear t).tasks := ints_app
  have eb : dOpts f.parents ++ [.int (t : Int)] = dOpts (f.bear t).parents := opts_app
  have ec : dInts f.places ++ [.int (((dInts (f.broods[t]'ht4)).length : Nat) : Int)] = dInts (f.bear t).places := by
    show _ = dInts (f.places ++ [(f.broods.getD t []).length])
    rw [getD_nth ht4, ← ints_app]
    simp
  have ed : dInts f.depths ++ [.int (((f.depths.getD t 0 : Nat) : Int) + 1)] = dInts (f.bear t).depths := by
    show _ = dInts (f.depths ++ [f.depths.getD t 0 + 1])
    rw [← ints_app]
    rfl
  have ee : (f.broods.set t (f.broods[t] ++ [f.tasks.length])) ++ [[]] = (f.bear t).broods := by
    show _ = (f.broods.set t (f.broods.getD t [] ++ [f.tasks.length])) ++ [[]]
    rw [getD_nth ht4]
  rw [ea, eb, ec, ed]
  refine Ent.trans (G1 := gl X.K a.br (refs qs ++ [.raw (.ref p)]) :: one p (phL' X.K []) :: gb (arrG ((f.broods.set t (f.broods[t] ++ [f.tasks.length])).map (phL' X.K)) qs) :: _) (by (repeat (apply Ent.take; (case h => mi_spec "rem"))); exact Ent.refl _) ?_
  refine Ent.trans (arrM_app (by simp [hq])) ?_
  rw [ee]
  mi_spec "entE"
end
section
variable {P : Program} {w : World} {K : PySem.W.Frag} {mg : Str → Option Value} {base : Heap}
theorem opts_get {ns : List (Option Nat)} {n p : Nat} (h : ns.getD n none = some p) : atI (dOpts ns) ((n : Nat) : Int) = some (.int ((p : Nat) : Int)) := Ly.atI_nat (by
  rw [List.getElem?_map]
  rw [List.getD_eq_getElem?_getD] at h
  cases e : ns[n]? with
  | none => rw [e] at h; cases h
  | some o => rw [e] at h; cases h; rfl)
theorem callRet {X : Cx} {F0 : Hp} {ds : DS} {G G2 : Gs} {A : AE} (h : True) : True := h
theorem ok_kinship {f : Addr} {fd : FuncData} (F : FunD K "kinship" "Family.kinship" (defArgs s_Family_kinship) (defBody s_Family_kinship) (defScope s_Family_kinship) [] [] f fd) (T : Tx K mg) (h_Family_demand : MethAt P w K mg base 1 (He.ga K "Family") "demand" (aFDemand K)) (h_Kin : MakeAt P w K mg base 2 "Kin" (He.ga K "Kin") (aKin K))  : FnOk P w K mg base (L2.CX P w) 4 f fd ["self", "first", "second"] (conc K (aKinship K)) := by
  refine def_ok F sc_Family_kinship nm_Family_kinship (fun es G KN KE ⟨_, _, _, _, e, _⟩ => by rw [e] <;> rfl) ?_
  rintro X F0 es G G2 KN KE rfl rfl rfl rfl rfl c hfn nm rz ⟨a, f, s, t, rfl, rfl, ok, tr, hs, ht, q⟩
  show GSs X F0 _ [some (.raw (.ref a.p)), some (.int (s : Int)), some (.int (t : Int)), none, none, none, none, none, none] (gFam X.K a f ++ G2) _
  simp only [gFam, List.cons_append, List.nil_append, List.append_assoc]
  have c0 := T.c_Family
  have n1 := T.na_Family__tasks
  have n2 := T.na_Family__parents
  have n4 := T.na_Family__depths
  have l1 := ok.l1
  have l3 := ok.l3
  refine xgss_cons (xgs_expr (xge_meth c T.c_Family h_Family_demand (Nat.le_of_ble_eq_true rfl) (xge_nm c nm .here ?_ rfl) rfl rfl rfl) rfl)
  mi_spec "opInsM"
  refine xga_cons (xge_nm c nm (.there .here) (xga_nil ?_) rfl) rfl
  mi_spec "opInsP"
  -- stop: call Family.demand
  refine ⟨gFam X.K a f, _, by mi_spec "ent", a, f, s, rfl, rfl, hs, ?_⟩
  refine xgss_cons (xgs_expr (xge_meth c T.c_Family h_Family_demand (Nat.le_of_ble_eq_true rfl) (xge_nm c nm .here ?_ rfl) rfl rfl rfl) rfl)
  mi_spec "opInsM"
  refine xga_cons (xge_nm c nm (.there (.there .here)) (xga_nil ?_) rfl) rfl
  mi_spec "opInsP"
  -- stop: call Family.demand
  refine ⟨gFam X.K a f, _, by mi_spec "ent", a, f, t, rfl, rfl, ht, ?_⟩
  refine GTS.ent (G1 := gi X.K a.p (cFam X.K) (famFs a) :: gl X.K a.pa (dOpts f.parents) :: gl X.K a.de (dInts f.depths) :: ([gl X.K a.t (dInts f.tasks), gl X.K a.pl (dInts f.places), gA X.K a.br (f.broods.map (phL' X.K))] ++ G2)) (by mi_spec "entE") ?_
  have back : ∀ G', Ent G' (gi X.K a.p (cFam X.K) (famFs a) :: gl X.K a.pa (dOpts f.parents) :: gl X.K a.de (dInts f.depths) :: ([gl X.K a.t (dInts f.tasks), gl X.K a.pl (dInts f.places), gA X.K a.br (f.broods.map (phL' X.K))] ++ G2)) → Ent G' (gFam X.K a f ++ G2) := fun G' en => en.trans (by mi_spec "entE")
  generalize [gl X.K a.t (dInts f.tasks), gl X.K a.pl (dInts f.places), gA X.K a.br (f.broods.map (phL' X.K))] ++ G2 = G3 at back
  refine xgss_cons (xgs_par2 c (.there (.there (.there .here))) (.there (.there (.there (.there .here)))) (by decide) rfl rfl (fun env h => by cases env; cases h; rfl) (xga_cons (xge_nm c nm (.there .here) (xga_cons (xge_nm c nm (.there (.there .here)) (xga_nil ?_) rfl) rfl) rfl) rfl) rfl)
  refine ⟨_, _, rfl, ?_⟩
  refine xgss_cons (xgs_par2 c (.there (.there (.there (.there (.there .here))))) (.there (.there (.there (.there (.there (.there .here)))))) (by decide) rfl rfl (fun env h => by cases env; cases h; rfl) (xga_cons (xge_nm c nm (.there .here) (xga_cons (xge_nm c nm (.there (.there .here)) (xga_nil ?_) rfl) rfl) rfl) rfl) rfl)
  refine ⟨_, _, rfl, ?_⟩
  refine xgss_cons (xgs_asg2 c hfn nm (.there (.there (.there (.there (.there (.there (.there .here))))))) (.there (.there (.there (.there (.there (.there (.there (.there .here)))))))) (xge_int ?_) rfl rfl rfl rfl)
  refine xgss_cons (xgs_while c (fun m ds G => ∃ l r u d lc rc, m = l + r ∧ Wk f s t l r u d lc rc ∧ ds = [some (.raw (.ref a.p)), some (.int (s : Int)), some (.int (t : Int)), some (.int ((l : Nat) : Int)), some (.int ((r : Nat) : Int)), some (.int ((lc : Nat) : Int)), some (.int ((rc : Nat) : Int)), some (.int ((u : Nat) : Int)), some (.int ((d : Nat) : Int))] ∧ Ent G (gi X.K a.p (cFam X.K) (famFs a) :: gl X.K a.pa (dOpts f.parents) :: gl X.K a.de (dInts f.depths) :: G3)) (s + t) ⟨s, t, 0, 0, s, t, rfl, Wk.start hs ht, rfl, Ent.refl _⟩ ?_)
  rintro m ds G' ⟨l, r, u, d, lc, rc, rfl, w, rfl, en⟩
  refine GTT.ent en ?_
  refine xgt_compare (xge_nm c nm (.there (.there (.there .here))) (xge_nm c nm (.there (.there (.there (.there .here)))) ?_ rfl) rfl) (nm_NotEq _)
  -- stop: man left != right
  refine rk_neI ?_
  refine kb ?_
  refine brN ?_ ?_ <;> intro hn
  · have hl3 : l < f.depths.length := by have := w.hl; omega
    have hr3 : r < f.depths.length := by have := w.hr; omega
    have hn' : l ≠ r := fun e => hn (by rw [e])
    refine xgss_cons (xgs_if (xgt_compare (xge_index (xge_fld (xge_nm c nm .here ?_ rfl) rfl) (fun b_ _ _ => by cases b_ <;> exact rfl)) (nm_GtE _)))
    mi_spec "opFld"
    refine xge_nm c nm (.there (.there (.there .here))) ?_ rfl
    -- stop: man self._depths[left]
    refine rk_ixL (lst_own (by mi_spec "foc")) (ints_get hl3) ?_
    refine xge_index (xge_fld (xge_nm c nm .here ?_ rfl) rfl) (fun b_ _ _ => by cases b_ <;> exact rfl)
    mi_spec "opFld"
    refine xge_nm c nm (.there (.there (.there (.there .here)))) ?_ rfl
    -- stop: man self._depths[right]
    refine rk_ixL (lst_own (by mi_spec "foc")) (ints_get hr3) ?_
    -- stop: man self._depths[left] >= self._depths[right]
    refine rk_geI ?_
    refine kb ?_
    -- stop: if
    refine br ?_ ?_ <;> intro hd
    · obtain ⟨p, h1, h2, w2⟩ := w.left ok tr hn' (by omega)
      refine xgss_cons (xgs_asg c hfn nm (.there (.there (.there (.there (.there .here))))) (xge_nm c nm (.there (.there (.there .here))) (xgss_cons (xgs_asg c hfn nm (.there (.there (.there .here))) (xge_index (xge_fld (xge_nm c nm .here ?_ rfl) rfl) (fun b_ _ _ => by cases b_ <;> exact rfl)) rfl rfl)) rfl) rfl rfl)
      mi_spec "opFld"
      refine xge_nm c nm (.there (.there (.there .here))) ?_ rfl
      -- stop: man self._parents[left]
      refine rk_ixL (lst_own (by mi_spec "foc")) (opts_get h2) ?_
      refine xgss_cons (xgs_augN c hfn nm (.there (.there (.there (.there (.there (.there (.there .here))))))) (.there (.there (.there (.there (.there (.there (.there .here))))))) (xge_int ?_) rfl)
      mi_spec "iopAdd"
      refine xgss_nil (xgss_nil ?_)
      exact ⟨p + r, by omega, p, r, u + 1, d, l, rc, rfl, w2, rfl, by mi_spec "entE"⟩
    · obtain ⟨p, h1, h2, w2⟩ := w.right ok tr hn' (by omega)
      refine xgss_cons (xgs_asg c hfn nm (.there (.there (.there (.there (.there (.there .here)))))) (xge_nm c nm (.there (.there (.there (.there .here)))) (xgss_cons (xgs_asg c hfn nm (.there (.there (.there (.there .here)))) (xge_index (xge_fld (xge_nm c nm .here ?_ rfl) rfl) (fun b_ _ _ => by cases b_ <;> exact rfl)) rfl rfl)) rfl) rfl rfl)
      mi_spec "opFld"
      refine xge_nm c nm (.there (.there (.there (.there .here)))) ?_ rfl
      -- stop: man self._parents[right]
      refine rk_ixL (lst_own (by mi_spec "foc")) (opts_get h2) ?_
      refine xgss_cons (xgs_augN c hfn nm (.there (.there (.there (.there (.there (.there (.there (.there .here)))))))) (.there (.there (.there (.there (.there (.there (.there (.there .here)))))))) (xge_int ?_) rfl)
      mi_spec "iopAdd"
      refine xgss_nil (xgss_nil ?_)
      exact ⟨l + p, by omega, l, p, u, d + 1, lc, r, rfl, w2, rfl, by mi_spec "entE"⟩
  · have e : l = r := by omega
    subst e
    have ef := w.fin ok tr hs ht
    obtain ⟨su, sd⟩ := w.small ok tr hs ht
    refine xgss_cons (xgs_if (xgt_val (decide (u = 0 ∨ d = 0)) ?_ ?_))
    · refine xgt_of_w (xgw_or (xgt_compare (xge_nm c nm (.there (.there (.there (.there (.there (.there (.there .here))))))) (xge_int ?_) rfl) (nm_Eq _)))
      mi_spec "opEq"
      refine kb ?_
      -- stop: br xgw_or
      refine br ?_ ?_ <;> intro hc
      · exact ⟨by rw [eq_comm, decide_eq_true_iff]; omega, rfl⟩
      · refine xgw_or1 (xgt_compare (xge_nm c nm (.there (.there (.there (.there (.there (.there (.there (.there .here)))))))) (xge_int ?_) rfl) (nm_Eq _))
        mi_spec "opEq"
        refine kb ?_
        exact ⟨by rw [Bool.eq_iff_iff]; simp; omega, rfl⟩
    refine br ?_ ?_ <;> intro hc
    · refine xgss_cons (xgs_ret (GTE.freezeI ?_))
      refine xge_make c h_Kin (Nat.le_of_ble_eq_true rfl) nm .here (xga_cons (xge_nm c nm (.there (.there (.there (.there (.there (.there (.there .here))))))) (xga_cons (xge_nm c nm (.there (.there (.there (.there (.there (.there (.there (.there .here)))))))) (xga_cons (xge_str (xga_nil ?_)) rfl) rfl) rfl) rfl) rfl) rfl rfl
      -- stop: make Kin
      rw [if_pos hc] at ef
      refine mk_kin (partsOf f.parents s t) (by rw [ef]) (by rw [ef]) (by rw [ef]) ⟨by rw [ef]; show u ≤ 999; omega, by rw [ef]; show d ≤ 999; omega, by rw [ef]; unfold fitsC; rw [if_pos hc]; rfl⟩ ?_
      exact ⟨gFam X.K a f, back _ (by mi_spec "entE"), q⟩
    · refine xgss_nil ?_
      rw [if_neg hc] at ef
      refine xgss_cons (xgs_if (xgt_compare (xge_nm c nm (.there (.there (.there (.there (.there (.there .here)))))) (xge_nm c nm (.there (.there (.there (.there (.there .here))))) ?_ rfl) rfl) (nm_Lt _)))
      mi_spec "opLt"
      refine kb ?_
      -- stop: if
      refine br ?_ ?_ <;> intro hd
      · refine xgss_cons (xgs_ret (GTE.freezeI ?_))
        refine xge_make c h_Kin (Nat.le_of_ble_eq_true rfl) nm .here (xga_cons (xge_nm c nm (.there (.there (.there (.there (.there (.there (.there .here))))))) (xga_cons (xge_nm c nm (.there (.there (.there (.there (.there (.there (.there (.there .here)))))))) (xga_cons (xge_str (xga_nil ?_)) rfl) rfl) rfl) rfl) rfl) rfl rfl
        -- stop: make Kin
        rw [if_pos (by omega)] at ef
        refine mk_kin (partsOf f.parents s t) (by rw [ef]) (by rw [ef]) (by rw [ef]) ⟨by rw [ef]; show u ≤ 999; omega, by rw [ef]; show d ≤ 999; omega, by rw [ef]; unfold fitsC; rw [if_neg hc]; rfl⟩ ?_
        exact ⟨gFam X.K a f, back _ (by mi_spec "entE"), q⟩
      · refine xgss_nil ?_
        refine xgss_cons (xgs_ret (GTE.freezeI ?_))
        refine xge_make c h_Kin (Nat.le_of_ble_eq_true rfl) nm .here (xga_cons (xge_nm c nm (.there (.there (.there (.there (.there (.there (.there .here))))))) (xga_cons (xge_nm c nm (.there (.there (.there (.there (.there (.there (.there (.there .here)))))))) (xga_cons (xge_str (xga_nil ?_)) rfl) rfl) rfl) rfl) rfl) rfl rfl
        -- stop: make Kin
        rw [if_neg (by omega)] at ef
        refine mk_kin (partsOf f.parents s t) (by rw [ef]) (by rw [ef]) (by rw [ef]) ⟨by rw [ef]; show u ≤ 999; omega, by rw [ef]; show d ≤ 999; omega, by rw [ef]; unfold fitsC; rw [if_neg hc]; rfl⟩ ?_
        exact ⟨gFam X.K a f, back _ (by mi_spec "entE"), q⟩
theorem ok_rcall {f : Addr} {fd : FuncData} (F : FunD K "__call__" "Rule.__call__" (defArgs s_Rule___call__) (defBody s_Rule___call__) (defScope s_Rule___call__) [] [] f fd) (T : Tx K mg) (h_Rule___getitem__ : SpecAt P w K mg base 3 (He.ga K "Rule") "__getitem__" (aGetItem K)) (h_Family_kinship : MethAt P w K mg base 4 (He.ga K "Family") "kinship" (aKinship K))  : FnOk P w K mg base (L2.CX P w) 5 f fd ["self", "family", "first", "second"] (conc K (aRCall K)) := by
  refine def_ok F sc_Rule___call__ nm_Rule___call__ (fun es G KN KE ⟨_, _, _, _, _, _, _, e, _⟩ => by rw [e] <;> rfl) ?_
  rintro X F0 es G G2 KN KE rfl rfl rfl rfl rfl c hfn nm rz ⟨a, r, S, b, f, s, t, rfl, rfl, ok, tr, hs, ht, q⟩
  show GSs X F0 _ [some (.raw (.ref a.p)), some (.raw (.ref b.p)), some (.int (s : Int)), some (.int (t : Int))] (gRule X.K a r S ++ gFam X.K b f ++ G2) _
  simp only [gRule, gFam, List.cons_append, List.nil_append, List.append_assoc]
  have c0 := T.c_Family
  have c1 := T.c_Rule
  refine xgss_cons (xgs_ret (xge_index (xge_nm c nm .here (xge_meth c T.c_Family h_Family_kinship (Nat.le_of_ble_eq_true rfl) (xge_nm c nm (.there .here) ?_ rfl) rfl rfl rfl) rfl) (fun b_ _ _ => by cases b_ <;> exact rfl)))
  mi_spec "opInsM"
  refine xga_cons (xge_nm c nm (.there (.there .here)) (xga_cons (xge_nm c nm (.there (.there (.there .here))) (xga_nil ?_) rfl) rfl) rfl) rfl
  mi_spec "opInsP"
  -- stop: call Family.kinship
  refine ⟨gFam X.K b f, _, by mi_spec "ent", b, f, s, t, rfl, rfl, ok, tr, hs, ht, ?_⟩
  -- stop: man self[family.kinship(first, second)]
  refine rk_ixM c h_Rule___getitem__ (Nat.le_of_ble_eq_true rfl) (ins_own (by mi_spec "foc")) ⟨gRule X.K a r S, _, by mi_spec "ent", a, r, S, _, rfl, rfl, ?_⟩
  exact ⟨gRule X.K a r S ++ gFam X.K b f, by mi_spec "entE", q⟩
end
section
variable {P : Program} {w : World} {K : PySem.W.Frag} {mg : Str → Option Value} {base : Heap}
theorem strs_app {zs : List Str} {z : Str} : dStrs zs ++ [.str z] = dStrs (zs ++ [z]) := by simp
theorem bls_app {zs : List Bool} {z : Bool} : dBls zs ++ [.bl z] = dBls (zs ++ [z]) := by simp
theorem ts_app {zs : List (List Nat)} {z : List Nat} : dTs zs ++ [.lst (dInts z)] = dTs (zs ++ [z]) := by simp
theorem keysD_any {ns : List Nat} {n : Nat} : ((keysD ns).any fun kv => decide (kv.1 = (Sum.inl (n : Int) : Key))) = decide (n ∈ ns) := by
  rw [List.any_map, Bool.eq_iff_iff, List.any_eq_true, decide_eq_true_iff]
  constructor
  · rintro ⟨x, hx, h⟩
    have : x = n := by have h2 : ((x : Nat) : Int) = n := by simpa using h
                       omega
    exact this ▸ hx
  · exact fun h => ⟨n, h, by simp⟩
theorem keysD_some {ns : List Nat} {n : Nat} : (valD (keysD ns) (Sum.inl (n : Int) : Key)).isSome = decide (n ∈ ns) := by rw [valD_some, keysD_any]
theorem keysD_put {ns : List Nat} {n : Nat} : putK' (keysD ns) (Sum.inl (n : Int) : Key) (.bl true) = keysD (addK ns n) := by
  unfold putK' addK
  rw [keysD_any]
  by_cases h : n ∈ ns
  · rw [if_pos (by simpa using h), if_pos h]
    rw [List.map_map]
    apply List.map_congr_left
    intro x hx
    show (if (Sum.inl (x : Int) : Key) = Sum.inl (n : Int) then _ else _) = _
    split
    · rename_i e; rfl
    · rfl
  · rw [if_neg (by simpa using h), if_neg h]
    simp
theorem addK_len {ns : List Nat} {n : Nat} : (addK ns n).length ≤ ns.length + 1 := by
  unfold addK
  split <;> simp
theorem setK_len {h : List (List Nat)} {i t : Nat} : (setK h i t).length = h.length := by unfold setK; simp
theorem setK_bound {h : List (List Nat)} {i t B : Nat} (hb : ∀ ks ∈ h, ks.length ≤ B) : ∀ ks ∈ setK h i t, ks.length ≤ B + 1 := by
  intro ks hk
  unfold setK at hk
  rcases List.mem_or_eq_of_mem_set hk with hk | hk
  · have := hb ks hk; omega
  · rw [hk]
    have := @addK_len (h.getD i []) t
    by_cases hi : i < h.length
    · have h2 := hb _ (List.getElem_mem hi)
      rw [getD_nth hi] at this ⊢
      omega
    · rw [List.getD_eq_getElem?_getD, List.getElem?_eq_none (by omega)] at this ⊢
      simp at this ⊢
      omega
theorem arrK_set {Kf : PySem.W.Frag} {h : List (List Nat)} {qs : List Addr} {i t : Nat} (hi : i < qs.length) (hh : i < h.length) : (arrG (h.map (phD Kf)) qs).set i (gdK Kf (qs[i]'hi) (putK' (keysD (h[i]'hh)) (Sum.inl (t : Int) : Key) (.bl true))) = arrG ((setK h i t).map (phD Kf)) qs := by
  rw [keysD_put]
  have := arrM_set (φ := phD Kf) (xs := h) (qs := qs) (i := i) (y := addK (h[i]'hh) t) hi
  unfold setK
  rw [getD_nth hh]
  exact this
theorem ok_state {f : Addr} {fd : FuncData} (F : FunD K "__init__" "State.__init__" (defArgs s_State___init__) (defBody s_State___init__) (defScope s_State___init__) [] [] f fd) (T : Tx K mg) (h_Family : MakeAt P w K mg base 1 "Family" (He.ga K "Family") (aFam K))  : FnOk P w K mg base (L2.CX P w) 3 f fd ["self"] (conc K (aState K)) := by
  refine def_ok F sc_State___init__ nm_State___init__ (fun es G KN KE ⟨_, e, _⟩ => by rw [e] <;> rfl) ?_
  rintro X F0 es G G2 KN KE rfl rfl rfl rfl rfl c hfn nm rz ⟨y, rfl, rfl, q⟩
  show GSs X F0 _ [some (.raw (.ref y))] (gi X.K y (cState X.K) [] :: G2) _
  have c0 := T.c_State
  have n1 := T.na_State_family
  have n2 := T.na_State_phases
  have n3 := T.na_State_awaited
  have n4 := T.na_State_modes
  have n5 := T.na_State_held
  refine xgss_cons (xgs_fld2 (xge_make0 c h_Family (Nat.le_of_ble_eq_true rfl) nm .here ?_) rfl)
  -- stop: make Family
  refine fun z => ⟨[gi X.K z (He.ga X.K "Family") []], _, by mi_spec "ent", z, rfl, rfl, fun t pa pl de br => ⟨rfl, ?_⟩⟩
  refine xge_nm c nm .here ?_ rfl
  mi_spec "opSetFld"
  refine xgss_cons (xgs_fld2 (xge_lst ?_) rfl)
  refine xga_cons (xge_str (xga_nil ?_)) rfl
  refine ⟨Nat.le_of_ble_eq_true rfl, fun l1 => ?_⟩
  refine xge_nm c nm .here ?_ rfl
  mi_spec "opSetFld"
  refine xgss_cons (xgs_fld2 (xge_lst ?_) rfl)
  refine xga_cons (GTE.freeze ?_) st_list
  refine xge_lst ?_
  refine xga_nil ?_
  refine ⟨Nat.le_of_ble_eq_true rfl, fun p => ?_⟩
  refine ⟨_, _, _, rfl, by mi_spec "rem", ?_⟩
  refine xga_nil ?_
  refine ⟨Nat.le_of_ble_eq_true rfl, fun l2 => ?_⟩
  refine xge_nm c nm .here ?_ rfl
  mi_spec "opSetFld"
  refine xgss_cons (xgs_fld2 (xge_lst ?_) rfl)
  refine xga_cons (xge_bl (xga_nil ?_)) rfl
  refine ⟨Nat.le_of_ble_eq_true rfl, fun l3 => ?_⟩
  refine xge_nm c nm .here ?_ rfl
  mi_spec "opSetFld"
  refine xgss_cons (xgs_fld2 (xge_lst ?_) rfl)
  refine xga_cons (xge_dnewK ?_) rfl
  refine fun p => ?_
  refine xga_nil ?_
  refine ⟨Nat.le_of_ble_eq_true rfl, fun l4 => ?_⟩
  refine xge_nm c nm .here ?_ rfl
  mi_spec "opSetFld"
  refine xgss_nil ?_
  have eF : gSt X.K ⟨y, ⟨z, t, pa, pl, de, br⟩, l1, l2, l3, l4⟩ St.zero = gi X.K y (cState X.K) (stFs ⟨y, ⟨z, t, pa, pl, de, br⟩, l1, l2, l3, l4⟩) :: gl X.K l1 [.str "running"] :: gl X.K l2 [.lst []] :: gl X.K l3 [.bl false] :: gA X.K l4 ([[]].map (phD X.K)) :: gFam X.K ⟨z, t, pa, pl, de, br⟩ Fam.zero := rfl
  refine ⟨gSt X.K ⟨y, ⟨z, t, pa, pl, de, br⟩, l1, l2, l3, l4⟩ St.zero, Ent.trans (arrM_one (φ := phD X.K) (y := [])) ?_, q _ l1 l2 l3 l4⟩
  rw [eF]
  mi_spec "entE"
theorem keys_list {ns : List Nat} : ((keysD ns).map fun kv => kD kv.1) = dInts ns := by
  rw [List.map_map]
  rfl
theorem filterR {pr : Nat → Bool} {j : Nat} : (List.range (j + 1)).filter pr = (List.range j).filter pr ++ (if pr j = true then [j] else []) := by
  rw [List.range_succ, List.filter_append]
  congr 1
  rw [List.filter_cons]
  split <;> rfl
abbrev gAdd (K : PySem.W.Frag) (a : StAd) (qs : List Addr) (h : List (List Nat)) (hp kp : Addr) (hs ks : List Nat) (R3 : Gs) : Gs := gl K a.he (refs qs) :: gb (arrG (h.map (phD K)) qs) :: gi K a.p (cState K) (stFs a) :: gl K hp (dInts hs) :: gl K kp (dInts ks) :: R3
theorem fold_bound {l : List Nat} {i : Nat} : ∀ {h : List (List Nat)} {B : Nat}, (∀ ks ∈ h, ks.length ≤ B) → ∀ ks ∈ l.foldl (fun h t => setK h i t) h, ks.length ≤ B + l.length := by
  induction l with
  | nil => exact fun hb => hb
  | cons x l ih =>
    intro h B hb ks hk
    have := ih (setK_bound (i := i) (t := x) hb) ks hk
    simp
    omega
theorem fold_bound2 {l : List Nat} {i : Nat} : ∀ {h : List (List Nat)} {B : Nat}, (∀ ks ∈ h, ks.length ≤ B) → ∀ ks ∈ l.foldl (fun h t => setK h t i) h, ks.length ≤ B + l.length := by
  induction l with
  | nil => exact fun hb => hb
  | cons x l ih =>
    intro h B hb ks hk
    have := ih (setK_bound (i := x) (t := i) hb) ks hk
    simp
    omega
theorem fold_len {l : List Nat} {i : Nat} : ∀ {h : List (List Nat)}, (l.foldl (fun h t => setK h i t) h).length = h.length := by
  induction l with
  | nil => exact rfl
  | cons x l ih => exact ih.trans setK_len
theorem fold_len2 {l : List Nat} {i : Nat} : ∀ {h : List (List Nat)}, (l.foldl (fun h t => setK h t i) h).length = h.length := by
  induction l with
  | nil => exact rfl
  | cons x l ih => exact ih.trans setK_len
theorem ok_add {f : Addr} {fd : FuncData} (F : FunD K "add" "State.add" (defArgs s_State_add) (defBody s_State_add) (defScope s_State_add) [] [] f fd) (T : Tx K mg) (h_Family_bear : MethAt P w K mg base 2 (He.ga K "Family") "bear" (aFBear K))  : FnOk P w K mg base (L2.CX P w) 3 f fd ["self", "parent", "hands"] (conc K (aAdd K)) := by
  refine def_ok F sc_State_add nm_State_add (fun es G KN KE ⟨_, _, _, _, e, _⟩ => by rw [e] <;> rfl) ?_
  rintro X F0 es G G2 KN KE rfl rfl rfl rfl rfl c hfn nm rz ⟨a, s, f, par, rfl, rfl, ok, hp, hl, q⟩
  show GSs X F0 _ [some (.raw (.ref a.p)), some (.int (par : Int)), some (handV X.K f), none, none, none, none] (gSt X.K a s ++ G2) _
  simp only [gSt, List.cons_append, List.nil_append, List.append_assoc]
  have c0 := T.c_State
  have c1 := T.c_Family
  have c2 := T.c_Hands
  have n1 := T.na_State_family
  have n2 := T.na_State_phases
  have n3 := T.na_State_awaited
  have n4 := T.na_State_modes
  have n5 := T.na_State_held
  have m1 := T.na_Hands_keeps
  have m2 := T.na_Hands_greets
  have m3 := T.na_Hands_inherits
  have m4 := T.na_Hands_told
  have l1 := ok.l1
  have l2 := ok.l2
  have l3 := ok.l3
  have l4 := ok.l4
  have hb := ok.hb
  refine openA (φ := phD X.K) (xs := s.held) (by mi_spec "rem") fun qs hq => ?_
  refine xgss_cons (xgs_setLc c (.there (.there (.there .here))) (by decide +kernel) rfl rfl (by decide +kernel) (lcOk_by (by decide +kernel)) (src_R1 c nm .here T.mrange rfl (fun _ => rfl)) (by decide) (xgt_lcR1 c (.there (.there (.there (.there (.there (.there .here)))))) (xga_cons (xge_callB c nm (.there .here) T.mlen bt_len (xga_cons (xge_fld (xge_nm c nm .here ?_ rfl) rfl) rfl) rfl rfl) rfl)))
  mi_spec "opFld"
  refine xga_nil ?_
  mi_spec "rl_len"
  refine xga_nil ?_
  -- stop: comp [task for task in range(len(self.held)) if parent in self.held[task]]
  refine ⟨_, rfl, ⟨by simp, by simp; omega⟩, LcR.same (fun j acc => acc = dInts ((List.range j).filter fun t => decide (par ∈ s.held.getD t []))) rfl ?_ ?_⟩
  · rintro j acc pp hj rfl
    have hj1 : j < s.held.length := by simp at hj; omega
    have hj2 : j < qs.length := by omega
    rw [Int.zero_add]
    intro s' H env fp fnv c'
    have vm := vmOk_of c' (Gn := []) (vis := [0, 1, 6]) (by decide +kernel)
    refine xgt_din c' (xge_vm c' vm (.there .here) (xge_index (xge_fld (xge_vm c' vm .here ?_ rfl) rfl) (fun b_ _ _ => by cases b_ <;> exact rfl)) rfl) rfl
    mi_spec "opFld"
    refine xge_vm c' vm (.there (.there (.there (.there (.there (.there .here)))))) ?_ rfl
    -- stop: man self.held[task]
    refine rk_ixL (lst_own (by mi_spec "foc")) (arr_ref hj2) ?_
    -- stop: in dict
    refine ⟨_, _, rfl, LookD.k (k := Sum.inl (par : Int)) (by mi_spec "foc"), ?_⟩
    rw [keysD_some]
    have ef := @filterR (fun t => decide (par ∈ s.held.getD t [])) j
    have eg : s.held.getD j [] = s.held[j] := getD_nth hj1
    refine br ?_ ?_ <;> intro hm
    · intro s' H env fp fnv c'
      have vm := vmOk_of c' (Gn := []) (vis := [0, 1, 6]) (by decide +kernel)
      refine xge_vm c' vm (.there (.there (.there (.there (.there (.there .here)))))) ?_ rfl
      have hlen := List.length_filter_le (fun t => decide (par ∈ s.held.getD t [])) (List.range j)
      rw [List.length_range] at hlen
      refine ⟨_, Ent.refl _, by have := ok.fam.small; rw [List.length_map]; omega, ?_, Ent.refl _⟩
      rw [ef, if_pos (by rw [eg]; exact decide_eq_true hm)]
      simp
    · refine ⟨_, Ent.refl _, ?_, Ent.refl _⟩
      rw [ef, if_neg (by rw [eg]; simpa using hm), List.append_nil]
  · rintro hp' acc G' rfl en
    have e0 : ((refs qs).length : Int).toNat = s.held.length := by simp [hq]
    rw [e0]
    refine GTS.ent (Ent.cons _ en) ?_
    have hp1 : par < s.held.length := by omega
    have hp2 : par < qs.length := by omega
    have hsm := ok.fam.small
    refine xgss_cons (xgs_asg c hfn nm (.there (.there (.there (.there .here)))) (xge_callTy c nm (.there (.there .here)) T.mlist bt_list (xga_cons (xge_index (xge_fld (xge_nm c nm .here ?_ rfl) rfl) (fun b_ _ _ => by cases b_ <;> exact rfl)) rfl) rfl rfl) rfl rfl)
    mi_spec "opFld"
    refine xge_nm c nm (.there .here) ?_ rfl
    -- stop: man self.held[parent]
    refine rk_ixL (lst_own (by mi_spec "foc")) (arr_ref hp2) ?_
    refine xga_nil ?_
    mi_spec "rl_list"
    refine fun l1 => ?_
    rw [keys_list]
    refine xgss_cons (xgs_asg c hfn nm (.there (.there (.there (.there (.there .here))))) (xge_meth c T.c_Family h_Family_bear (Nat.le_of_ble_eq_true rfl) (xge_fld (xge_nm c nm .here ?_ rfl) rfl) rfl rfl rfl) rfl rfl)
    mi_spec "opFld"
    mi_spec "opInsM"
    refine xga_cons (xge_nm c nm (.there .here) (xga_nil ?_) rfl) rfl
    mi_spec "opInsP"
    -- stop: call Family.bear
    refine ⟨gFam X.K a.fam s.fam, _, by mi_spec "ent", a.fam, s.fam, par, rfl, rfl, ok.fam, hp, hl, ?_⟩
    refine xgss_cons (xgs_expr (xge_bm PySem.F.plainAttrs_list PySem.F.slot_list_append PySem.F.type_list_append mt_append (xge_fld (xge_nm c nm .here ?_ rfl) rfl) rfl rfl rfl rfl rfl) rfl)
    mi_spec "opFld"
    mi_spec "opTy"
    refine xga_cons (xge_str (xga_nil ?_)) rfl
    mi_spec "rm_append"
    · simp; omega
    refine xgss_cons (xgs_expr (xge_bm PySem.F.plainAttrs_list PySem.F.slot_list_append PySem.F.type_list_append mt_append (xge_fld (xge_nm c nm .here ?_ rfl) rfl) rfl rfl rfl rfl rfl) rfl)
    mi_spec "opFld"
    mi_spec "opTy"
    refine xga_cons (GTE.freeze ?_) st_list
    refine xge_lst ?_
    refine xga_nil ?_
    refine ⟨Nat.le_of_ble_eq_true rfl, fun p => ?_⟩
    refine ⟨_, _, _, rfl, by mi_spec "rem", ?_⟩
    refine xga_nil ?_
    mi_spec "rm_append"
    · simp; omega
    refine xgss_cons (xgs_expr (xge_bm PySem.F.plainAttrs_list PySem.F.slot_list_append PySem.F.type_list_append mt_append (xge_fld (xge_nm c nm .here ?_ rfl) rfl) rfl rfl rfl rfl rfl) rfl)
    mi_spec "opFld"
    mi_spec "opTy"
    refine xga_cons (xge_bl (xga_nil ?_)) rfl
    mi_spec "rm_append"
    · simp; omega
    refine xgss_cons (xgs_expr (xge_bm PySem.F.plainAttrs_list PySem.F.slot_list_append PySem.F.type_list_append mt_append (xge_fld (xge_nm c nm .here ?_ rfl) rfl) rfl rfl rfl rfl rfl) rfl)
    mi_spec "opFld"
    mi_spec "opTy"
    refine xga_cons (xge_dnewK ?_) rfl
    refine fun p => ?_
    refine xga_nil ?_
    mi_spec "rm_append"
    · simp; omega
    rw [strs_app, bls_app, show [D.lst []] = [D.lst (dInts [])] from rfl, ts_app]
    refine GTS.ent (Ent.trans (G1 := gl X.K a.he (refs qs ++ [.raw (.ref p)]) :: gdK X.K p [] :: gb (arrG (s.held.map (phD X.K)) qs) :: _) (by (apply Ent.take; (case h => mi_spec "rem")); (apply Ent.take; (case h => mi_spec "rem")); (apply Ent.take; (case h => mi_spec "rem")); exact Ent.refl _) (arrM_app (φ := phD X.K) (y := []) hq)) ?_
    refine openA (φ := phD X.K) (xs := s.held ++ [[]]) (by mi_spec "rem") fun qs2 hq2 => ?_
    have hl2 : (s.held ++ [[]]).length = s.fam.tasks.length + 1 := by simp; omega
    have hgd : s.held.getD par [] = s.held[par] := getD_nth hp1
    refine GTS.ent (G1 := gAdd X.K a qs2 (s.held ++ [[]]) hp' l1 ((List.range s.held.length).filter fun t => decide (par ∈ s.held.getD t [])) (s.held[par]) (gl X.K a.ph (dStrs (s.phases ++ [("running" : Str)])) :: gl X.K a.aw (dTs (s.awaited ++ [[]])) :: gl X.K a.mo (dBls (s.modes ++ [false])) :: (gFam X.K a.fam (s.fam.bear par) ++ G2))) (by mi_spec "entE") ?_
    have back : ∀ G' h, h = (s.add par f).held → Ent G' (gAdd X.K a qs2 h hp' l1 ((List.range s.held.length).filter fun t => decide (par ∈ s.held.getD t [])) (s.held[par]) (gl X.K a.ph (dStrs (s.phases ++ [("running" : Str)])) :: gl X.K a.aw (dTs (s.awaited ++ [[]])) :: gl X.K a.mo (dBls (s.modes ++ [false])) :: (gFam X.K a.fam (s.fam.bear par) ++ G2))) → qs2.length = h.length → Ent G' (gSt X.K a (s.add par f) ++ G2) := by
      intro G' h eh en hl
      subst eh
      have eS : gSt X.K a (s.add par f) = gi X.K a.p (cState X.K) (stFs a) :: gl X.K a.ph (dStrs (s.phases ++ [("running" : Str)])) :: gl X.K a.aw (dTs (s.awaited ++ [[]])) :: gl X.K a.mo (dBls (s.modes ++ [false])) :: gA X.K a.he ((s.add par f).held.map (phD X.K)) :: gFam X.K a.fam (s.fam.bear par) := rfl
      rw [eS]
      exact (en.trans (closeA hl)).trans (by mi_spec "entE")
    generalize (gl X.K a.ph (dStrs (s.phases ++ [("running" : Str)])) :: gl X.K a.aw (dTs (s.awaited ++ [[]])) :: gl X.K a.mo (dBls (s.modes ++ [false])) :: (gFam X.K a.fam (s.fam.bear par) ++ G2)) = R3 at back
    have hkn : (s.held[par]).length ≤ 600 := hb _ (List.getElem_mem hp1)
    have hho : ((List.range s.held.length).filter fun t => decide (par ∈ s.held.getD t [])).length ≤ 600 := by
      have := List.length_filter_le (fun t => decide (par ∈ s.held.getD t [])) (List.range s.held.length)
      rw [List.length_range] at this
      omega
    have hhm : ∀ t ∈ (List.range s.held.length).filter fun t => decide (par ∈ s.held.getD t []), t < s.fam.tasks.length := fun t ht => by
      have := List.mem_range.mp (List.mem_filter.mp ht).1
      omega
    generalize ehs : ((List.range s.held.length).filter fun t => decide (par ∈ s.held.getD t [])) = hs at back hho hhm
    have hb0 : ∀ ks ∈ s.held ++ [[]], ks.length ≤ 600 := fun ks hk => by
      rcases List.mem_append.mp hk with hk | hk
      · exact hb ks hk
      · have : ks = [] := by simpa using hk
        rw [this]
        simp
    have e1 : (s.add par f).held = heldAdd s.held par s.fam.tasks.length f := rfl
    unfold heldAdd at e1
    simp only [] at e1
    rw [ehs, hgd] at e1
    generalize s.held ++ [[]] = h0 at e1 hl2 hb0 hq2
    -- the end
    have k18 : ∀ h G' o, h = (s.add par f).held → h.length = s.fam.tasks.length + 1 → Ent G' (gAdd X.K a qs2 h hp' l1 hs (s.held[par]) R3) → GSs X F0 ((defBody s_State_add).drop 11) [some (.raw (.ref a.p)), some (.int (par : Int)), some (handV X.K f), some (.raw (.ref hp')), some (.raw (.ref l1)), some (.int (s.fam.tasks.length : Int)), o] G' (bodyA KN G2) := by
      intro h G' o eh hlen en
      refine xgss_cons (xgs_ret (xge_nm c nm (.there (.there (.there (.there (.there .here))))) ?_ rfl))
      exact ⟨gSt X.K a (s.add par f), back G' h eh en (by omega), q⟩
    -- told
    have k15 : ∀ h3 G' o, (s.add par f).held = (if f.told = true then hs.foldl (fun h t => setK h t s.fam.tasks.length) h3 else h3) → h3.length = s.fam.tasks.length + 1 → (∀ ks ∈ h3, ks.length ≤ 1300) → Ent G' (gAdd X.K a qs2 h3 hp' l1 hs (s.held[par]) R3) → GSs X F0 ((defBody s_State_add).drop 10) [some (.raw (.ref a.p)), some (.int (par : Int)), some (handV X.K f), some (.raw (.ref hp')), some (.raw (.ref l1)), some (.int (s.fam.tasks.length : Int)), o] G' (bodyA KN G2) := by
      intro h3 G' o eh hlen hb3 en
      refine xgss_cons (xgs_if (xgt_tru (fun _ => rfl) (xge_fld (xge_nm c nm (.there (.there .here)) ?_ rfl) rfl)))
      mi_spec "opFld"
      mi_spec "opTru"
      -- stop: if
      refine brB ?_ ?_ <;> intro hf
      · refine xgss_cons (xgs_forL c hfn (.there (.there (.there (.there (.there (.there .here)))))) (nm.loc (.there (.there (.there (.there (.there (.there .here)))))) rfl) (xge_nm c nm (.there (.there (.there .here))) ?_ rfl) (fun _ => rfl))
        -- stop: for
        refine ⟨dInts hs, ForL.chg (fun j => gAdd X.K a qs2 ((hs.take j).foldl (fun h t => setK h t s.fam.tasks.length) h3) hp' l1 hs (s.held[par]) R3) (fun j ds' => ∃ o, ds' = [some (.raw (.ref a.p)), some (.int (par : Int)), some (handV X.K f), some (.raw (.ref hp')), some (.raw (.ref l1)), some (.int (s.fam.tasks.length : Int)), o]) (fun j _ => lst_own (by mi_spec "foc")) ⟨_, rfl⟩ en ?_ ?_⟩
        · rintro j y ds' hy ⟨o, rfl⟩
          obtain ⟨n, hn, rfl⟩ := dInts_at hy
          have hn1 := hhm n (List.mem_of_getElem? hn)
          have hbj := fold_bound2 (l := hs.take j) (i := s.fam.tasks.length) hb3
          have hlj := @fold_len2 (hs.take j) s.fam.tasks.length h3
          have hlt : (hs.take j).length ≤ hs.length := by rw [List.length_take]; omega
          have en : (hs.take (j + 1)).foldl (fun h t => setK h t s.fam.tasks.length) h3 = setK ((hs.take j).foldl (fun h t => setK h t s.fam.tasks.length) h3) n s.fam.tasks.length := by
            rw [List.take_succ, hn, List.foldl_append]
            rfl
          rw [en]
          generalize (hs.take j).foldl (fun h t => setK h t s.fam.tasks.length) h3 = hh at hbj hlj
          have hi1 : n < qs2.length := by omega
          have hi2 : n < hh.length := by omega
          have hqq : qs2.length = hh.length := by omega
          have hbn := hbj _ (List.getElem_mem hi2)
          refine xgss_cons (xgs_dput c (xge_bl (xge_index (xge_fld (xge_nm c nm .here ?_ rfl) rfl) (fun b_ _ _ => by cases b_ <;> exact rfl))) rfl)
          mi_spec "opFld"
          refine xge_nm c nm (.there (.there (.there (.there (.there (.there .here)))))) ?_ rfl
          -- stop: man self.held[task]
          refine rk_ixL (lst_own (by mi_spec "foc")) (arr_ref hi1) ?_
          refine xge_nm c nm (.there (.there (.there (.there (.there .here))))) ?_ rfl
          -- stop: dput
          refine ⟨_, _, rfl, PutD.k (k := Sum.inl (s.fam.tasks.length : Int)) (by mi_spec "foc") (by simp; omega), ?_⟩
          rw [arrK_set hi1 hi2]
          refine xgss_nil ?_
          exact ⟨⟨_, rfl⟩, Ent.refl _⟩
        · rintro ds' G' ⟨o, rfl⟩ en
          refine xgss_nil ?_
          refine k18 _ _ _ ?_ ?_ en
          · rw [eh, if_pos hf, show (dInts hs).length = hs.length by simp, List.take_of_length_le (Nat.le_refl _)]
          · rw [fold_len2, hlen]
      · exact xgss_nil (k18 h3 G' o (by rw [eh, if_neg (by rw [hf]; decide)]) hlen en)
    -- inherits
    have k12 : ∀ h2 G' o, (∀ h3, h3 = (if f.inherits = true then (s.held[par]).foldl (fun h t => setK h s.fam.tasks.length t) h2 else h2) → (s.add par f).held = (if f.told = true then hs.foldl (fun h t => setK h t s.fam.tasks.length) h3 else h3)) → h2.length = s.fam.tasks.length + 1 → (∀ ks ∈ h2, ks.length ≤ 602) → Ent G' (gAdd X.K a qs2 h2 hp' l1 hs (s.held[par]) R3) → GSs X F0 ((defBody s_State_add).drop 9) [some (.raw (.ref a.p)), some (.int (par : Int)), some (handV X.K f), some (.raw (.ref hp')), some (.raw (.ref l1)), some (.int (s.fam.tasks.length : Int)), o] G' (bodyA KN G2) := by
      intro h2 G' o eh hlen hb2 en
      refine xgss_cons (xgs_if (xgt_tru (fun _ => rfl) (xge_fld (xge_nm c nm (.there (.there .here)) ?_ rfl) rfl)))
      mi_spec "opFld"
      mi_spec "opTru"
      -- stop: if
      refine brB ?_ ?_ <;> intro hf
      · refine xgss_cons (xgs_forL c hfn (.there (.there (.there (.there (.there (.there .here)))))) (nm.loc (.there (.there (.there (.there (.there (.there .here)))))) rfl) (xge_nm c nm (.there (.there (.there (.there .here)))) ?_ rfl) (fun _ => rfl))
        -- stop: for
        refine ⟨dInts s.held[par], ForL.chg (fun j => gAdd X.K a qs2 (((s.held[par]).take j).foldl (fun h t => setK h s.fam.tasks.length t) h2) hp' l1 hs (s.held[par]) R3) (fun j ds' => ∃ o, ds' = [some (.raw (.ref a.p)), some (.int (par : Int)), some (handV X.K f), some (.raw (.ref hp')), some (.raw (.ref l1)), some (.int (s.fam.tasks.length : Int)), o]) (fun j _ => lst_own (by mi_spec "foc")) ⟨_, rfl⟩ en ?_ ?_⟩
        · rintro j y ds' hy ⟨o, rfl⟩
          obtain ⟨n, hn, rfl⟩ := dInts_at hy
          have hbj := fold_bound (l := (s.held[par]).take j) (i := s.fam.tasks.length) hb2
          have hlj := @fold_len ((s.held[par]).take j) s.fam.tasks.length h2
          have hlt : ((s.held[par]).take j).length ≤ (s.held[par]).length := by rw [List.length_take]; omega
          have en : ((s.held[par]).take (j + 1)).foldl (fun h t => setK h s.fam.tasks.length t) h2 = setK (((s.held[par]).take j).foldl (fun h t => setK h s.fam.tasks.length t) h2) s.fam.tasks.length n := by
            rw [List.take_succ, hn, List.foldl_append]
            rfl
          rw [en]
          generalize ((s.held[par]).take j).foldl (fun h t => setK h s.fam.tasks.length t) h2 = hh at hbj hlj
          have hi1 : s.fam.tasks.length < qs2.length := by omega
          have hi2 : s.fam.tasks.length < hh.length := by omega
          have hqq : qs2.length = hh.length := by omega
          have hbn := hbj _ (List.getElem_mem hi2)
          refine xgss_cons (xgs_dput c (xge_bl (xge_index (xge_fld (xge_nm c nm .here ?_ rfl) rfl) (fun b_ _ _ => by cases b_ <;> exact rfl))) rfl)
          mi_spec "opFld"
          refine xge_nm c nm (.there (.there (.there (.there (.there .here))))) ?_ rfl
          -- stop: man self.held[child]
          refine rk_ixL (lst_own (by mi_spec "foc")) (arr_ref hi1) ?_
          refine xge_nm c nm (.there (.there (.there (.there (.there (.there .here)))))) ?_ rfl
          -- stop: dput
          refine ⟨_, _, rfl, PutD.k (k := Sum.inl (n : Int)) (by mi_spec "foc") (by simp; omega), ?_⟩
          rw [arrK_set hi1 hi2]
          refine xgss_nil ?_
          exact ⟨⟨_, rfl⟩, Ent.refl _⟩
        · rintro ds' G' ⟨o, rfl⟩ en
          refine xgss_nil ?_
          rw [show (dInts s.held[par]).length = (s.held[par]).length by simp, List.take_of_length_le (Nat.le_refl _)] at en
          refine k15 _ _ _ (eh _ ?_) ?_ ?_ en
          · rw [if_pos hf]
          · rw [fold_len, hlen]
          · intro ks hk
            have := fold_bound hb2 ks hk
            omega
      · exact xgss_nil (k15 h2 G' o (eh _ (by rw [if_neg (by rw [hf]; decide)])) hlen (fun ks hk => by have := hb2 ks hk; omega) en)
    -- greets
    have k10 : ∀ h1 G' o, (∀ h2, h2 = (if f.greets = true then setK h1 s.fam.tasks.length par else h1) → ∀ h3, h3 = (if f.inherits = true then (s.held[par]).foldl (fun h t => setK h s.fam.tasks.length t) h2 else h2) → (s.add par f).held = (if f.told = true then hs.foldl (fun h t => setK h t s.fam.tasks.length) h3 else h3)) → h1.length = s.fam.tasks.length + 1 → (∀ ks ∈ h1, ks.length ≤ 601) → Ent G' (gAdd X.K a qs2 h1 hp' l1 hs (s.held[par]) R3) → GSs X F0 ((defBody s_State_add).drop 8) [some (.raw (.ref a.p)), some (.int (par : Int)), some (handV X.K f), some (.raw (.ref hp')), some (.raw (.ref l1)), some (.int (s.fam.tasks.length : Int)), o] G' (bodyA KN G2) := by
      intro h1 G' o eh hlen hb1 en
      refine GTS.ent en ?_
      refine xgss_cons (xgs_if (xgt_tru (fun _ => rfl) (xge_fld (xge_nm c nm (.there (.there .here)) ?_ rfl) rfl)))
      mi_spec "opFld"
      mi_spec "opTru"
      -- stop: if
      refine brB ?_ ?_ <;> intro hf
      · have hi1 : s.fam.tasks.length < qs2.length := by omega
        have hi2 : s.fam.tasks.length < h1.length := by omega
        have hqq : qs2.length = h1.length := by omega
        have hbn := hb1 _ (List.getElem_mem hi2)
        refine xgss_cons (xgs_dput c (xge_bl (xge_index (xge_fld (xge_nm c nm .here ?_ rfl) rfl) (fun b_ _ _ => by cases b_ <;> exact rfl))) rfl)
        mi_spec "opFld"
        refine xge_nm c nm (.there (.there (.there (.there (.there .here))))) ?_ rfl
        -- stop: man self.held[child]
        refine rk_ixL (lst_own (by mi_spec "foc")) (arr_ref hi1) ?_
        refine xge_nm c nm (.there .here) ?_ rfl
        -- stop: dput
        refine ⟨_, _, rfl, PutD.k (k := Sum.inl (par : Int)) (by mi_spec "foc") (by simp; omega), ?_⟩
        rw [arrK_set hi1 hi2]
        refine xgss_nil ?_
        exact k12 _ _ _ (eh _ (by rw [if_pos hf])) (by rw [setK_len, hlen]) (fun ks hk => setK_bound hb1 ks hk) (Ent.refl _)
      · exact xgss_nil (k12 h1 _ o (eh _ (by rw [if_neg (by rw [hf]; decide)])) hlen (fun ks hk => by have := hb1 ks hk; omega) (Ent.refl _))
    refine xgss_cons (xgs_if (xgt_tru (fun _ => rfl) (xge_fld (xge_nm c nm (.there (.there .here)) ?_ rfl) rfl)))
    mi_spec "opFld"
    mi_spec "opTru"
    -- stop: if
    refine brB ?_ ?_ <;> intro hf
    · have hi1 : par < qs2.length := by omega
      have hi2 : par < h0.length := by omega
      have hbn := hb0 _ (List.getElem_mem hi2)
      refine xgss_cons (xgs_dput c (xge_bl (xge_index (xge_fld (xge_nm c nm .here ?_ rfl) rfl) (fun b_ _ _ => by cases b_ <;> exact rfl))) rfl)
      mi_spec "opFld"
      refine xge_nm c nm (.there .here) ?_ rfl
      -- stop: man self.held[parent]
      refine rk_ixL (lst_own (by mi_spec "foc")) (arr_ref hi1) ?_
      refine xge_nm c nm (.there (.there (.there (.there (.there .here))))) ?_ rfl
      -- stop: dput
      refine ⟨_, _, rfl, PutD.k (k := Sum.inl (s.fam.tasks.length : Int)) (by mi_spec "foc") (by simp; omega), ?_⟩
      rw [arrK_set hi1 hi2]
      refine xgss_nil ?_
      refine k10 _ _ _ ?_ (by rw [setK_len, hl2]) (fun ks hk => setK_bound hb0 ks hk) (Ent.refl _)
      rintro h2 rfl h3 rfl
      rw [e1, if_pos (show f.keeps = true from hf)]
    · refine xgss_nil (k10 h0 _ _ ?_ hl2 (fun ks hk => by have := hb0 ks hk; omega) (Ent.refl _))
      rintro h2 rfl h3 rfl
      rw [e1, if_neg (show ¬ f.keeps = true by rw [hf]; decide)]
end
abbrev gRtx (K : PySem.W.Frag) (a : RtAd) (r : Rt) : Gs := gi K a.p (cRt K) (rtFs K a r) :: gSt K a.st r.st
abbrev everyF : Flags := ⟨true, true, true, true⟩
def handD (K : PySem.W.Frag) : Option Flags → D
  | none => .non
  | some f => handV K f
/-- Runtime(rule, hands=.., limit=..) -/
abbrev aRt (K : PySem.W.Frag) : ASp := fun es G KN _ => ∃ y a r S h, ∃ l : Nat, es = [.raw (.ref y), .raw (.ref (RuleAd.p a)), handD K h, .int (l : Int)] ∧ G = gi K y (cRt K) [] :: gRule K a r S ∧ RuleOk r S ∧ 1 ≤ l ∧ l ≤ 600 ∧ ∀ a' st S', (∀ c, c ∈ S' ↔ c ∈ S) → S'.length ≤ S.length + 80 → KN .non (gRt K ⟨y, a', st⟩ ⟨r, S', h.getD everyF, l, St.zero⟩ ++ gRule K a r S)
abbrev aRLen (K : PySem.W.Frag) : ASp := fun es G KN _ => ∃ a r, es = [.raw (.ref (RtAd.p a))] ∧ G = gRtx K a r ∧ r.st.phases.length ≤ 600 ∧ KN (.int (r.st.phases.length : Int)) (gRtx K a r)
abbrev aRDemand (K : PySem.W.Frag) : ASp := fun es G KN _ => ∃ a r, ∃ t : Nat, es = [.raw (.ref (RtAd.p a)), .int (t : Int)] ∧ G = gRtx K a r ∧ t < r.st.phases.length ∧ KN .non (gRtx K a r)
abbrev aRDRun (K : PySem.W.Frag) : ASp := fun es G KN _ => ∃ a r, ∃ t : Nat, es = [.raw (.ref (RtAd.p a)), .int (t : Int)] ∧ G = gRtx K a r ∧ t < r.st.phases.length ∧ r.st.phases.getD t ⟨#[]⟩ = ("running" : Str) ∧ KN .non (gRtx K a r)
abbrev aInPhase (K : PySem.W.Frag) : ASp := fun es G KN _ => ∃ a r z, es = [.raw (.ref (RtAd.p a)), .str z] ∧ G = gRtx K a r ∧ r.st.phases.length ≤ 600 ∧ ∀ p, KN (.raw (.ref p)) (gl K p (dInts (phL r.st.phases z r.st.phases.length)) :: gRtx K a r)
abbrev aRunning (K : PySem.W.Frag) : ASp := fun es G KN _ => ∃ a r, es = [.raw (.ref (RtAd.p a))] ∧ G = gRtx K a r ∧ r.st.phases.length ≤ 600 ∧ ∀ p, KN (.raw (.ref p)) (gl K p (dInts (phL r.st.phases "running" r.st.phases.length)) :: gRtx K a r)
abbrev aRPhase (K : PySem.W.Frag) : ASp := fun es G KN _ => ∃ a r, ∃ t : Nat, es = [.raw (.ref (RtAd.p a)), .int (t : Int)] ∧ G = gRtx K a r ∧ t < r.st.phases.length ∧ KN (.str (r.st.phases.getD t ⟨#[]⟩)) (gRtx K a r)
abbrev aRTargets (K : PySem.W.Frag) : ASp := fun es G KN _ => ∃ a r, ∃ t : Nat, es = [.raw (.ref (RtAd.p a)), .int (t : Int)] ∧ G = gRtx K a r ∧ t < r.st.phases.length ∧ t < r.st.awaited.length ∧ ∀ p, KN (.raw (.ref p)) (gl K p (dInts (r.st.awaited.getD t [])) :: gRtx K a r)
def Rt.withSt (r : Rt) (s : St) : Rt := ⟨r.reach, r.S, r.hands, r.limit, s⟩
abbrev aRBear (K : PySem.W.Frag) : ASp := fun es G KN _ => ∃ a r, ∃ t : Nat, es = [.raw (.ref (RtAd.p a)), .int (t : Int)] ∧ G = gRtx K a r ∧ r.st.Ok ∧ t < r.st.phases.length ∧ r.st.phases.getD t ⟨#[]⟩ = ("running" : Str) ∧ r.st.phases.length < r.limit ∧ r.limit ≤ 600 ∧ KN (.int (r.st.fam.tasks.length : Int)) (gRtx K a (r.withSt (r.st.add t r.hands)))
def St.hall (s : St) : Hall := ⟨[], s.phases, s.awaited, s.modes⟩
def St.wait (s : St) (t : Nat) (m : Bool) (ts : List Nat) : St := if overB m ts (endB s.phases) = true then s else ⟨s.fam, s.phases.set t "waiting", s.awaited.set t ts, s.modes.set t m, s.held⟩
def St.fin (s : St) (t : Nat) : St := ⟨s.fam, (s.hall.fin t).phases, (s.hall.fin t).awaited, (s.hall.fin t).modes, s.held⟩
structure WaitOk (r : Rt) (t : Nat) (ts : List Nat) : Prop where
  run : r.st.phases.getD t ⟨#[]⟩ = ("running" : Str)
  ne : 0 < ts.length
  sm : ts.length ≤ 100
  lt : ∀ i ∈ ts, i < r.st.fam.tasks.length
  held : ∀ i ∈ ts, i ∈ r.st.held.getD t []
  lets : ∀ i ∈ ts, capC r.reach (partsOf r.st.fam.parents t i) ∈ r.S
abbrev aRWait (K : PySem.W.Frag) : ASp := fun es G KN _ => ∃ a r, ∃ t : Nat, ∃ m ts, es = [.raw (.ref (RtAd.p a)), .int (t : Int), .bl m, .tup (dInts ts)] ∧ G = gRt K a r ∧ r.st.Ok ∧ t < r.st.fam.tasks.length ∧ WaitOk r t ts ∧ KN (.bl (overB m ts (endB r.st.phases))) (gRt K a (r.withSt (r.st.wait t m ts)))
abbrev aREnd (K : PySem.W.Frag) : ASp := fun es G KN _ => ∃ a r, ∃ t : Nat, es = [.raw (.ref (RtAd.p a)), .int (t : Int)] ∧ G = gRtx K a r ∧ r.st.Ok ∧ t < r.st.phases.length ∧ r.st.phases.getD t ⟨#[]⟩ = ("running" : Str) ∧ ∀ p, KN (.raw (.ref p)) (gl K p (dInts (r.st.hall.woken t)) :: gRtx K a (r.withSt (r.st.fin t)))
inductive Deed where
  | bear (t : Nat)
  | fin (t : Nat)
  | wait (m : Bool) (t : Nat) (ts : List Nat)
def Deed.d : Deed → D
  | .bear t => .tup [.str "bear", .int (t : Int)]
  | .fin t => .tup [.str "end", .int (t : Int)]
  | .wait m t ts => .tup (.str (if m then "any" else "wait") :: .int (t : Int) :: dInts ts)
def DeedOk (r : Rt) : Deed → Prop
  | .bear t => t < r.st.phases.length ∧ r.st.phases.getD t ⟨#[]⟩ = ("running" : Str) ∧ r.st.phases.length < r.limit
  | .fin t => t < r.st.phases.length ∧ r.st.phases.getD t ⟨#[]⟩ = ("running" : Str)
  | .wait _ t ts => t < r.st.phases.length ∧ WaitOk r t ts
def Rt.deed (r : Rt) : Deed → Rt
  | .bear t => r.withSt (r.st.add t r.hands)
  | .fin t => r.withSt (r.st.fin t)
  | .wait m t ts => r.withSt (r.st.wait t m ts)
/-- what a deed gives: data, or a new list -/
def Rt.ans (r : Rt) : Deed → D ⊕ List Nat
  | .bear _ => .inl (.int (r.st.fam.tasks.length : Int))
  | .fin t => .inr (r.st.hall.woken t)
  | .wait m _ ts => .inl (.bl (overB m ts (endB r.st.phases)))
def ansK (K : PySem.W.Frag) (KN : D → Gs → Prop) (G : Gs) : D ⊕ List Nat → Prop
  | .inl d => KN d G
  | .inr ns => ∀ p, KN (.raw (.ref p)) (gl K p (dInts ns) :: G)
abbrev aRCallD (K : PySem.W.Frag) : ASp := fun es G KN _ => ∃ a r e, es = [.raw (.ref (RtAd.p a)), Deed.d e] ∧ G = gRt K a r ∧ r.Ok ∧ DeedOk r e ∧ ansK K KN (gRt K a (r.deed e)) (r.ans e)
section
variable {P : Program} {w : World} {K : PySem.W.Frag} {mg : Str → Option Value} {base : Heap}
theorem ok_rt {f : Addr} {fd : FuncData} (F : FunD K "__init__" "Runtime.__init__" (defArgs s_Runtime___init__) (defBody s_Runtime___init__) (defScope s_Runtime___init__) [] [("hands", .non), ("limit", .int 100)] f fd) (T : Tx K mg) (h_Rule_twin : MethAt P w K mg base 8 (He.ga K "Rule") "twin" (aRTwin K)) (h_Hands_every : ∃ mc pp g, ClX.CRead K (He.ga K "Hands") mc ∧ ClX.CMet K (He.ga K "Hands") mc "every" pp g ∧ FnR P w K mg base (L2.CX P w) 3 g (conc K (aEvery K))) (h_State : MakeAt P w K mg base 3 "State" (He.ga K "State") (aState K))  : FnOk P w K mg base (L2.CX P w) 9 f fd ["self", "rule", "hands", "limit"] (conc K (aRt K)) := by
  refine def_ok F sc_Runtime___init__ nm_Runtime___init__ (fun es G KN KE ⟨_, _, _, _, _, _, e, _⟩ => by rw [e] <;> rfl) ?_
  rintro X F0 es G G2 KN KE rfl rfl rfl rfl rfl c hfn nm rz ⟨y, a, r, S, h, l, rfl, rfl, ok, h1, h2, q⟩
  show GSs X F0 _ [some (.raw (.ref y)), some (.raw (.ref a.p)), some (handD X.K h), some (.int (l : Int))] (gi X.K y (cRt X.K) [] :: gRule X.K a r S ++ G2) _
  simp only [gRule, List.cons_append, List.nil_append, List.append_assoc]
  have c0 := T.c_Runtime
  have n1 := T.na_Runtime__rule
  have n2 := T.na_Runtime__hands
  have n3 := T.na_Runtime__limit
  have n4 := T.na_Runtime_state
  refine xgss_cons (xgs_if (xgt_val (false) ?_ ?_))
  · refine xgt_not (xgt_chain (xge_int (xge_nm c nm (.there (.there (.there .here))) ?_ rfl)) rfl)
    mi_spec "opLtE"
    refine ⟨_, rfl, ?_⟩
    -- stop: chain
    refine brY (by omega) ?_
    obtain ⟨mc_, u_, cr_, cv_⟩ := T.cval_Family_MOST
    refine xge_cval cr_ cv_ (xge_globR c nm .here T.g_Family ?_) rfl
    refine ⟨rfl, ?_⟩
    mi_spec "opLtE"
    refine kb ?_
    refine ⟨?_, rfl⟩
    simp
    omega
  refine brF (xgss_nil ?_)
  refine xgss_cons (xgs_fld2 (xge_meth0 c T.c_Rule h_Rule_twin (Nat.le_of_ble_eq_true rfl) (xge_nm c nm (.there .here) ?_ rfl) rfl) rfl)
  mi_spec "opInsM"
  -- stop: call Rule.twin
  refine ⟨gRule X.K a r S, _, by mi_spec "ent", a, r, S, rfl, rfl, ok, fun a' S' hS hl => ?_⟩
  refine xge_nm c nm .here ?_ rfl
  mi_spec "opSetFld"
  refine xgss_cons (xgs_fld2 (xge_nm c nm (.there (.there .here)) (xge_nm c nm .here ?_ rfl) rfl) rfl)
  mi_spec "opSetFld"
  have key : ∀ G' (hd : D), hd = handV X.K (h.getD everyF) → Ent G' (gi X.K y (cRt X.K) [("_rule", .raw (.ref a'.p)), ("_hands", hd)] :: (gRule X.K a' r S' ++ gRule X.K a r S ++ G2)) → GSs X F0 ((defBody s_Runtime___init__).drop 4) [some (.raw (.ref y)), some (.raw (.ref a.p)), some (handD X.K h), some (.int (l : Int))] G' (bodyA KN G2) := by
    intro G' hd ehd en
    subst ehd
    refine GTS.ent en ?_
    refine xgss_cons (xgs_fld2 (xge_nm c nm (.there (.there (.there .here))) (xge_nm c nm .here ?_ rfl) rfl) rfl)
    mi_spec "opSetFld"
    refine xgss_cons (xgs_fld2 (xge_make0 c h_State (Nat.le_of_ble_eq_true rfl) nm (.there (.there (.there .here))) ?_) rfl)
    -- stop: make State
    refine fun z => ⟨[gi X.K z (He.ga X.K "State") []], _, by mi_spec "ent", z, rfl, rfl, fun fam ph aw mo he => ⟨rfl, ?_⟩⟩
    refine xge_nm c nm .here ?_ rfl
    mi_spec "opSetFld"
    refine xgss_nil ?_
    exact ⟨gRt X.K ⟨y, a', ⟨z, fam, ph, aw, mo, he⟩⟩ ⟨r, S', h.getD everyF, l, St.zero⟩ ++ gRule X.K a r S, by mi_spec "entE", q a' ⟨z, fam, ph, aw, mo, he⟩ S' hS hl⟩
  cases h with
  | none =>
    refine xgss_cons (xgs_if (xgt_compare (xge_nm c nm (.there (.there .here)) (xge_non ?_) rfl) (nm_Is _)))
    mi_spec "opIs"
    refine kb ?_
    -- stop: if
    refine brT ?_
    refine xgss_cons (xgs_fld2 ?_ rfl)
    obtain ⟨mc_, pp_, g_, cr_, cm_, fr_⟩ := h_Hands_every
    refine xge_cmeth0 c cr_ cm_ fr_ (Nat.le_of_ble_eq_true rfl) (xge_globR c nm (.there (.there .here)) T.g_Hands ?_) rfl
    refine ⟨rfl, ?_⟩
    -- stop: call Hands_every
    refine ⟨[], _, Ent.refl _, rfl, rfl, ?_⟩
    refine xge_nm c nm .here ?_ rfl
    mi_spec "opSetFld"
    exact xgss_nil (key _ (handV X.K ⟨true, true, true, true⟩) rfl (by mi_spec "entE"))
  | some f =>
    refine xgss_cons (xgs_if (xgt_compare (xge_nm c nm (.there (.there .here)) (xge_non ?_) rfl) (nm_Is _)))
    mi_spec "opIs"
    refine kb ?_
    -- stop: if
    refine brF ?_
    exact xgss_nil (key _ (handD X.K (some f)) rfl (by mi_spec "entE"))
theorem ok_rlen {f : Addr} {fd : FuncData} (F : FunD K "__len__" "Runtime.__len__" (defArgs s_Runtime___len__) (defBody s_Runtime___len__) (defScope s_Runtime___len__) [] [] f fd) (T : Tx K mg)   : FnOk P w K mg base (L2.CX P w) 1 f fd ["self"] (conc K (aRLen K)) := by
  refine def_ok F sc_Runtime___len__ nm_Runtime___len__ (fun es G KN KE ⟨_, _, e, _⟩ => by rw [e] <;> rfl) ?_
  rintro X F0 es G G2 KN KE rfl rfl rfl rfl rfl c hfn nm rz ⟨a, r, rfl, rfl, hl, q⟩
  show GSs X F0 _ [some (.raw (.ref a.p))] (gRtx X.K a r ++ G2) _
  simp only [gRt, gRtx, List.cons_append, List.nil_append, List.append_assoc]
  have c0 := T.c_Runtime
  have c1 := T.c_State
  have n4 := T.na_Runtime_state
  have n5 := T.na_State_phases
  refine xgss_cons (xgs_ret (xge_callB c nm .here T.mlen bt_len (xga_cons (xge_fld (xge_fld (xge_nm c nm .here ?_ rfl) rfl) rfl) rfl) rfl rfl))
  mi_spec "opFld"
  mi_spec "opFld"
  refine xga_nil ?_
  mi_spec "rl_len"
  rw [show ((dStrs r.st.phases).length : Int) = ((r.st.phases.length : Nat) : Int) by simp]
  exact ⟨gRtx X.K a r, by mi_spec "entE", q⟩
theorem ok_rdemand {f : Addr} {fd : FuncData} (F : FunD K "demand" "Runtime.demand" (defArgs s_Runtime_demand) (defBody s_Runtime_demand) (defScope s_Runtime_demand) [] [] f fd) (T : Tx K mg)   : FnOk P w K mg base (L2.CX P w) 1 f fd ["self", "task"] (conc K (aRDemand K)) := by
  refine def_ok F sc_Runtime_demand nm_Runtime_demand (fun es G KN KE ⟨_, _, _, e, _⟩ => by rw [e] <;> rfl) ?_
  rintro X F0 es G G2 KN KE rfl rfl rfl rfl rfl c hfn nm rz ⟨a, r, t, rfl, rfl, ht, q⟩
  show GSs X F0 _ [some (.raw (.ref a.p)), some (.int (t : Int))] (gRtx X.K a r ++ G2) _
  simp only [gRt, gRtx, List.cons_append, List.nil_append, List.append_assoc]
  have c0 := T.c_Runtime
  have c1 := T.c_State
  have n4 := T.na_Runtime_state
  have n5 := T.na_State_phases
  refine xgss_cons (xgs_if (xgt_val (false) ?_ ?_))
  · refine xgt_not (xgt_chain (xge_int (xge_nm c nm (.there .here) ?_ rfl)) rfl)
    mi_spec "opLtE"
    refine ⟨_, rfl, ?_⟩
    -- stop: chain
    refine brY (by omega) ?_
    refine xge_callB c nm .here T.mlen bt_len (xga_cons (xge_fld (xge_fld (xge_nm c nm .here ?_ rfl) rfl) rfl) rfl) rfl rfl
    mi_spec "opFld"
    mi_spec "opFld"
    refine xga_nil ?_
    mi_spec "rl_len"
    mi_spec "opLt"
    refine kb ?_
    refine ⟨?_, rfl⟩
    simp
    omega
  refine brF (xgss_nil (xgss_nil ?_))
  exact ⟨gRtx X.K a r, by mi_spec "entE", q⟩
theorem ok_rdrun {f : Addr} {fd : FuncData} (F : FunD K "demand_running" "Runtime.demand_running" (defArgs s_Runtime_demand_running) (defBody s_Runtime_demand_running) (defScope s_Runtime_demand_running) [] [] f fd) (T : Tx K mg)   : FnOk P w K mg base (L2.CX P w) 1 f fd ["self", "task"] (conc K (aRDRun K)) := by
  refine def_ok F sc_Runtime_demand_running nm_Runtime_demand_running (fun es G KN KE ⟨_, _, _, e, _⟩ => by rw [e] <;> rfl) ?_
  rintro X F0 es G G2 KN KE rfl rfl rfl rfl rfl c hfn nm rz ⟨a, r, t, rfl, rfl, ht, hr, q⟩
  show GSs X F0 _ [some (.raw (.ref a.p)), some (.int (t : Int))] (gRtx X.K a r ++ G2) _
  simp only [gRt, gRtx, List.cons_append, List.nil_append, List.append_assoc]
  have c0 := T.c_Runtime
  have c1 := T.c_State
  have n4 := T.na_Runtime_state
  have n5 := T.na_State_phases
  refine xgss_cons (xgs_if (xgt_compare (xge_index (xge_fld (xge_fld (xge_nm c nm .here ?_ rfl) rfl) rfl) (fun b_ _ _ => by cases b_ <;> exact rfl)) (nm_Eq _)))
  mi_spec "opFld"
  mi_spec "opFld"
  refine xge_nm c nm (.there .here) ?_ rfl
  -- stop: man self.state.phases[task]
  refine rk_ixL (lst_own (by mi_spec "foc")) (str_at ht) ?_
  rw [hr]
  refine xge_str ?_
  mi_spec "opEq"
  refine kb ?_
  -- stop: if
  refine brNo (by decide) (xgss_nil ?_)
  refine xgss_cons (xgs_if (xgt_compare (xge_index (xge_fld (xge_fld (xge_nm c nm .here ?_ rfl) rfl) rfl) (fun b_ _ _ => by cases b_ <;> exact rfl)) (nm_Eq _)))
  mi_spec "opFld"
  mi_spec "opFld"
  refine xge_nm c nm (.there .here) ?_ rfl
  -- stop: man self.state.phases[task]
  refine rk_ixL (lst_own (by mi_spec "foc")) (str_at ht) ?_
  rw [hr]
  refine xge_str ?_
  mi_spec "opEq"
  refine kb ?_
  -- stop: if
  refine brNo (by decide) (xgss_nil (xgss_nil ?_))
  exact ⟨gRtx X.K a r, by mi_spec "entE", q⟩
theorem ok_inphase {f : Addr} {fd : FuncData} (F : FunD K "in_phase" "Runtime.in_phase" (defArgs s_Runtime_in_phase) (defBody s_Runtime_in_phase) (defScope s_Runtime_in_phase) [] [] f fd) (T : Tx K mg)   : FnOk P w K mg base (L2.CX P w) 1 f fd ["self", "phase"] (conc K (aInPhase K)) := by
  refine def_ok F sc_Runtime_in_phase nm_Runtime_in_phase (fun es G KN KE ⟨_, _, _, e, _⟩ => by rw [e] <;> rfl) ?_
  rintro X F0 es G G2 KN KE rfl rfl rfl rfl rfl c hfn nm rz ⟨a, r, z, rfl, rfl, hl, q⟩
  show GSs X F0 _ [some (.raw (.ref a.p)), some (.str z), none, none] (gRtx X.K a r ++ G2) _
  simp only [gRt, gRtx, List.cons_append, List.nil_append, List.append_assoc]
  have c0 := T.c_Runtime
  have c1 := T.c_State
  have n4 := T.na_Runtime_state
  have n5 := T.na_State_phases
  refine xgss_cons (xgs_asg c hfn nm (.there (.there .here)) (xge_fld (xge_fld (xge_nm c nm .here ?_ rfl) rfl) rfl) rfl rfl)
  mi_spec "opFld"
  mi_spec "opFld"
  refine xgss_cons (xgs_ret (xge_lc c (lcOk_by (by decide +kernel)) (src_R1 c nm .here T.mrange rfl (fun _ => rfl)) (by decide) (xgt_lcR1 c (.there (.there (.there .here))) (xga_cons (xge_callB c nm (.there .here) T.mlen bt_len (xga_cons (xge_nm c nm (.there (.there .here)) (xga_nil ?_) rfl) rfl) rfl rfl) rfl))))
  mi_spec "rl_len"
  refine xga_nil ?_
  -- stop: comp [task for task in range(len(phases)) if phases[task] == phase]
  refine ⟨_, rfl, ⟨by simp, by simp; omega⟩, LcR.same (fun j acc => acc = dInts (phL r.st.phases z j)) rfl ?_ ?_⟩
  · rintro j acc pp hj rfl
    have hlt : j < r.st.phases.length := by simpa using hj
    rw [Int.zero_add]
    intro s H env fp fnv c'
    have vm := vmOk_of c' (Gn := []) (vis := [1, 2, 3]) (by decide +kernel)
    refine xgt_compare (xge_index (xge_vm c' vm (.there (.there .here)) (xge_vm c' vm (.there (.there (.there .here))) ?_ rfl) rfl) (fun b_ _ _ => by cases b_ <;> exact rfl)) (nm_Eq _)
    -- stop: man phases[task]
    refine rk_ixL (lst_own (by mi_spec "foc")) (str_at hlt) ?_
    refine xge_vm c' vm (.there .here) ?_ rfl
    mi_spec "opEq"
    refine kb ?_
    refine brB ?_ ?_ <;> intro hb
    · intro s H env fp fnv c'
      have vm := vmOk_of c' (Gn := []) (vis := [1, 2, 3]) (by decide +kernel)
      refine xge_vm c' vm (.there (.there (.there .here))) ?_ rfl
      refine ⟨_, Ent.refl _, by have := @phL_len r.st.phases z j; simp; omega, ?_, Ent.refl _⟩
      rw [phL_succ, if_pos (show inPh r.st.phases z j = true from hb)]
      simp
    · refine ⟨_, Ent.refl _, ?_, Ent.refl _⟩
      rw [phL_succ, if_neg (by rw [show inPh r.st.phases z j = false from hb]; decide)]
  · rintro p acc G' rfl en
    have e : ((dStrs r.st.phases).length : Int).toNat = r.st.phases.length := by simp
    rw [e]
    exact ⟨gl X.K p (dInts (phL r.st.phases z r.st.phases.length)) :: gRtx X.K a r, (Ent.cons _ en).trans (by mi_spec "entE"), q p⟩
theorem ok_running {f : Addr} {fd : FuncData} (F : FunD K "running" "Runtime.running" (defArgs s_Runtime_running) (defBody s_Runtime_running) (defScope s_Runtime_running) [] [] f fd) (T : Tx K mg) (h_Runtime_in_phase : MethAt P w K mg base 1 (He.ga K "Runtime") "in_phase" (aInPhase K))  : FnOk P w K mg base (L2.CX P w) 2 f fd ["self"] (conc K (aRunning K)) := by
  refine def_ok F sc_Runtime_running nm_Runtime_running (fun es G KN KE ⟨_, _, e, _⟩ => by rw [e] <;> rfl) ?_
  rintro X F0 es G G2 KN KE rfl rfl rfl rfl rfl c hfn nm rz ⟨a, r, rfl, rfl, hl, q⟩
  show GSs X F0 _ [some (.raw (.ref a.p))] (gRtx X.K a r ++ G2) _
  simp only [gRt, gRtx, List.cons_append, List.nil_append, List.append_assoc]
  refine xgss_cons (xgs_ret (xge_meth c T.c_Runtime h_Runtime_in_phase (Nat.le_of_ble_eq_true rfl) (xge_nm c nm .here ?_ rfl) rfl rfl rfl))
  mi_spec "opInsM"
  refine xga_cons (xge_str (xga_nil ?_)) rfl
  mi_spec "opInsP"
  -- stop: call Runtime.in_phase
  refine ⟨gRtx X.K a r, _, by mi_spec "ent", a, r, _, rfl, rfl, hl, fun p => ?_⟩
  exact ⟨gl X.K p (dInts (phL r.st.phases "running" r.st.phases.length)) :: gRtx X.K a r, by mi_spec "entE", q p⟩
theorem ok_rphase {f : Addr} {fd : FuncData} (F : FunD K "phase" "Runtime.phase" (defArgs s_Runtime_phase) (defBody s_Runtime_phase) (defScope s_Runtime_phase) [] [] f fd) (T : Tx K mg) (h_Runtime_demand : MethAt P w K mg base 1 (He.ga K "Runtime") "demand" (aRDemand K))  : FnOk P w K mg base (L2.CX P w) 2 f fd ["self", "task"] (conc K (aRPhase K)) := by
  refine def_ok F sc_Runtime_phase nm_Runtime_phase (fun es G KN KE ⟨_, _, _, e, _⟩ => by rw [e] <;> rfl) ?_
  rintro X F0 es G G2 KN KE rfl rfl rfl rfl rfl c hfn nm rz ⟨a, r, t, rfl, rfl, ht, q⟩
  show GSs X F0 _ [some (.raw (.ref a.p)), some (.int (t : Int))] (gRtx X.K a r ++ G2) _
  simp only [gRt, gRtx, List.cons_append, List.nil_append, List.append_assoc]
  have c0 := T.c_Runtime
  have c1 := T.c_State
  have n4 := T.na_Runtime_state
  have n5 := T.na_State_phases
  refine xgss_cons (xgs_expr (xge_meth c T.c_Runtime h_Runtime_demand (Nat.le_of_ble_eq_true rfl) (xge_nm c nm .here ?_ rfl) rfl rfl rfl) rfl)
  mi_spec "opInsM"
  refine xga_cons (xge_nm c nm (.there .here) (xga_nil ?_) rfl) rfl
  mi_spec "opInsP"
  -- stop: call Runtime.demand
  refine ⟨gRtx X.K a r, _, by mi_spec "ent", a, r, t, rfl, rfl, ht, ?_⟩
  refine xgss_cons (xgs_ret (xge_index (xge_fld (xge_fld (xge_nm c nm .here ?_ rfl) rfl) rfl) (fun b_ _ _ => by cases b_ <;> exact rfl)))
  mi_spec "opFld"
  mi_spec "opFld"
  refine xge_nm c nm (.there .here) ?_ rfl
  -- stop: man self.state.phases[task]
  refine rk_ixL (lst_own (by mi_spec "foc")) (str_at ht) ?_
  exact ⟨gRtx X.K a r, by mi_spec "entE", q⟩
theorem ts_at {ts : List (List Nat)} {n : Nat} (h : n < ts.length) : atI (dTs ts) ((n : Nat) : Int) = some (.lst (dInts (ts.getD n []))) := Ly.atI_nat (by rw [List.getElem?_map, List.getD_eq_getElem?_getD, List.getElem?_eq_getElem h] <;> rfl)
theorem bl_at {ts : List Bool} {n : Nat} (h : n < ts.length) : atI (dBls ts) ((n : Nat) : Int) = some (.bl (ts.getD n false)) := Ly.atI_nat (by rw [List.getElem?_map, List.getD_eq_getElem?_getD, List.getElem?_eq_getElem h] <;> rfl)
theorem ok_rtargets {f : Addr} {fd : FuncData} (F : FunD K "targets" "Runtime.targets" (defArgs s_Runtime_targets) (defBody s_Runtime_targets) (defScope s_Runtime_targets) [] [] f fd) (T : Tx K mg) (h_Runtime_demand : MethAt P w K mg base 1 (He.ga K "Runtime") "demand" (aRDemand K))  : FnOk P w K mg base (L2.CX P w) 2 f fd ["self", "task"] (conc K (aRTargets K)) := by
  refine def_ok F sc_Runtime_targets nm_Runtime_targets (fun es G KN KE ⟨_, _, _, e, _⟩ => by rw [e] <;> rfl) ?_
  rintro X F0 es G G2 KN KE rfl rfl rfl rfl rfl c hfn nm rz ⟨a, r, t, rfl, rfl, ht, ht2, q⟩
  show GSs X F0 _ [some (.raw (.ref a.p)), some (.int (t : Int))] (gRtx X.K a r ++ G2) _
  simp only [gRt, gRtx, List.cons_append, List.nil_append, List.append_assoc]
  have c0 := T.c_Runtime
  have c1 := T.c_State
  have n4 := T.na_Runtime_state
  have n5 := T.na_State_awaited
  refine xgss_cons (xgs_expr (xge_meth c T.c_Runtime h_Runtime_demand (Nat.le_of_ble_eq_true rfl) (xge_nm c nm .here ?_ rfl) rfl rfl rfl) rfl)
  mi_spec "opInsM"
  refine xga_cons (xge_nm c nm (.there .here) (xga_nil ?_) rfl) rfl
  mi_spec "opInsP"
  -- stop: call Runtime.demand
  refine ⟨gRtx X.K a r, _, by mi_spec "ent", a, r, t, rfl, rfl, ht, ?_⟩
  refine xgss_cons (xgs_ret (xge_callTy c nm .here T.mlist bt_list (xga_cons (xge_index (xge_fld (xge_fld (xge_nm c nm .here ?_ rfl) rfl) rfl) (fun b_ _ _ => by cases b_ <;> exact rfl)) rfl) rfl rfl))
  mi_spec "opFld"
  mi_spec "opFld"
  refine xge_nm c nm (.there .here) ?_ rfl
  -- stop: man self.state.awaited[task]
  refine rk_ixL (lst_own (by mi_spec "foc")) (ts_at ht2) ?_
  refine xga_nil ?_
  mi_spec "rl_list"
  refine fun l1 => ?_
  exact ⟨gl X.K l1 (dInts (r.st.awaited.getD t [])) :: gRtx X.K a r, by mi_spec "entE", q l1⟩
end
section
variable {P : Program} {w : World} {K : PySem.W.Frag} {mg : Str → Option Value} {base : Heap}
theorem gRtx_with {K : PySem.W.Frag} {a : RtAd} {r : Rt} {s : St} : gRtx K a (r.withSt s) = gi K a.p (cRt K) (rtFs K a r) :: gSt K a.st s := rfl
theorem gRt_with {K : PySem.W.Frag} {a : RtAd} {r : Rt} {s : St} : gRt K a (r.withSt s) = gi K a.p (cRt K) (rtFs K a r) :: (gRule K a.rule r.reach r.S ++ gSt K a.st s) := rfl
theorem ok_rbear {f : Addr} {fd : FuncData} (F : FunD K "bear" "Runtime.bear" (defArgs s_Runtime_bear) (defBody s_Runtime_bear) (defScope s_Runtime_bear) [] [] f fd) (T : Tx K mg) (h_Runtime_demand : MethAt P w K mg base 1 (He.ga K "Runtime") "demand" (aRDemand K)) (h_Runtime_demand_running : MethAt P w K mg base 1 (He.ga K "Runtime") "demand_running" (aRDRun K)) (h_State_add : MethAt P w K mg base 3 (He.ga K "State") "add" (aAdd K))  : FnOk P w K mg base (L2.CX P w) 4 f fd ["self", "task"] (conc K (aRBear K)) := by
  refine def_ok F sc_Runtime_bear nm_Runtime_bear (fun es G KN KE ⟨_, _, _, e, _⟩ => by rw [e] <;> rfl) ?_
  rintro X F0 es G G2 KN KE rfl rfl rfl rfl rfl c hfn nm rz ⟨a, r, t, rfl, rfl, ok, ht, hr, hl, h6, q⟩
  show GSs X F0 _ [some (.raw (.ref a.p)), some (.int (t : Int))] (gRtx X.K a r ++ G2) _
  simp only [gRt, gRtx, List.cons_append, List.nil_append, List.append_assoc]
  have c0 := T.c_Runtime
  have c1 := T.c_State
  have n4 := T.na_Runtime_state
  have n2 := T.na_Runtime__hands
  have n3 := T.na_Runtime__limit
  have n5 := T.na_State_phases
  have l1 := ok.l1
  refine xgss_cons (xgs_expr (xge_meth c T.c_Runtime h_Runtime_demand (Nat.le_of_ble_eq_true rfl) (xge_nm c nm .here ?_ rfl) rfl rfl rfl) rfl)
  mi_spec "opInsM"
  refine xga_cons (xge_nm c nm (.there .here) (xga_nil ?_) rfl) rfl
  mi_spec "opInsP"
  -- stop: call Runtime.demand
  refine ⟨gRtx X.K a r, _, by mi_spec "ent", a, r, t, rfl, rfl, ht, ?_⟩
  refine xgss_cons (xgs_expr (xge_meth c T.c_Runtime h_Runtime_demand_running (Nat.le_of_ble_eq_true rfl) (xge_nm c nm .here ?_ rfl) rfl rfl rfl) rfl)
  mi_spec "opInsM"
  refine xga_cons (xge_nm c nm (.there .here) (xga_nil ?_) rfl) rfl
  mi_spec "opInsP"
  -- stop: call Runtime.demand_running
  refine ⟨gRtx X.K a r, _, by mi_spec "ent", a, r, t, rfl, rfl, ht, hr, ?_⟩
  refine xgss_cons (xgs_if (xgt_compare (xge_callB c nm .here T.mlen bt_len (xga_cons (xge_fld (xge_fld (xge_nm c nm .here ?_ rfl) rfl) rfl) rfl) rfl rfl) (nm_GtE _)))
  mi_spec "opFld"
  mi_spec "opFld"
  refine xga_nil ?_
  mi_spec "rl_len"
  refine xge_fld (xge_nm c nm .here ?_ rfl) rfl
  mi_spec "opFld"
  mi_spec "opGtE"
  refine kb ?_
  -- stop: if
  refine brNo (by simp; omega) (xgss_nil ?_)
  refine xgss_cons (xgs_ret (xge_meth c T.c_State h_State_add (Nat.le_of_ble_eq_true rfl) (xge_fld (xge_nm c nm .here ?_ rfl) rfl) rfl rfl rfl))
  mi_spec "opFld"
  mi_spec "opInsM"
  refine xga_cons (xge_nm c nm (.there .here) (xga_cons (xge_fld (xge_nm c nm .here ?_ rfl) rfl) rfl) rfl) rfl
  mi_spec "opFld"
  refine xga_nil ?_
  mi_spec "opInsP"
  -- stop: call State.add
  refine ⟨gSt X.K a.st r.st, _, by mi_spec "ent", a.st, r.st, r.hands, t, rfl, rfl, ok, by omega, by omega, ?_⟩
  exact ⟨gRtx X.K a (r.withSt (r.st.add t r.hands)), by rw [gRtx_with]; mi_spec "entE", q⟩
theorem strs_at {ts : List Str} {j : Nat} {y : D} (h : (dStrs ts)[j]? = some y) : ∃ n, ts[j]? = some n ∧ y = .str n := by
  rw [List.getElem?_map] at h
  cases q : ts[j]? with
  | none => rw [q] at h; cases h
  | some n => rw [q] at h; cases h; exact ⟨n, rfl, rfl⟩
theorem endB_take {ph : List Str} {j : Nat} {z : Str} (h : ph[j]? = some z) : endB (ph.take (j + 1)) = endB (ph.take j) ++ [decide (z = ("ended" : Str))] := by
  unfold endB
  rw [List.take_succ, h]
  simp
theorem ok_rwait {f : Addr} {fd : FuncData} (F : FunD K "wait" "Runtime.wait" (defArgs s_Runtime_wait) (defBody s_Runtime_wait) (defScope s_Runtime_wait) [] [("any_of", .bl false)] f fd) (T : Tx K mg) (h_Runtime_demand : MethAt P w K mg base 1 (He.ga K "Runtime") "demand" (aRDemand K)) (h_Runtime_demand_running : MethAt P w K mg base 1 (He.ga K "Runtime") "demand_running" (aRDRun K)) (h_Rule___call__ : SpecAt P w K mg base 5 (He.ga K "Rule") "__call__" (aRCall K)) (h_is_over : DefAt P w K mg base 1 "is_over" (aOver K))  : FnSK P w K mg base 6 f 2 ["any_of"] (aRWait K) := by
  refine def_sk (ps := ["self", "task"]) (pv := "targets") (ks := ["any_of"]) F sc_Runtime_wait nm_Runtime_wait (fun kV doc pm an cdv ct => bind_sk21 (B := fun us ws => bindArgs _ ⟨us, (["any_of"] : List Str).zip ws⟩) (fun _ _ _ => rfl) (fun _ _ _ _ _ => rfl)) ?_
  rintro X F0 es G G2 KN KE rfl rfl rfl rfl rfl c hfn nm rz ⟨a, r, t, m, ts, rfl, rfl, ok, ht, w, q⟩
  show GSs X F0 _ [some (.raw (.ref a.p)), some (.int (t : Int)), some (.bl m), some (.tup (dInts ts)), none, none, none] (gRt X.K a r ++ G2) _
  simp only [gRt, List.cons_append, List.nil_append, List.append_assoc]
  have c0 := T.c_Runtime
  have c1 := T.c_State
  have n1 := T.na_Runtime__rule
  have n4 := T.na_Runtime_state
  have n5 := T.na_State_phases
  have n6 := T.na_State_awaited
  have n7 := T.na_State_modes
  have n8 := T.na_State_held
  have n9 := T.na_State_family
  have l1 := ok.l1
  have l2 := ok.l2
  have l3 := ok.l3
  have l4 := ok.l4
  have hsm := w.sm
  have hfs := ok.fam.small
  refine xgss_cons (xgs_expr (xge_meth c T.c_Runtime h_Runtime_demand (Nat.le_of_ble_eq_true rfl) (xge_nm c nm .here ?_ rfl) rfl rfl rfl) rfl)
  mi_spec "opInsM"
  refine xga_cons (xge_nm c nm (.there .here) (xga_nil ?_) rfl) rfl
  mi_spec "opInsP"
  -- stop: call Runtime.demand
  refine ⟨gRtx X.K a r, _, by mi_spec "ent", a, r, t, rfl, rfl, by omega, ?_⟩
  refine xgss_cons (xgs_forT c hfn (.there (.there (.there (.there .here)))) (nm.loc (.there (.there (.there (.there .here)))) rfl) (xge_nm c nm (.there (.there (.there .here))) ?_ rfl) (fun _ => rfl))
  -- stop: for
  refine ⟨dInts ts, ForT.same (fun j ds' => ∃ o, ds' = [some (.raw (.ref a.p)), some (.int (t : Int)), some (.bl m), some (.tup (dInts ts)), o, none, none]) tup_fr ⟨_, rfl⟩ ?_ ?_⟩
  · rintro j y ds' hy ⟨o, rfl⟩
    obtain ⟨n, hn, rfl⟩ := dInts_at hy
    have hlt := w.lt n (List.mem_of_getElem? hn)
    refine xgss_cons (xgs_expr (xge_meth c T.c_Runtime h_Runtime_demand (Nat.le_of_ble_eq_true rfl) (xge_nm c nm .here ?_ rfl) rfl rfl rfl) rfl)
    mi_spec "opInsM"
    refine xga_cons (xge_nm c nm (.there (.there (.there (.there .here)))) (xga_nil ?_) rfl) rfl
    mi_spec "opInsP"
    -- stop: call Runtime.demand
    refine ⟨gRtx X.K a r, _, by mi_spec "ent", a, r, n, rfl, rfl, by omega, ?_⟩
    refine xgss_nil ?_
    exact ⟨⟨_, rfl⟩, by mi_spec "entE"⟩
  rintro ds' G' ⟨o, rfl⟩ en
  refine GTS.ent en ?_
  refine xgss_cons (xgs_expr (xge_meth c T.c_Runtime h_Runtime_demand_running (Nat.le_of_ble_eq_true rfl) (xge_nm c nm .here ?_ rfl) rfl rfl rfl) rfl)
  mi_spec "opInsM"
  refine xga_cons (xge_nm c nm (.there .here) (xga_nil ?_) rfl) rfl
  mi_spec "opInsP"
  -- stop: call Runtime.demand_running
  refine ⟨gRtx X.K a r, _, by mi_spec "ent", a, r, t, rfl, rfl, by omega, w.run, ?_⟩
  refine xgss_cons (xgs_if (xgt_compare (xge_callB c nm .here T.mlen bt_len (xga_cons (xge_nm c nm (.there (.there (.there .here))) (xga_nil ?_) rfl) rfl) rfl rfl) (nm_Eq _)))
  mi_spec "rl_len"
  refine xge_int ?_
  mi_spec "opEq"
  refine kb ?_
  -- stop: if
  refine brNo (by have := w.ne; simp; intro h; rw [h] at this; simp at this) (xgss_nil ?_)
  refine openA (φ := phD X.K) (xs := r.st.held) (by mi_spec "rem") fun qs hq => ?_
  have hi1 : t < qs.length := by omega
  have hi2 : t < r.st.held.length := by omega
  have hgd : r.st.held.getD t [] = r.st.held[t] := getD_nth hi2
  refine xgss_cons (xgs_forT c hfn (.there (.there (.there (.there .here)))) (nm.loc (.there (.there (.there (.there .here)))) rfl) (xge_nm c nm (.there (.there (.there .here))) ?_ rfl) (fun _ => rfl))
  -- stop: for
  refine ⟨dInts ts, ForT.same (fun j ds' => ∃ o, ds' = [some (.raw (.ref a.p)), some (.int (t : Int)), some (.bl m), some (.tup (dInts ts)), o, none, none]) tup_fr ⟨_, rfl⟩ ?_ ?_⟩
  · rintro j y ds' hy ⟨o, rfl⟩
    obtain ⟨n, hn, rfl⟩ := dInts_at hy
    have hmem := List.mem_of_getElem? hn
    have hlt := w.lt n hmem
    have hheld := w.held n hmem
    have hlet := w.lets n hmem
    refine xgss_cons (xgs_if (xgt_not (xgt_tru (fun _ => rfl) (xge_callFld c h_Rule___call__ (Nat.le_of_ble_eq_true rfl) T.c_Runtime T.na_Runtime__rule (xge_nm c nm .here ?_ rfl) rfl rfl rfl))))
    mi_spec "opInsF"
    refine xga_cons (xge_fld (xge_fld (xge_nm c nm .here ?_ rfl) rfl) rfl) rfl
    mi_spec "opFld"
    mi_spec "opFld"
    refine xga_cons (xge_nm c nm (.there .here) (xga_cons (xge_nm c nm (.there (.there (.there (.there .here)))) (xga_nil ?_) rfl) rfl) rfl) rfl
    mi_spec "opInsP"
    -- stop: call Rule
    refine ⟨gRule X.K a.rule r.reach r.S ++ gFam X.K a.st.fam r.st.fam, _, by mi_spec "ent", a.rule, r.reach, r.S, a.st.fam, r.st.fam, t, n, rfl, rfl, ok.fam, ok.tree, ht, hlt, ?_⟩
    mi_spec "opTru"
    -- stop: if
    refine brQ0 (by simpa using hlet) (xgss_nil ?_)
    refine xgss_cons (xgs_if (xgt_dnin c (xge_nm c nm (.there (.there (.there (.there .here)))) (xge_index (xge_fld (xge_fld (xge_nm c nm .here ?_ rfl) rfl) rfl) (fun b_ _ _ => by cases b_ <;> exact rfl)) rfl) rfl))
    mi_spec "opFld"
    mi_spec "opFld"
    refine xge_nm c nm (.there .here) ?_ rfl
    -- stop: man self.state.held[task]
    refine rk_ixL (lst_own (by mi_spec "foc")) (arr_ref hi1) ?_
    -- stop: in dict
    refine ⟨_, _, rfl, LookD.k (k := Sum.inl (n : Int)) (by mi_spec "foc"), ?_⟩
    rw [keysD_some]
    refine brQ0 (by rw [← hgd]; simpa using hheld) (xgss_nil (xgss_nil ?_))
    exact ⟨⟨_, rfl⟩, by mi_spec "entE"⟩
  rintro ds' G' ⟨o, rfl⟩ en
  refine GTS.ent (en.trans (closeA (by omega))) ?_
  refine xgss_cons (xgs_setLc c (.there (.there (.there (.there (.there .here))))) (by decide +kernel) rfl rfl (by decide +kernel) (lcOk_by (by decide +kernel)) (src_L (fun _ => rfl)) (by decide) (xgt_lcL c (.there (.there (.there (.there (.there (.there .here)))))) (xge_fld (xge_fld (xge_nm c nm .here ?_ rfl) rfl) rfl)))
  mi_spec "opFld"
  mi_spec "opFld"
  -- stop: comp [phase == 'ended' for phase in self.state.phases]
  refine ⟨dStrs r.st.phases, lst_own (by mi_spec "foc"), LcL.same (fun j acc => acc = dBls (endB (r.st.phases.take j))) (lst_own (by mi_spec "foc")) rfl ?_ ?_⟩
  · rintro j y acc pp hy rfl
    obtain ⟨z, hz, rfl⟩ := strs_at hy
    intro s H env fp fnv c'
    have vm := vmOk_of c' (Gn := []) (vis := [6]) (by decide +kernel)
    refine xge_compare (xge_vm c' vm (.there (.there (.there (.there (.there (.there .here)))))) (xge_str ?_) rfl) (nm_Eq _)
    mi_spec "opEq"
    refine ⟨_, Ent.refl _, by unfold endB; simp; omega, ?_, Ent.refl _⟩
    rw [endB_take hz]
    simp
  rintro pd acc G' rfl en
  rw [show (dStrs r.st.phases).length = r.st.phases.length by simp, List.take_of_length_le (Nat.le_refl _)]
  refine GTS.ent (Ent.cons _ en) ?_
  refine xgss_cons (xgs_if (xgt_tru (fun _ => rfl) (xge_call c h_is_over (Nat.le_of_ble_eq_true rfl) nm (.there (.there (.there (.there .here)))) (xga_cons (xge_nm c nm (.there (.there (.there .here))) (xga_cons (xge_nm c nm (.there (.there .here)) (xga_cons (xge_nm c nm (.there (.there (.there (.there (.there .here))))) (xga_nil ?_) rfl) rfl) rfl) rfl) rfl) rfl) rfl rfl)))
  -- stop: call is_over
  refine callK_all ⟨_, ts, m, _, endB r.st.phases, rfl, Or.inr tup_fr, lst_own (by mi_spec "foc"), fun i hi => by unfold endB; rw [List.length_map]; have := w.lt i hi; omega, ?_⟩
  mi_spec "opTru"
  -- stop: if
  refine brB ?_ ?_ <;> intro hb
  · refine xgss_cons (xgs_ret (xge_bl ?_))
    have e : r.st.wait t m ts = r.st := by unfold St.wait; rw [if_pos hb]
    exact ⟨gRt X.K a (r.withSt (r.st.wait t m ts)), by rw [gRt_with, e]; mi_spec "entE", by rw [hb] at q; exact q⟩
  · refine xgss_nil ?_
    have e : r.st.wait t m ts = ⟨r.st.fam, r.st.phases.set t "waiting", r.st.awaited.set t ts, r.st.modes.set t m, r.st.held⟩ := by unfold St.wait; rw [if_neg (by rw [hb]; decide)]
    refine xgss_cons (xgs_asgSub (xge_str (xge_fld (xge_fld (xge_nm c nm .here ?_ rfl) rfl) rfl)) (fun _ => rfl) rfl rfl rfl)
    mi_spec "opFld"
    mi_spec "opFld"
    refine xge_nm c nm (.there .here) ?_ rfl
    -- stop: STOP store
    refine st_own (by mi_spec "foc") (nat_ix (by simp; omega)) ?_
    refine xgss_cons (xgs_asgSub (GTE.freeze ?_) (fun _ => rfl) rfl rfl rfl)
    refine xge_callTy c nm (.there (.there (.there (.there (.there .here))))) T.mlist bt_list (xga_cons (xge_nm c nm (.there (.there (.there .here))) (xga_nil ?_) rfl) rfl) rfl rfl
    mi_spec "rl_list"
    refine fun l1 => ?_
    refine ⟨_, _, _, rfl, by mi_spec "rem", ?_⟩
    refine xge_fld (xge_fld (xge_nm c nm .here ?_ rfl) rfl) rfl
    mi_spec "opFld"
    mi_spec "opFld"
    refine xge_nm c nm (.there .here) ?_ rfl
    -- stop: STOP store
    refine st_own (by mi_spec "foc") (nat_ix (by simp; omega)) ?_
    refine xgss_cons (xgs_asgSub (xge_nm c nm (.there (.there .here)) (xge_fld (xge_fld (xge_nm c nm .here ?_ rfl) rfl) rfl) rfl) (fun _ => rfl) rfl rfl rfl)
    mi_spec "opFld"
    mi_spec "opFld"
    refine xge_nm c nm (.there .here) ?_ rfl
    -- stop: STOP store
    refine st_own (by mi_spec "foc") (nat_ix (by simp; omega)) ?_
    refine xgss_cons (xgs_ret (xge_bl ?_))
    have e1 : (dStrs r.st.phases).set t (D.str "waiting") = dStrs (r.st.phases.set t "waiting") := by simp [List.map_set]
    have e2 : (dTs r.st.awaited).set t (D.lst (dInts ts)) = dTs (r.st.awaited.set t ts) := by simp [List.map_set]
    have e3 : (dBls r.st.modes).set t (D.bl m) = dBls (r.st.modes.set t m) := by simp [List.map_set]
    rw [e1, e2, e3]
    exact ⟨gRt X.K a (r.withSt (r.st.wait t m ts)), by rw [gRt_with, e]; mi_spec "entE", by rw [hb] at q; exact q⟩
end
section
variable {P : Program} {w : World} {K : PySem.W.Frag} {mg : Str → Option Value} {base : Heap}
/-! what wakes -/
theorem wake_lens (l : List Nat) : ∀ k : Hall, (l.foldl wake k).phases.length = k.phases.length ∧ (l.foldl wake k).awaited.length = k.awaited.length ∧ (l.foldl wake k).modes.length = k.modes.length := by
  induction l with
  | nil => exact fun k => ⟨rfl, rfl, rfl⟩
  | cons x l ih => exact fun k => by have := ih (wake k x); simpa [wake] using this
theorem wake_other (l : List Nat) : ∀ k : Hall, ∀ o, o ∉ l → (l.foldl wake k).awaited.getD o [] = k.awaited.getD o [] ∧ (l.foldl wake k).modes.getD o false = k.modes.getD o false ∧ (l.foldl wake k).phases.getD o ⟨#[]⟩ = k.phases.getD o ⟨#[]⟩ := by
  induction l with
  | nil => exact fun k o _ => ⟨rfl, rfl, rfl⟩
  | cons x l ih =>
    intro k o ho
    simp only [List.mem_cons, not_or] at ho
    obtain ⟨a, b, c⟩ := ih (wake k x) o ho.2
    simp only [List.foldl_cons]
    rw [a, b, c]
    have hx : x ≠ o := fun e => ho.1 e.symm
    simp [wake, List.getD_eq_getElem?_getD, List.getElem?_set_ne hx]
theorem woken_eq {h : Hall} {t : Nat} (hn : h.phases.length = (h.phases.set t ("ended" : Str)).length) : (phL (h.phases.set t "ended") "waiting" h.phases.length).filter (fun o => overB (h.modes.getD o false) (h.awaited.getD o []) (endB (h.phases.set t "ended"))) = h.woken t := by
  unfold phL Hall.woken
  rw [List.filter_filter]
  congr 1
  funext o
  unfold wakes inPh
  exact Bool.and_comm _ _
theorem nodup_notin {l : List Nat} (h : l.Nodup) {j n : Nat} (hn : l[j]? = some n) {p : Nat → Bool} : n ∉ (l.take j).filter p := by
  intro hm
  have hm := (List.mem_filter.mp hm).1
  obtain ⟨i, hi, e⟩ := List.mem_iff_getElem.mp hm
  rw [List.length_take] at hi
  rw [List.getElem_take] at e
  obtain ⟨hj, ej⟩ := List.getElem?_eq_some_iff.mp hn
  have := List.pairwise_iff_getElem.mp h i j (by omega) hj (by omega)
  exact this (by rw [e, ej])
theorem phL_nodup {ph : List Str} {z : Str} {n : Nat} : (phL ph z n).Nodup := List.Nodup.sublist List.filter_sublist List.nodup_range
abbrev gEnd (K : PySem.W.Frag) (a : RtAd) (r : Rt) (p pw pd : Addr) (ws W : List Nat) (bs : List Bool) (hh : Hall) (R : Gs) : Gs := gl K p (dInts ws) :: gl K pw (dInts W) :: gl K pd (dBls bs) :: gi K a.p (cRt K) (rtFs K a r) :: gi K a.st.p (cState K) (stFs a.st) :: gl K a.st.ph (dStrs hh.phases) :: gl K a.st.aw (dTs hh.awaited) :: gl K a.st.mo (dBls hh.modes) :: R
theorem ok_rend {f : Addr} {fd : FuncData} (F : FunD K "end" "Runtime.end" (defArgs s_Runtime_end) (defBody s_Runtime_end) (defScope s_Runtime_end) [] [] f fd) (T : Tx K mg) (h_Runtime_demand : MethAt P w K mg base 1 (He.ga K "Runtime") "demand" (aRDemand K)) (h_Runtime_demand_running : MethAt P w K mg base 1 (He.ga K "Runtime") "demand_running" (aRDRun K)) (h_Runtime_in_phase : MethAt P w K mg base 1 (He.ga K "Runtime") "in_phase" (aInPhase K)) (h_is_over : DefAt P w K mg base 1 "is_over" (aOver K))  : FnOk P w K mg base (L2.CX P w) 3 f fd ["self", "task"] (conc K (aREnd K)) := by
  refine def_ok F sc_Runtime_end nm_Runtime_end (fun es G KN KE ⟨_, _, _, e, _⟩ => by rw [e] <;> rfl) ?_
  rintro X F0 es G G2 KN KE rfl rfl rfl rfl rfl c hfn nm rz ⟨a, r, t, rfl, rfl, ok, ht, hr, q⟩
  show GSs X F0 _ [some (.raw (.ref a.p)), some (.int (t : Int)), none, none, none, none] (gRtx X.K a r ++ G2) _
  simp only [gRt, gRtx, List.cons_append, List.nil_append, List.append_assoc]
  have c0 := T.c_Runtime
  have c1 := T.c_State
  have n4 := T.na_Runtime_state
  have n5 := T.na_State_phases
  have n6 := T.na_State_awaited
  have n7 := T.na_State_modes
  have l1 := ok.l1
  have l2 := ok.l2
  have l3 := ok.l3
  have hfs := ok.fam.small
  refine xgss_cons (xgs_expr (xge_meth c T.c_Runtime h_Runtime_demand (Nat.le_of_ble_eq_true rfl) (xge_nm c nm .here ?_ rfl) rfl rfl rfl) rfl)
  mi_spec "opInsM"
  refine xga_cons (xge_nm c nm (.there .here) (xga_nil ?_) rfl) rfl
  mi_spec "opInsP"
  -- stop: call Runtime.demand
  refine ⟨gRtx X.K a r, _, by mi_spec "ent", a, r, t, rfl, rfl, by omega, ?_⟩
  refine xgss_cons (xgs_expr (xge_meth c T.c_Runtime h_Runtime_demand_running (Nat.le_of_ble_eq_true rfl) (xge_nm c nm .here ?_ rfl) rfl rfl rfl) rfl)
  mi_spec "opInsM"
  refine xga_cons (xge_nm c nm (.there .here) (xga_nil ?_) rfl) rfl
  mi_spec "opInsP"
  -- stop: call Runtime.demand_running
  refine ⟨gRtx X.K a r, _, by mi_spec "ent", a, r, t, rfl, rfl, by omega, hr, ?_⟩
  refine xgss_cons (xgs_asgSub (xge_str (xge_fld (xge_fld (xge_nm c nm .here ?_ rfl) rfl) rfl)) (fun _ => rfl) rfl rfl rfl)
  mi_spec "opFld"
  mi_spec "opFld"
  refine xge_nm c nm (.there .here) ?_ rfl
  -- stop: STOP store
  refine st_own (by mi_spec "foc") (nat_ix (by simpa using ht)) ?_
  have e1 : (dStrs r.st.phases).set t (D.str "ended") = dStrs (r.st.phases.set t "ended") := by simp [List.map_set]
  rw [e1]
  have hlen : (r.st.phases.set t "ended").length = r.st.phases.length := by simp
  -- ph: the phases from here
  generalize eph : r.st.phases.set t ("ended" : Str) = ph at hlen
  refine xgss_cons (xgs_setLc c (.there (.there .here)) (by decide +kernel) rfl rfl (by decide +kernel) (lcOk_by (by decide +kernel)) (src_L (fun _ => rfl)) (by decide) (xgt_lcL c (.there (.there (.there (.there (.there .here))))) (xge_fld (xge_fld (xge_nm c nm .here ?_ rfl) rfl) rfl)))
  mi_spec "opFld"
  mi_spec "opFld"
  -- stop: comp [phase == 'ended' for phase in self.state.phases]
  refine ⟨dStrs ph, lst_own (by mi_spec "foc"), LcL.same (fun j acc => acc = dBls (endB (ph.take j))) (lst_own (by mi_spec "foc")) rfl ?_ ?_⟩
  · rintro j y acc pp hy rfl
    obtain ⟨z, hz, rfl⟩ := strs_at hy
    have hjl : (ph.take j).length ≤ ph.length := by rw [List.length_take]; omega
    intro s H env fp fnv c'
    have vm := vmOk_of c' (Gn := []) (vis := [5]) (by decide +kernel)
    refine xge_compare (xge_vm c' vm (.there (.there (.there (.there (.there .here))))) (xge_str ?_) rfl) (nm_Eq _)
    mi_spec "opEq"
    refine ⟨_, Ent.refl _, by unfold endB; simp; omega, ?_, Ent.refl _⟩
    rw [endB_take hz]
    simp
  rintro pd acc G' rfl en
  rw [show (dStrs ph).length = ph.length by simp, List.take_of_length_le (Nat.le_refl _)]
  refine GTS.ent (Ent.cons _ en) ?_
  refine xgss_cons (xgs_asg c hfn nm (.there (.there (.there .here))) (xge_lst ?_) rfl rfl)
  refine xga_nil ?_
  refine ⟨Nat.le_of_ble_eq_true rfl, fun p => ?_⟩
  let r1 : Rt := r.withSt ⟨r.st.fam, ph, r.st.awaited, r.st.modes, r.st.held⟩
  refine xgss_cons (xgs_forL c hfn (.there (.there (.there (.there .here)))) (nm.loc (.there (.there (.there (.there .here)))) rfl) (xge_meth c T.c_Runtime h_Runtime_in_phase (Nat.le_of_ble_eq_true rfl) (xge_nm c nm .here ?_ rfl) rfl rfl rfl) (fun _ => rfl))
  mi_spec "opInsM"
  refine xga_cons (xge_str (xga_nil ?_)) rfl
  mi_spec "opInsP"
  -- stop: call Runtime.in_phase
  refine ⟨gRtx X.K a r1, _, by (rw [show gRtx X.K a r1 = gi X.K a.p (cRt X.K) (rtFs X.K a r) :: gSt X.K a.st ⟨r.st.fam, ph, r.st.awaited, r.st.modes, r.st.held⟩ from rfl]); mi_spec "ent", a, r1, _, rfl, rfl, by show ph.length ≤ 600; omega, fun pw => ?_⟩
  show ∃ xs, ForL X F0 _ _ _ _ (gl X.K pw (dInts (phL ph "waiting" ph.length)) :: (gi X.K a.p (cRt X.K) (rtFs X.K a r) :: gSt X.K a.st ⟨r.st.fam, ph, r.st.awaited, r.st.modes, r.st.held⟩) ++ _) _ xs
  generalize eW : phL ph "waiting" ph.length = W
  have hWn : W.Nodup := by rw [← eW]; exact phL_nodup
  have hWl : ∀ n ∈ W, n < ph.length := fun n hn => by
    rw [← eW] at hn
    exact List.mem_range.mp (List.mem_filter.mp hn).1
  let ov : Nat → Bool := fun o => overB (r.st.modes.getD o false) (r.st.awaited.getD o []) (endB ph)
  let k0 : Hall := ⟨[], ph, r.st.awaited, r.st.modes⟩
  refine ⟨dInts W, ForL.chg (fun j => gEnd X.K a r p pw pd ((W.take j).filter ov) W (endB ph) (((W.take j).filter ov).foldl wake k0) (gA X.K a.st.he (r.st.held.map (phD X.K)) :: (gFam X.K a.st.fam r.st.fam ++ G2))) (fun j ds' => ∃ o, ds' = [some (.raw (.ref a.p)), some (.int (t : Int)), some (.raw (.ref pd)), some (.raw (.ref p)), o, none]) (fun j _ => lst_own (by mi_spec "foc")) ⟨_, rfl⟩ (show Ent _ (gEnd X.K a r p pw pd [] W (endB ph) ⟨[], ph, r.st.awaited, r.st.modes⟩ (gA X.K a.st.he (r.st.held.map (phD X.K)) :: (gFam X.K a.st.fam r.st.fam ++ G2))) from by unfold gEnd; rw [show dInts [] = [] from rfl]; mi_spec "entE") ?_ ?_⟩
  · rintro j y ds' hy ⟨o, rfl⟩
    obtain ⟨n, hn, rfl⟩ := dInts_at hy
    have hmem := List.mem_of_getElem? hn
    have hnl := hWl n hmem
    have hnot := nodup_notin hWn hn (p := ov)
    obtain ⟨w1, w2, w3⟩ := wake_lens ((W.take j).filter ov) k0
    obtain ⟨v1, v2, _⟩ := wake_other ((W.take j).filter ov) k0 n hnot
    have hlw : ((W.take j).filter ov).length ≤ 600 := by
      have h1 := List.length_filter_le ov (W.take j)
      have h2 : (W.take j).length ≤ W.length := by rw [List.length_take]; omega
      have h3 : W.length ≤ ph.length := by rw [← eW]; exact phL_len
      omega
    have et : (W.take (j + 1)).filter ov = (W.take j).filter ov ++ (if ov n = true then [n] else []) := takeF hn
    have w1' : (((W.take j).filter ov).foldl wake k0).phases.length = ph.length := w1
    have w2' : (((W.take j).filter ov).foldl wake k0).awaited.length = r.st.awaited.length := w2
    have w3' : (((W.take j).filter ov).foldl wake k0).modes.length = r.st.modes.length := w3
    have v1' : (((W.take j).filter ov).foldl wake k0).awaited.getD n [] = r.st.awaited.getD n [] := v1
    have v2' : (((W.take j).filter ov).foldl wake k0).modes.getD n false = r.st.modes.getD n false := v2
    have hna : n < (((W.take j).filter ov).foldl wake k0).awaited.length := by omega
    have hnm : n < (((W.take j).filter ov).foldl wake k0).modes.length := by omega
    have hmw : r.st.awaited.getD n [] ∈ r.st.awaited := by rw [getD_nth (show n < r.st.awaited.length by omega)]; exact List.getElem_mem _
    have htg := ok.tgt _ hmw
    rw [et]
    refine xgss_cons (xgs_if (xgt_tru (fun _ => rfl) (xge_call c h_is_over (Nat.le_of_ble_eq_true rfl) nm .here (xga_cons (xge_index (xge_fld (xge_fld (xge_nm c nm .here ?_ rfl) rfl) rfl) (fun b_ _ _ => by cases b_ <;> exact rfl)) rfl) rfl rfl)))
    mi_spec "opFld"
    mi_spec "opFld"
    refine xge_nm c nm (.there (.there (.there (.there .here)))) ?_ rfl
    -- stop: man self.state.awaited[other]
    refine rk_ixL (lst_own (by mi_spec "foc")) (ts_at hna) ?_
    refine xga_cons (xge_index (xge_fld (xge_fld (xge_nm c nm .here ?_ rfl) rfl) rfl) (fun b_ _ _ => by cases b_ <;> exact rfl)) rfl
    mi_spec "opFld"
    mi_spec "opFld"
    refine xge_nm c nm (.there (.there (.there (.there .here)))) ?_ rfl
    -- stop: man self.state.modes[other]
    refine rk_ixL (lst_own (by mi_spec "foc")) (bl_at hnm) ?_
    rw [v1', v2']
    refine xga_cons (xge_nm c nm (.there (.there .here)) (xga_nil ?_) rfl) rfl
    -- stop: call is_over
    refine callK_all ⟨_, r.st.awaited.getD n [], _, _, endB ph, rfl, Or.inl lst_fr, lst_own (by mi_spec "foc"), fun i hi => by unfold endB; rw [List.length_map]; have := htg.2 i hi; omega, ?_⟩
    mi_spec "opTru"
    -- stop: if
    refine brB ?_ ?_ <;> intro hb
    · rw [if_pos (show ov n = true from hb), List.foldl_append]
      refine xgss_cons (xgs_asgSub (xge_str (xge_fld (xge_fld (xge_nm c nm .here ?_ rfl) rfl) rfl)) (fun _ => rfl) rfl rfl rfl)
      mi_spec "opFld"
      mi_spec "opFld"
      refine xge_nm c nm (.there (.there (.there (.there .here)))) ?_ rfl
      -- stop: STOP store
      refine st_own (by mi_spec "foc") (nat_ix (by simp; omega)) ?_
      refine xgss_cons (xgs_asgSub (GTE.freeze ?_) (fun _ => rfl) rfl rfl rfl)
      refine xge_lst ?_
      refine xga_nil ?_
      refine ⟨Nat.le_of_ble_eq_true rfl, fun p => ?_⟩
      refine ⟨_, _, _, rfl, by mi_spec "rem", ?_⟩
      refine xge_fld (xge_fld (xge_nm c nm .here ?_ rfl) rfl) rfl
      mi_spec "opFld"
      mi_spec "opFld"
      refine xge_nm c nm (.there (.there (.there (.there .here)))) ?_ rfl
      -- stop: STOP store
      refine st_own (by mi_spec "foc") (nat_ix (by simp; omega)) ?_
      refine xgss_cons (xgs_asgSub (xge_bl (xge_fld (xge_fld (xge_nm c nm .here ?_ rfl) rfl) rfl)) (fun _ => rfl) rfl rfl rfl)
      mi_spec "opFld"
      mi_spec "opFld"
      refine xge_nm c nm (.there (.there (.there (.there .here)))) ?_ rfl
      -- stop: STOP store
      refine st_own (by mi_spec "foc") (nat_ix (by simp; omega)) ?_
      refine xgss_cons (xgs_expr (xge_bm PySem.F.plainAttrs_list PySem.F.slot_list_append PySem.F.type_list_append mt_append (xge_nm c nm (.there (.there (.there .here))) ?_ rfl) rfl rfl rfl rfl rfl) rfl)
      mi_spec "opTy"
      refine xga_cons (xge_nm c nm (.there (.there (.there (.there .here)))) (xga_nil ?_) rfl) rfl
      mi_spec "rm_append"
      · simp; omega
      refine xgss_nil (xgss_nil ?_)
      refine ⟨⟨_, rfl⟩, ?_⟩
      generalize ((W.take j).filter ov).foldl wake k0 = kk
      have e1 : (dStrs kk.phases).set n (D.str "running") = dStrs (wake kk n).phases := by simp [List.map_set, wake]
      have e2 : (dTs kk.awaited).set n (D.lst []) = dTs (wake kk n).awaited := by simp [List.map_set, wake]
      have e3 : (dBls kk.modes).set n (D.bl false) = dBls (wake kk n).modes := by simp [List.map_set, wake]
      rw [e1, e2, e3, ints_app]
      exact Ent.refl _
    · rw [if_neg (show ¬ ov n = true by rw [show ov n = false from hb]; decide), List.append_nil]
      refine xgss_nil (xgss_nil ?_)
      exact ⟨⟨_, rfl⟩, Ent.refl _⟩
  · rintro ds' G' ⟨o, rfl⟩ en
    refine GTS.ent en ?_
    have ew : (W.take (dInts W).length).filter ov = r.st.hall.woken t := by
      rw [List.take_of_length_le (by simp)]
      have := woken_eq (h := r.st.hall) (t := t) (by simp)
      rw [← this]
      show W.filter ov = (phL (r.st.phases.set t "ended") "waiting" r.st.phases.length).filter (fun o => overB (r.st.modes.getD o false) (r.st.awaited.getD o []) (endB (r.st.phases.set t "ended")))
      rw [eph, ← eW, hlen]
    have ef : (r.st.hall.woken t).foldl wake k0 = r.st.hall.fin t := by
      unfold Hall.fin
      show _ = (r.st.hall.woken t).foldl wake ⟨[], r.st.phases.set t "ended", r.st.awaited, r.st.modes⟩
      rw [eph]
    rw [ew, ef]
    refine xgss_cons (xgs_ret (xge_nm c nm (.there (.there (.there .here))) ?_ rfl))
    exact ⟨gl X.K p (dInts (r.st.hall.woken t)) :: gRtx X.K a (r.withSt (r.st.fin t)), by rw [gRtx_with]; (show Ent _ (gl X.K p (dInts (r.st.hall.woken t)) :: (gi X.K a.p (cRt X.K) (rtFs X.K a r) :: gSt X.K a.st ⟨r.st.fam, (r.st.hall.fin t).phases, (r.st.hall.fin t).awaited, (r.st.hall.fin t).modes, r.st.held⟩) ++ G2)); mi_spec "entE", q p⟩
end
section
variable {P : Program} {w : World} {K : PySem.W.Frag} {mg : Str → Option Value} {base : Heap}
theorem ok_rcalld {f : Addr} {fd : FuncData} (F : FunD K "__call__" "Runtime.__call__" (defArgs s_Runtime___call__) (defBody s_Runtime___call__) (defScope s_Runtime___call__) [] [] f fd) (T : Tx K mg) (h_Runtime_bear : MethAt P w K mg base 4 (He.ga K "Runtime") "bear" (aRBear K)) (h_Runtime_end : MethAt P w K mg base 3 (He.ga K "Runtime") "end" (aREnd K)) (h_Runtime_wait : ∃ g, BMeth K (He.ga K "Runtime") "wait" g ∧ FnSK P w K mg base 6 g 2 ["any_of"] (aRWait K))  : FnOk P w K mg base (L2.CX P w) 7 f fd ["self", "deed"] (conc K (aRCallD K)) := by
  refine def_ok F sc_Runtime___call__ nm_Runtime___call__ (fun es G KN KE ⟨_, _, _, e, _⟩ => by rw [e] <;> rfl) ?_
  rintro X F0 es G G2 KN KE rfl rfl rfl rfl rfl c hfn nm rz ⟨a, r, e, rfl, rfl, ok, dk, q⟩
  have c0 := T.c_Runtime
  have l1 := ok.st.l1
  have hfs := ok.st.fam.small
  have bare : ∀ (d1 d2 : D), (true = decide (((List.drop 2 [d1, d2]).length : Int) = 0)) := fun _ _ => rfl
  cases e with
  | bear t =>
    show GSs X F0 _ [some (.raw (.ref a.p)), some (.tup [.str "bear", .int (t : Int)]), none, none, none, none] (gRt X.K a r ++ G2) _
    refine xgss_cons (xgs_if (xgt_of_w (xgw_or (xgt_compare (xge_callB c nm .here T.mlen bt_len (xga_cons (xge_nm c nm (.there .here) (xga_nil ?_) rfl) rfl) rfl rfl) (nm_Lt _)))))
    mi_spec "rl_len"
    refine xge_int ?_
    mi_spec "opLt"
    refine kb ?_
    -- stop: br xgw_or
    refine brNo (by simp) ?_
    refine xgw_or1 (xgt_compare (xge_index (xge_nm c nm (.there .here) (xge_int ?_) rfl) (fun b_ _ _ => by cases b_ <;> exact rfl)) rfl)
    mi_spec "opIx 0"
    refine xge_tup (xga_cons (xge_str (xga_cons (xge_str (xga_cons (xge_str (xga_cons (xge_str (xga_nil ?_)) rfl)) rfl)) rfl)) rfl)
    refine ⟨Nat.le_of_ble_eq_true rfl, ?_⟩
    -- stop: in
    refine rk_ninS (zs := ["bear", "wait", "any", "end"]) (Or.inr tup_fr) ?_
    refine kb ?_
    -- stop: if
    refine brQ0 (by decide +kernel) (xgss_nil ?_)
    refine xgss_cons (xgs_par2 c (.there (.there .here)) (.there (.there (.there .here))) (by decide) rfl rfl (fun env h => by cases env; cases h; rfl) (xga_cons (xge_index (xge_nm c nm (.there .here) (xge_int ?_) rfl) (fun b_ _ _ => by cases b_ <;> exact rfl)) rfl) rfl)
    mi_spec "opIx 0"
    refine xga_cons (xge_index (xge_nm c nm (.there .here) (xge_int ?_) rfl) (fun b_ _ _ => by cases b_ <;> exact rfl)) rfl
    mi_spec "opIx 1"
    refine xga_nil ?_
    refine ⟨_, _, rfl, ?_⟩
    refine xgss_cons (xgs_asg c hfn nm (.there (.there (.there (.there .here)))) (xge_cutT (xge_nm c nm (.there .here) (xge_int ?_) rfl)) rfl rfl)
    -- stop: cut
    refine ⟨_, 2, tup_fr, rfl, by decide, by simp, ?_⟩
    refine xgss_cons (xgs_if (xgt_compare (xge_or (xge_compare (xge_nm c nm (.there (.there .here)) (xge_str ?_) rfl) (nm_Eq _))) (nm_Eq _)))
    mi_spec "opEq"
    refine ⟨_, rfl, ?_⟩
    -- stop: br xge_or
    refine brNo (by decide) ?_
    refine xge_one (xge_compare (xge_nm c nm (.there (.there .here)) (xge_str ?_) rfl) (nm_Eq _))
    mi_spec "opEq"
    refine xge_compare (xge_callB c nm .here T.mlen bt_len (xga_cons (xge_nm c nm (.there (.there (.there (.there .here)))) (xga_nil ?_) rfl) rfl) rfl rfl) (nm_Eq _)
    mi_spec "rl_len"
    refine xge_int ?_
    mi_spec "opEq"
    mi_spec "opEq"
    refine kb ?_
    -- stop: if
    refine brNo (fun h => by rw [← bare] at h; exact absurd h (by decide +kernel)) (xgss_nil ?_)
    refine xgss_cons (xgs_if (xgt_compare (xge_nm c nm (.there (.there .here)) (xge_str ?_) rfl) (nm_Eq _)))
    mi_spec "opEq"
    refine kb ?_
    -- stop: if
    refine brY rfl ?_
    refine xgss_cons (xgs_ret (xge_meth c T.c_Runtime h_Runtime_bear (Nat.le_of_ble_eq_true rfl) (xge_nm c nm .here ?_ rfl) rfl rfl rfl))
    mi_spec "opInsM"
    refine xga_cons (xge_nm c nm (.there (.there (.there .here))) (xga_nil ?_) rfl) rfl
    mi_spec "opInsP"
    -- stop: call Runtime.bear
    refine ⟨gRtx X.K a r, _, by mi_spec "ent", a, r, t, rfl, rfl, ok.st, dk.1, dk.2.1, dk.2.2, ok.lim, ?_⟩
    exact ⟨gRt X.K a (r.withSt (r.st.add t r.hands)), by rw [gRtx_with, gRt_with]; mi_spec "entE", q⟩
  | fin t =>
    show GSs X F0 _ [some (.raw (.ref a.p)), some (.tup [.str "end", .int (t : Int)]), none, none, none, none] (gRt X.K a r ++ G2) _
    refine xgss_cons (xgs_if (xgt_of_w (xgw_or (xgt_compare (xge_callB c nm .here T.mlen bt_len (xga_cons (xge_nm c nm (.there .here) (xga_nil ?_) rfl) rfl) rfl rfl) (nm_Lt _)))))
    mi_spec "rl_len"
    refine xge_int ?_
    mi_spec "opLt"
    refine kb ?_
    -- stop: br xgw_or
    refine brNo (by simp) ?_
    refine xgw_or1 (xgt_compare (xge_index (xge_nm c nm (.there .here) (xge_int ?_) rfl) (fun b_ _ _ => by cases b_ <;> exact rfl)) rfl)
    mi_spec "opIx 0"
    refine xge_tup (xga_cons (xge_str (xga_cons (xge_str (xga_cons (xge_str (xga_cons (xge_str (xga_nil ?_)) rfl)) rfl)) rfl)) rfl)
    refine ⟨Nat.le_of_ble_eq_true rfl, ?_⟩
    -- stop: in
    refine rk_ninS (zs := ["bear", "wait", "any", "end"]) (Or.inr tup_fr) ?_
    refine kb ?_
    -- stop: if
    refine brQ0 (by decide +kernel) (xgss_nil ?_)
    refine xgss_cons (xgs_par2 c (.there (.there .here)) (.there (.there (.there .here))) (by decide) rfl rfl (fun env h => by cases env; cases h; rfl) (xga_cons (xge_index (xge_nm c nm (.there .here) (xge_int ?_) rfl) (fun b_ _ _ => by cases b_ <;> exact rfl)) rfl) rfl)
    mi_spec "opIx 0"
    refine xga_cons (xge_index (xge_nm c nm (.there .here) (xge_int ?_) rfl) (fun b_ _ _ => by cases b_ <;> exact rfl)) rfl
    mi_spec "opIx 1"
    refine xga_nil ?_
    refine ⟨_, _, rfl, ?_⟩
    refine xgss_cons (xgs_asg c hfn nm (.there (.there (.there (.there .here)))) (xge_cutT (xge_nm c nm (.there .here) (xge_int ?_) rfl)) rfl rfl)
    -- stop: cut
    refine ⟨_, 2, tup_fr, rfl, by decide, by simp, ?_⟩
    refine xgss_cons (xgs_if (xgt_compare (xge_or (xge_compare (xge_nm c nm (.there (.there .here)) (xge_str ?_) rfl) (nm_Eq _))) (nm_Eq _)))
    mi_spec "opEq"
    refine ⟨_, rfl, ?_⟩
    -- stop: br xge_or
    refine brNo (by decide) ?_
    refine xge_one (xge_compare (xge_nm c nm (.there (.there .here)) (xge_str ?_) rfl) (nm_Eq _))
    mi_spec "opEq"
    refine xge_compare (xge_callB c nm .here T.mlen bt_len (xga_cons (xge_nm c nm (.there (.there (.there (.there .here)))) (xga_nil ?_) rfl) rfl) rfl rfl) (nm_Eq _)
    mi_spec "rl_len"
    refine xge_int ?_
    mi_spec "opEq"
    mi_spec "opEq"
    refine kb ?_
    -- stop: if
    refine brNo (fun h => by rw [← bare] at h; exact absurd h (by decide +kernel)) (xgss_nil ?_)
    refine xgss_cons (xgs_if (xgt_compare (xge_nm c nm (.there (.there .here)) (xge_str ?_) rfl) (nm_Eq _)))
    mi_spec "opEq"
    refine kb ?_
    -- stop: if
    refine brNo (by decide) (xgss_nil ?_)
    refine xgss_cons (xgs_if (xgt_compare (xge_nm c nm (.there (.there .here)) (xge_str ?_) rfl) (nm_Eq _)))
    mi_spec "opEq"
    refine kb ?_
    -- stop: if
    refine brY rfl ?_
    refine xgss_cons (xgs_ret (xge_meth c T.c_Runtime h_Runtime_end (Nat.le_of_ble_eq_true rfl) (xge_nm c nm .here ?_ rfl) rfl rfl rfl))
    mi_spec "opInsM"
    refine xga_cons (xge_nm c nm (.there (.there (.there .here))) (xga_nil ?_) rfl) rfl
    mi_spec "opInsP"
    -- stop: call Runtime.end
    refine ⟨gRtx X.K a r, _, by mi_spec "ent", a, r, t, rfl, rfl, ok.st, dk.1, dk.2, fun p => ?_⟩
    exact ⟨gl X.K p (dInts (r.st.hall.woken t)) :: gRt X.K a (r.withSt (r.st.fin t)), by rw [gRtx_with, gRt_with]; mi_spec "entE", q p⟩
  | wait m t ts =>
    have hne := dk.2.ne
    have hsm := dk.2.sm
    have some_ : ∀ (d1 d2 : D), (false = decide (((List.drop 2 (d1 :: d2 :: dInts ts)).length : Int) = 0)) := fun d1 d2 => by
      show false = decide (((dInts ts).length : Int) = 0)
      rw [eq_comm, decide_eq_false_iff_not]
      simp
      intro h
      rw [h] at hne
      simp at hne
    cases m with
    | false =>
      show GSs X F0 _ [some (.raw (.ref a.p)), some (.tup (.str "wait" :: .int (t : Int) :: dInts ts)), none, none, none, none] (gRt X.K a r ++ G2) _
      refine xgss_cons (xgs_if (xgt_of_w (xgw_or (xgt_compare (xge_callB c nm .here T.mlen bt_len (xga_cons (xge_nm c nm (.there .here) (xga_nil ?_) rfl) rfl) rfl rfl) (nm_Lt _)))))
      mi_spec "rl_len"
      refine xge_int ?_
      mi_spec "opLt"
      refine kb ?_
      -- stop: br xgw_or
      refine brNo (by simp; omega) ?_
      refine xgw_or1 (xgt_compare (xge_index (xge_nm c nm (.there .here) (xge_int ?_) rfl) (fun b_ _ _ => by cases b_ <;> exact rfl)) rfl)
      mi_spec "opIx 0"
      refine xge_tup (xga_cons (xge_str (xga_cons (xge_str (xga_cons (xge_str (xga_cons (xge_str (xga_nil ?_)) rfl)) rfl)) rfl)) rfl)
      refine ⟨Nat.le_of_ble_eq_true rfl, ?_⟩
      -- stop: in
      refine rk_ninS (zs := ["bear", "wait", "any", "end"]) (Or.inr tup_fr) ?_
      refine kb ?_
      -- stop: if
      refine brQ0 (by decide +kernel) (xgss_nil ?_)
      refine xgss_cons (xgs_par2 c (.there (.there .here)) (.there (.there (.there .here))) (by decide) rfl rfl (fun env h => by cases env; cases h; rfl) (xga_cons (xge_index (xge_nm c nm (.there .here) (xge_int ?_) rfl) (fun b_ _ _ => by cases b_ <;> exact rfl)) rfl) rfl)
      mi_spec "opIx 0"
      refine xga_cons (xge_index (xge_nm c nm (.there .here) (xge_int ?_) rfl) (fun b_ _ _ => by cases b_ <;> exact rfl)) rfl
      mi_spec "opIx 1"
      refine xga_nil ?_
      refine ⟨_, _, rfl, ?_⟩
      refine xgss_cons (xgs_asg c hfn nm (.there (.there (.there (.there .here)))) (xge_cutT (xge_nm c nm (.there .here) (xge_int ?_) rfl)) rfl rfl)
      -- stop: cut
      refine ⟨_, 2, tup_fr, rfl, by decide, by simp, ?_⟩
      refine xgss_cons (xgs_if (xgt_compare (xge_or (xge_compare (xge_nm c nm (.there (.there .here)) (xge_str ?_) rfl) (nm_Eq _))) (nm_Eq _)))
      mi_spec "opEq"
      refine ⟨_, rfl, ?_⟩
      -- stop: br xge_or
      refine brY rfl ?_
      refine xge_compare (xge_callB c nm .here T.mlen bt_len (xga_cons (xge_nm c nm (.there (.there (.there (.there .here)))) (xga_nil ?_) rfl) rfl) rfl rfl) (nm_Eq _)
      mi_spec "rl_len"
      refine xge_int ?_
      mi_spec "opEq"
      mi_spec "opEq"
      refine kb ?_
      -- stop: if
      refine brNo (fun h => by rw [← some_] at h; exact absurd h (by decide +kernel)) (xgss_nil ?_)
      refine xgss_cons (xgs_if (xgt_compare (xge_nm c nm (.there (.there .here)) (xge_str ?_) rfl) (nm_Eq _)))
      mi_spec "opEq"
      refine kb ?_
      -- stop: if
      refine brNo (by decide) (xgss_nil ?_)
      refine xgss_cons (xgs_if (xgt_compare (xge_nm c nm (.there (.there .here)) (xge_str ?_) rfl) (nm_Eq _)))
      mi_spec "opEq"
      refine kb ?_
      -- stop: if
      refine brNo (by decide) (xgss_nil ?_)
      refine xgss_cons (xgs_asg c hfn nm (.there (.there (.there (.there (.there .here))))) (xge_compare (xge_nm c nm (.there (.there .here)) (xge_str ?_) rfl) (nm_Eq _)) rfl rfl)
      mi_spec "opEq"
      refine xgss_cons (xgs_ret ?_)
      obtain ⟨g_, bm_, sk_⟩ := h_Runtime_wait
      refine xge_methSK c T.c_Runtime bm_ sk_ (Nat.le_of_ble_eq_true rfl) (xge_nm c nm .here ?_ rfl) rfl rfl rfl rfl rfl
      mi_spec "opInsM"
      refine xge_nm c nm (.there (.there (.there .here))) (xge_nm c nm (.there (.there (.there (.there .here)))) ?_ rfl) rfl
      mi_spec "opStarK"
      -- stop: starK
      · show (dInts ts).length ≤ 1000
        simp
        omega
      refine xgk_cons (xge_nm c nm (.there (.there (.there (.there (.there .here))))) (xgk_nil ?_) rfl)
      -- stop: call h_Runtime_wait
      refine ⟨rfl, gRt X.K a r, _, by mi_spec "ent", a, r, t, false, ts, rfl, rfl, ok.st, by have := dk.1; omega, dk.2, ?_⟩
      exact ⟨gRt X.K a (r.withSt (r.st.wait t false ts)), by rw [gRt_with]; mi_spec "entE", q⟩
    | true =>
      show GSs X F0 _ [some (.raw (.ref a.p)), some (.tup (.str "any" :: .int (t : Int) :: dInts ts)), none, none, none, none] (gRt X.K a r ++ G2) _
      refine xgss_cons (xgs_if (xgt_of_w (xgw_or (xgt_compare (xge_callB c nm .here T.mlen bt_len (xga_cons (xge_nm c nm (.there .here) (xga_nil ?_) rfl) rfl) rfl rfl) (nm_Lt _)))))
      mi_spec "rl_len"
      refine xge_int ?_
      mi_spec "opLt"
      refine kb ?_
      -- stop: br xgw_or
      refine brNo (by simp; omega) ?_
      refine xgw_or1 (xgt_compare (xge_index (xge_nm c nm (.there .here) (xge_int ?_) rfl) (fun b_ _ _ => by cases b_ <;> exact rfl)) rfl)
      mi_spec "opIx 0"
      refine xge_tup (xga_cons (xge_str (xga_cons (xge_str (xga_cons (xge_str (xga_cons (xge_str (xga_nil ?_)) rfl)) rfl)) rfl)) rfl)
      refine ⟨Nat.le_of_ble_eq_true rfl, ?_⟩
      -- stop: in
      refine rk_ninS (zs := ["bear", "wait", "any", "end"]) (Or.inr tup_fr) ?_
      refine kb ?_
      -- stop: if
      refine brQ0 (by decide +kernel) (xgss_nil ?_)
      refine xgss_cons (xgs_par2 c (.there (.there .here)) (.there (.there (.there .here))) (by decide) rfl rfl (fun env h => by cases env; cases h; rfl) (xga_cons (xge_index (xge_nm c nm (.there .here) (xge_int ?_) rfl) (fun b_ _ _ => by cases b_ <;> exact rfl)) rfl) rfl)
      mi_spec "opIx 0"
      refine xga_cons (xge_index (xge_nm c nm (.there .here) (xge_int ?_) rfl) (fun b_ _ _ => by cases b_ <;> exact rfl)) rfl
      mi_spec "opIx 1"
      refine xga_nil ?_
      refine ⟨_, _, rfl, ?_⟩
      refine xgss_cons (xgs_asg c hfn nm (.there (.there (.there (.there .here)))) (xge_cutT (xge_nm c nm (.there .here) (xge_int ?_) rfl)) rfl rfl)
      -- stop: cut
      refine ⟨_, 2, tup_fr, rfl, by decide, by simp, ?_⟩
      refine xgss_cons (xgs_if (xgt_compare (xge_or (xge_compare (xge_nm c nm (.there (.there .here)) (xge_str ?_) rfl) (nm_Eq _))) (nm_Eq _)))
      mi_spec "opEq"
      refine ⟨_, rfl, ?_⟩
      -- stop: br xge_or
      refine brNo (by decide) ?_
      refine xge_one (xge_compare (xge_nm c nm (.there (.there .here)) (xge_str ?_) rfl) (nm_Eq _))
      mi_spec "opEq"
      refine xge_compare (xge_callB c nm .here T.mlen bt_len (xga_cons (xge_nm c nm (.there (.there (.there (.there .here)))) (xga_nil ?_) rfl) rfl) rfl rfl) (nm_Eq _)
      mi_spec "rl_len"
      refine xge_int ?_
      mi_spec "opEq"
      mi_spec "opEq"
      refine kb ?_
      -- stop: if
      refine brNo (fun h => by rw [← some_] at h; exact absurd h (by decide +kernel)) (xgss_nil ?_)
      refine xgss_cons (xgs_if (xgt_compare (xge_nm c nm (.there (.there .here)) (xge_str ?_) rfl) (nm_Eq _)))
      mi_spec "opEq"
      refine kb ?_
      -- stop: if
      refine brNo (by decide) (xgss_nil ?_)
      refine xgss_cons (xgs_if (xgt_compare (xge_nm c nm (.there (.there .here)) (xge_str ?_) rfl) (nm_Eq _)))
      mi_spec "opEq"
      refine kb ?_
      -- stop: if
      refine brNo (by decide) (xgss_nil ?_)
      refine xgss_cons (xgs_asg c hfn nm (.there (.there (.there (.there (.there .here))))) (xge_compare (xge_nm c nm (.there (.there .here)) (xge_str ?_) rfl) (nm_Eq _)) rfl rfl)
      mi_spec "opEq"
      refine xgss_cons (xgs_ret ?_)
      obtain ⟨g_, bm_, sk_⟩ := h_Runtime_wait
      refine xge_methSK c T.c_Runtime bm_ sk_ (Nat.le_of_ble_eq_true rfl) (xge_nm c nm .here ?_ rfl) rfl rfl rfl rfl rfl
      mi_spec "opInsM"
      refine xge_nm c nm (.there (.there (.there .here))) (xge_nm c nm (.there (.there (.there (.there .here)))) ?_ rfl) rfl
      mi_spec "opStarK"
      -- stop: starK
      · show (dInts ts).length ≤ 1000
        simp
        omega
      refine xgk_cons (xge_nm c nm (.there (.there (.there (.there (.there .here))))) (xgk_nil ?_) rfl)
      -- stop: call h_Runtime_wait
      refine ⟨rfl, gRt X.K a r, _, by mi_spec "ent", a, r, t, true, ts, rfl, rfl, ok.st, by have := dk.1; omega, dk.2, ?_⟩
      exact ⟨gRt X.K a (r.withSt (r.st.wait t true ts)), by rw [gRt_with]; mi_spec "entE", q⟩
end
section
variable {P : Program} {w : World} {K : PySem.W.Frag} {mg : Str → Option Value} {base : Heap}
structure FirstOk (K : PySem.W.Frag) (w : World) (mg : Str → Option Value) : Prop where
  g : mg "FIRST" = some (.ref (He.ga K "FIRST"))
  d : ∃ es n, KDict K w (He.ga K "FIRST") es n
  e : ∃ t, PySem.W.nsIn K (He.ga K "FIRST") "ended" = some (some (.int 0 t))
  r : ∃ t, PySem.W.nsIn K (He.ga K "FIRST") "running" = some (some (.int 1 t))
  w : PySem.W.nsIn K (He.ga K "FIRST") "waiting" = some none
def PhOk (z : Str) : Prop := z = ("ended" : Str) ∨ z = ("running" : Str) ∨ z = ("waiting" : Str)
def firstN (z : Str) : Option Nat := if z = ("ended" : Str) then some 0 else if z = ("running" : Str) then some 1 else none
def leN (c : Nat) : Option Nat → Bool
  | none => false
  | some n => decide (n ≤ c)
/-- the number of task i behind the turn c -/
def newN (aw : List (List Nat)) (mo : List Bool) (nums : List (Option Nat)) (c i : Nat) : Option Nat :=
  if (nums.getD i none).isNone && overB (mo.getD i false) (aw.getD i []) (nums.map (leN c)) then some (c + 1) else nums.getD i none
def stepN (aw : List (List Nat)) (mo : List Bool) (nums : List (Option Nat)) (c : Nat) : List (Option Nat) := (List.range nums.length).map (newN aw mo nums c)
def numsN (ph : List Str) (aw : List (List Nat)) (mo : List Bool) : Nat → List (Option Nat)
  | 0 => ph.map firstN
  | c + 1 => stepN aw mo (numsN ph aw mo c) c
theorem stepN_len {aw mo nums c} : (stepN aw mo nums c).length = nums.length := by simp [stepN]
theorem numsN_len {ph aw mo} : ∀ c, (numsN ph aw mo c).length = ph.length
  | 0 => by simp [numsN]
  | c + 1 => by rw [numsN, stepN_len, numsN_len c]
structure DelOk (ph : List Str) (aw : List (List Nat)) (mo : List Bool) : Prop where
  l2 : aw.length = ph.length
  l3 : mo.length = ph.length
  sm : ph.length ≤ 600
  phs : ∀ z ∈ ph, PhOk z
  tgt : ∀ ts ∈ aw, ∀ i ∈ ts, i < ph.length
abbrev aDelays (K : PySem.W.Frag) : ASp := fun es G KN _ => ∃ d1 d2 d3 ph aw mo, es = [d1, d2, d3] ∧ LstAt K G d1 (dStrs ph) ∧ LstAt K G d2 (dTs aw) ∧ LstAt K G d3 (dBls mo) ∧ DelOk ph aw mo ∧ ∀ p, KN (.raw (.ref p)) (gl K p (dOpts (numsN ph aw mo (ph.length + 1))) :: G)
abbrev aTaskDelays (K : PySem.W.Frag) : ASp := fun es G KN _ => ∃ a r, es = [.raw (.ref (RtAd.p a))] ∧ G = gRtx K a r ∧ DelOk r.st.phases r.st.awaited r.st.modes ∧ ∀ p, KN (.raw (.ref p)) (gl K p (dOpts (numsN r.st.phases r.st.awaited r.st.modes (r.st.phases.length + 1))) :: gRtx K a r)
/-- the list within the turn c, behind j tasks -/
def midN (aw : List (List Nat)) (mo : List Bool) (nums : List (Option Nat)) (c j : Nat) : List (Option Nat) := (List.range j).map (newN aw mo nums c) ++ nums.drop j
theorem midN_get {aw mo nums c j i} (hj : j ≤ nums.length) (hi : j ≤ i) : (midN aw mo nums c j).getD i none = nums.getD i none := by
  unfold midN
  rw [List.getD_eq_getElem?_getD, List.getD_eq_getElem?_getD, List.getElem?_append_right (by simpa using hi), List.getElem?_drop]
  simp
  congr 2
  omega
theorem midN_len {aw mo nums c j} (hj : j ≤ nums.length) : (midN aw mo nums c j).length = nums.length := by
  unfold midN
  simp
  omega
theorem midN_succ {aw mo nums c j} (hj : j < nums.length) : midN aw mo nums c (j + 1) = (midN aw mo nums c j).set j (newN aw mo nums c j) := by
  unfold midN
  rw [List.range_succ, List.map_append, List.drop_eq_getElem_cons hj, List.append_assoc]
  rw [List.set_append_right _ _ (by simp), List.length_map, List.length_range, Nat.sub_self, List.set_cons_zero]
  rfl
theorem midN_same {aw mo nums c j} (hj : j < nums.length) (h : newN aw mo nums c j = nums.getD j none) : midN aw mo nums c (j + 1) = midN aw mo nums c j := by
  rw [midN_succ hj, h]
  have e := midN_get (aw := aw) (mo := mo) (c := c) (Nat.le_of_lt hj) (Nat.le_refl j)
  have hl := midN_len (aw := aw) (mo := mo) (c := c) (Nat.le_of_lt hj)
  rw [← e, getD_nth (by omega)]
  simp
theorem midN_all {aw mo nums c} : midN aw mo nums c nums.length = stepN aw mo nums c := by
  unfold midN stepN
  simp
theorem opts_at {ns : List (Option Nat)} {n : Nat} (h : n < ns.length) : atI (dOpts ns) ((n : Nat) : Int) = some (optD (ns.getD n none)) := Ly.atI_nat (by rw [List.getElem?_map, List.getD_eq_getElem?_getD, List.getElem?_eq_getElem h] <;> rfl)
theorem opts_nth {ts : List (Option Nat)} {j : Nat} {y : D} (h : (dOpts ts)[j]? = some y) : ∃ n, ts[j]? = some n ∧ y = optD n := by
  rw [List.getElem?_map] at h
  cases q : ts[j]? with
  | none => rw [q] at h; cases h
  | some n => rw [q] at h; cases h; exact ⟨n, rfl, rfl⟩
theorem isN_opt {K : PySem.W.Frag} {o : Option Nat} : ∀ F v, Rep K F (optD o) v → decide (v = .non) = o.isNone := fun F v r => by
  cases o with
  | none => rw [show optD none = D.non from rfl] at r; rw [rep_non.mp r]; rfl
  | some n => rw [show optD (some n) = D.int (n : Int) from rfl] at r; rw [rep_int.mp r]; rfl
theorem ok_delays {f : Addr} {fd : FuncData} (F : FunD K "delays" "delays" (defArgs s_delays) (defBody s_delays) (defScope s_delays) [] [] f fd) (T : Tx K mg) (h_is_over : DefAt P w K mg base 1 "is_over" (aOver K)) (hF : FirstOk K w mg) : FnOk P w K mg base (L2.CX P w) 2 f fd ["phases", "awaited", "modes"] (conc K (aDelays K)) := by
  refine def_ok F sc_delays nm_delays (fun es G KN KE ⟨_, _, _, _, _, _, e, _⟩ => by rw [e] <;> rfl) ?_
  rintro X F0 es G G2 KN KE rfl rfl rfl rfl rfl c hfn nm rz ⟨d1, d2, d3, ph, aw, mo, rfl, h1, h2, h3, ok, q⟩
  show GSs X F0 _ [some (d1), some (d2), some (d3), none, none, none, none, none, none] (G ++ G2) _
  have g1 : LstAt X.K (G ++ G2) d1 (dStrs ph) := h1.mono
  have g2 : LstAt X.K (G ++ G2) d2 (dTs aw) := h2.mono
  have g3 : LstAt X.K (G ++ G2) d3 (dBls mo) := h3.mono
  have l2 := ok.l2
  have l3 := ok.l3
  have sm := ok.sm
  obtain ⟨es_, n_, kd⟩ := hF.d
  obtain ⟨t1, f1⟩ := hF.e
  obtain ⟨t2, f2⟩ := hF.r
  have f3 := hF.w
  refine xgss_cons (xgs_setLc c (.there (.there (.there .here))) (by decide +kernel) rfl rfl (by decide +kernel) (lcOk_by (by decide +kernel)) (src_L (fun _ => rfl)) (by decide) (xgt_lcL c (.there (.there (.there (.there (.there (.there (.there .here))))))) (xge_nm c nm .here ?_ rfl)))
  -- stop: comp [FIRST.get(phase) for phase in phases]
  refine ⟨dStrs ph, g1, LcL.same (fun j acc => acc = dOpts ((ph.take j).map firstN)) g1 rfl ?_ ?_⟩
  · rintro j y acc pp hy rfl
    obtain ⟨z, hz, rfl⟩ := strs_at hy
    have hjl : (ph.take j).length ≤ ph.length := by rw [List.length_take]; omega
    intro s H env fp fnv c'
    have vm := vmOk_of c' (Gn := ["FIRST"]) (vis := [7]) (by decide +kernel)
    refine xge_kget kd (xge_globR c' vm.gl_ .here hF.g ⟨rfl, ?_⟩) (m1_of rfl rfl rfl rfl)
    refine xge_vm c' vm (.there (.there (.there (.there (.there (.there (.there .here))))))) ?_ rfl
    have fin : ∀ o, o = firstN z → EltA X.K pp (dOpts ((ph.take j).map firstN)) (fun acc' G' => acc' = dOpts ((ph.take (j + 1)).map firstN) ∧ Ent G' (G ++ G2)) (optD o) (gl X.K pp (dOpts ((ph.take j).map firstN)) :: (G ++ G2)) := by
      rintro o rfl
      refine ⟨_, Ent.refl _, by simp; omega, ?_, Ent.refl _⟩
      rw [List.take_succ, hz]
      simp
    refine ⟨z, rfl, ?_⟩
    rcases ok.phs z (List.mem_of_getElem? hz) with rfl | rfl | rfl
    · exact .inr ⟨0, t1, f1, fin (some 0) rfl⟩
    · exact .inr ⟨1, t2, f2, fin (some 1) rfl⟩
    · exact .inl ⟨f3, fin none rfl⟩
  rintro pn acc G' rfl en
  rw [show (dStrs ph).length = ph.length by simp, List.take_of_length_le (Nat.le_refl _)]
  refine GTS.ent (Ent.cons _ en) ?_
  refine xgss_cons (xgs_forR1 c hfn nm (.there (.there (.there (.there .here)))) .here T.mrange (xga_cons (xge_binop (xge_callB c nm (.there .here) T.mlen bt_len (xga_cons (xge_nm c nm .here (xga_nil ?_) rfl) rfl) rfl rfl)) rfl) rfl rfl)
  mi_spec "rl_len"
  refine xge_int ?_
  mi_spec "opAdd"
  refine xga_nil ?_
  -- stop: for
  have hph : ((dStrs ph).length : Int) = (ph.length : Int) := by simp
  refine ⟨_, rfl, ⟨by rw [hph]; omega, by rw [hph]; omega⟩, ForR.chg (fun j => gl X.K pn (dOpts (numsN ph aw mo j)) :: (G ++ G2)) (fun j ds' => ∃ o1 o2 o3, ds' = [some d1, some d2, some d3, some (.raw (.ref pn)), o1, o2, o3, none, none]) ⟨_, _, _, rfl⟩ (Ent.refl _) ?_ ?_⟩
  · rintro cc ds' hc ⟨o1, o2, o3, rfl⟩
    rw [Int.zero_add]
    have hc' : cc ≤ ph.length := by rw [hph] at hc; omega
    have hnl := @numsN_len ph aw mo cc
    generalize enum : numsN ph aw mo cc = nums at hnl
    have estep : numsN ph aw mo (cc + 1) = stepN aw mo nums cc := by rw [numsN, enum]
    rw [estep]
    refine xgss_cons (xgs_setLc c (.there (.there (.there (.there (.there .here))))) (by decide +kernel) rfl rfl (by decide +kernel) (lcOk_by (by decide +kernel)) (src_L (fun _ => rfl)) (by decide) (xgt_lcL c (.there (.there (.there (.there (.there (.there (.there (.there .here)))))))) (xge_nm c nm (.there (.there (.there .here))) ?_ rfl)))
    -- stop: comp [number is not None and number <= count for number in numbers]
    refine ⟨dOpts nums, lst_own (by mi_spec "foc"), LcL.same (fun j acc => acc = dBls ((nums.take j).map (leN cc))) (lst_own (by mi_spec "foc")) rfl ?_ ?_⟩
    · rintro j y acc pp hy rfl
      obtain ⟨o, ho, ey⟩ := opts_nth hy
      have hjl : (nums.take j).length ≤ nums.length := by rw [List.length_take]; omega
      have fin : ∀ b, b = leN cc o → EltA X.K pp (dBls ((nums.take j).map (leN cc))) (fun acc' G' => acc' = dBls ((nums.take (j + 1)).map (leN cc)) ∧ Ent G' (gl X.K pn (dOpts nums) :: (G ++ G2))) (.bl b) (gl X.K pp (dBls ((nums.take j).map (leN cc))) :: gl X.K pn (dOpts nums) :: (G ++ G2)) := by
        rintro b rfl
        refine ⟨_, Ent.refl _, by simp; omega, ?_, Ent.refl _⟩
        rw [List.take_succ, ho]
        simp
      intro s H env fp fnv c'
      have vm := vmOk_of c' (Gn := []) (vis := [4, 8]) (by decide +kernel)
      cases o with
      | none =>
        have e : y = D.non := ey
        subst e
        refine xge_and (xge_compare (xge_vm c' vm (.there (.there (.there (.there (.there (.there (.there (.there .here)))))))) (xge_non ?_) rfl) (nm_IsNot _))
        mi_spec "opIsNot"
        refine ⟨_, rfl, ?_⟩
        -- stop: br xge_and
        exact brF (fin false rfl)
      | some n =>
        have e : y = D.int (n : Int) := ey
        subst e
        refine xge_and (xge_compare (xge_vm c' vm (.there (.there (.there (.there (.there (.there (.there (.there .here)))))))) (xge_non ?_) rfl) (nm_IsNot _))
        mi_spec "opIsNot"
        refine ⟨_, rfl, ?_⟩
        -- stop: br xge_and
        refine brT ?_
        refine xge_one (xge_compare (xge_vm c' vm (.there (.there (.there (.there (.there (.there (.there (.there .here)))))))) (xge_vm c' vm (.there (.there (.there (.there .here)))) ?_ rfl) rfl) (nm_LtE _))
        mi_spec "opLtE"
        exact fin _ (dec_congr (by omega))
    rintro pd acc G' rfl en
    rw [show (dOpts nums).length = nums.length by simp, List.take_of_length_le (Nat.le_refl _)]
    refine GTS.ent (Ent.cons _ en) ?_
    have e1 : LstAt X.K (gl X.K pd (dBls (nums.map (leN cc))) :: gl X.K pn (dOpts nums) :: (G ++ G2)) d1 (dStrs ph) := g1.cons.cons
    refine xgss_cons (xgs_forR1 c hfn nm (.there (.there (.there (.there (.there (.there .here)))))) .here T.mrange (xga_cons (xge_callB c nm (.there .here) T.mlen bt_len (xga_cons (xge_nm c nm .here (xga_nil ?_) rfl) rfl) rfl rfl) rfl) rfl rfl)
    mi_spec "rl_len"
    refine xga_nil ?_
    -- stop: for
    refine ⟨_, rfl, ⟨by rw [hph]; omega, by rw [hph]; omega⟩, ForR.chg (fun i => gl X.K pd (dBls (nums.map (leN cc))) :: gl X.K pn (dOpts (midN aw mo nums cc i)) :: (G ++ G2)) (fun j ds' => ∃ o3, ds' = [some d1, some d2, some d3, some (.raw (.ref pn)), some (.int ((cc : Nat) : Int)), some (.raw (.ref pd)), o3, none, none]) ⟨_, rfl⟩ (Ent.refl _) ?_ ?_⟩
    · rintro i ds' hi ⟨o3, rfl⟩
      rw [Int.zero_add]
      have hi1 : i < nums.length := by rw [hph] at hi; omega
      have hml := midN_len (aw := aw) (mo := mo) (c := cc) (Nat.le_of_lt hi1)
      have hmg := midN_get (aw := aw) (mo := mo) (c := cc) (Nat.le_of_lt hi1) (Nat.le_refl i)
      have hia : i < aw.length := by omega
      have him : i < mo.length := by omega
      have hmw : aw.getD i [] ∈ aw := by rw [getD_nth hia]; exact List.getElem_mem _
      have htg := ok.tgt _ hmw
      have e2 : LstAt X.K (gl X.K pd (dBls (nums.map (leN cc))) :: gl X.K pn (dOpts (midN aw mo nums cc i)) :: (G ++ G2)) d2 (dTs aw) := g2.cons.cons
      have e3 : LstAt X.K (gl X.K pd (dBls (nums.map (leN cc))) :: gl X.K pn (dOpts (midN aw mo nums cc i)) :: (G ++ G2)) d3 (dBls mo) := g3.cons.cons
      refine xgss_cons (xgs_if (xgt_val (((nums.getD i none).isNone && overB (mo.getD i false) (aw.getD i []) (nums.map (leN cc)))) ?_ ?_))
      · refine xgt_of_w (xgw_and (xgt_compare (xge_index (xge_nm c nm (.there (.there (.there .here))) (xge_nm c nm (.there (.there (.there (.there (.there (.there .here)))))) ?_ rfl) rfl) (fun b_ _ _ => by cases b_ <;> exact rfl)) (nm_Is _)))
        -- stop: man numbers[task]
        refine rk_ixL (lst_own (by mi_spec "foc")) (opts_at (by omega)) ?_
        refine xge_non ?_
        -- stop: man numbers[task] is None
        refine rk_isN isN_opt ?_
        rw [hmg]
        refine kb ?_
        -- stop: br xgw_and
        refine brB ?_ ?_ <;> intro hn
        · refine xgw_and1 (xgt_tru (fun _ => rfl) (xge_call c h_is_over (Nat.le_of_ble_eq_true rfl) nm (.there (.there .here)) (xga_cons (xge_index (xge_nm c nm (.there .here) (xge_nm c nm (.there (.there (.there (.there (.there (.there .here)))))) ?_ rfl) rfl) (fun b_ _ _ => by cases b_ <;> exact rfl)) rfl) rfl rfl))
          -- stop: man awaited[task]
          refine rk_ixL e2 (ts_at hia) ?_
          refine xga_cons (xge_index (xge_nm c nm (.there (.there .here)) (xge_nm c nm (.there (.there (.there (.there (.there (.there .here)))))) ?_ rfl) rfl) (fun b_ _ _ => by cases b_ <;> exact rfl)) rfl
          -- stop: man modes[task]
          refine rk_ixL e3 (bl_at him) ?_
          refine xga_cons (xge_nm c nm (.there (.there (.there (.there (.there .here))))) (xga_nil ?_) rfl) rfl
          -- stop: call is_over
          refine callK_all ⟨_, aw.getD i [], _, _, nums.map (leN cc), rfl, Or.inl lst_fr, lst_own (by mi_spec "foc"), fun k hk => by rw [List.length_map, hnl]; exact htg k hk, ?_⟩
          mi_spec "opTru"
          exact ⟨by rw [hn, Bool.true_and], rfl⟩
        · exact ⟨by rw [hn, Bool.false_and], rfl⟩
      refine brB ?_ ?_ <;> intro hb
      · refine xgss_cons (xgs_asgSub (xge_binop (xge_nm c nm (.there (.there (.there (.there .here)))) (xge_int ?_) rfl)) (fun _ => rfl) rfl rfl rfl)
        mi_spec "opAdd"
        refine xge_nm c nm (.there (.there (.there .here))) (xge_nm c nm (.there (.there (.there (.there (.there (.there .here)))))) ?_ rfl) rfl
        -- stop: STOP store
        refine st_own (by mi_spec "foc") (nat_ix (by simp; omega)) ?_
        refine xgss_nil (xgss_nil ?_)
        refine ⟨⟨_, rfl⟩, ?_⟩
        have en : newN aw mo nums cc i = some (cc + 1) := by unfold newN; rw [if_pos hb]
        rw [midN_succ hi1, en]
        have es : (dOpts (midN aw mo nums cc i)).set i (.int ((cc : Int) + 1)) = dOpts ((midN aw mo nums cc i).set i (some (cc + 1))) := by
          show _ = List.map optD _
          rw [List.map_set]
          rfl
        rw [es]
        exact Ent.refl _
      · refine xgss_nil (xgss_nil ?_)
        have en : newN aw mo nums cc i = nums.getD i none := by unfold newN; rw [if_neg (by rw [hb]; decide)]
        exact ⟨⟨_, rfl⟩, by rw [midN_same hi1 en]; exact Ent.refl _⟩
    · rintro ds' G' ⟨o3, rfl⟩ en
      refine xgss_nil ?_
      have e : ((dStrs ph).length : Int).toNat = nums.length := by rw [hph]; omega
      rw [e, midN_all] at en
      exact ⟨⟨_, _, _, rfl⟩, en.trans Ent.drop⟩
  · rintro ds' G' ⟨o1, o2, o3, rfl⟩ en
    refine GTS.ent en ?_
    have e : ((dStrs ph).length + 1 : Int).toNat = ph.length + 1 := by rw [hph]; omega
    rw [e]
    refine xgss_cons (xgs_ret (xge_nm c nm (.there (.there (.there .here))) ?_ rfl))
    exact ⟨gl X.K pn (dOpts (numsN ph aw mo (ph.length + 1))) :: G, by mi_spec "entE", q pn⟩
theorem ok_taskdelays {f : Addr} {fd : FuncData} (F : FunD K "task_delays" "task_delays" (defArgs s_task_delays) (defBody s_task_delays) (defScope s_task_delays) [] [] f fd) (T : Tx K mg) (h_delays : DefAt P w K mg base 2 "delays" (aDelays K))  : FnOk P w K mg base (L2.CX P w) 3 f fd ["runtime"] (conc K (aTaskDelays K)) := by
  refine def_ok F sc_task_delays nm_task_delays (fun es G KN KE ⟨_, _, e, _⟩ => by rw [e] <;> rfl) ?_
  rintro X F0 es G G2 KN KE rfl rfl rfl rfl rfl c hfn nm rz ⟨a, r, rfl, rfl, ok, q⟩
  show GSs X F0 _ [some (.raw (.ref a.p))] (gRtx X.K a r ++ G2) _
  simp only [gRt, gRtx, List.cons_append, List.nil_append, List.append_assoc]
  have c0 := T.c_Runtime
  have c1 := T.c_State
  have n4 := T.na_Runtime_state
  have n5 := T.na_State_phases
  have n6 := T.na_State_awaited
  have n7 := T.na_State_modes
  refine xgss_cons (xgs_ret (xge_call c h_delays (Nat.le_of_ble_eq_true rfl) nm .here (xga_cons (xge_fld (xge_fld (xge_nm c nm .here ?_ rfl) rfl) rfl) rfl) rfl rfl))
  mi_spec "opFld"
  mi_spec "opFld"
  refine xga_cons (xge_fld (xge_fld (xge_nm c nm .here ?_ rfl) rfl) rfl) rfl
  mi_spec "opFld"
  mi_spec "opFld"
  refine xga_cons (xge_fld (xge_fld (xge_nm c nm .here ?_ rfl) rfl) rfl) rfl
  mi_spec "opFld"
  mi_spec "opFld"
  refine xga_nil ?_
  -- stop: call delays
  refine callK_all ⟨_, _, _, r.st.phases, r.st.awaited, r.st.modes, rfl, lst_own (by mi_spec "foc"), lst_own (by mi_spec "foc"), lst_own (by mi_spec "foc"), ok, fun p => ?_⟩
  exact ⟨gl X.K p (dOpts (numsN r.st.phases r.st.awaited r.st.modes (r.st.phases.length + 1))) :: gRtx X.K a r, by mi_spec "entE", q p⟩
end
/-! M2: what an end does. -/
abbrev phAt (ph : List Str) (i : Nat) : Str := ph.getD i ⟨#[]⟩
theorem getD_set_eq {α : Type} {xs : List α} {i : Nat} {v d : α} (h : i < xs.length) : (xs.set i v).getD i d = v := by
  rw [List.getD_eq_getElem?_getD, List.getElem?_set_self h]; rfl
theorem getD_set_ne {α : Type} {xs : List α} {i j : Nat} {v d : α} (h : i ≠ j) : (xs.set i v).getD j d = xs.getD j d := by
  rw [List.getD_eq_getElem?_getD, List.getD_eq_getElem?_getD, List.getElem?_set_ne h]
theorem wake_in (l : List Nat) : ∀ k : Hall, ∀ o, o ∈ l → o < k.phases.length → phAt (l.foldl wake k).phases o = ("running" : Str) := by
  induction l with
  | nil => exact fun k o h => by cases h
  | cons x l ih =>
    intro k o ho hl
    simp only [List.foldl_cons]
    by_cases hm : o ∈ l
    · exact ih (wake k x) o hm (by simpa [wake] using hl)
    · have hx : o = x := by simpa [hm] using ho
      have := (wake_other l (wake k x) o hm).2.2
      show (List.foldl wake (wake k x) l).phases.getD o ⟨#[]⟩ = _
      rw [this, hx]
      show (k.phases.set x "running").getD x ⟨#[]⟩ = _
      rw [getD_set_eq (by rw [← hx]; exact hl)]
theorem wake_aw (l : List Nat) : ∀ k : Hall, ∀ ts ∈ (l.foldl wake k).awaited, ts = [] ∨ ts ∈ k.awaited := by
  induction l with
  | nil => exact fun k ts h => .inr h
  | cons x l ih =>
    intro k ts h
    rcases ih (wake k x) ts h with e | h
    · exact .inl e
    · rcases List.mem_or_eq_of_mem_set h with h | h
      · exact .inr h
      · exact .inl h
theorem mem_woken {h : Hall} {t o : Nat} : o ∈ h.woken t ↔ o < h.phases.length ∧ phAt (h.phases.set t "ended") o = ("waiting" : Str) ∧ overB (h.modes.getD o false) (h.awaited.getD o []) (endB (h.phases.set t "ended")) = true := by
  unfold Hall.woken wakes
  rw [List.mem_filter, List.mem_range, Bool.and_eq_true, decide_eq_true_iff]
theorem not_woken {h : Hall} {t : Nat} (ht : t < h.phases.length) : t ∉ h.woken t := fun hm => by
  have := (mem_woken.mp hm).2.1
  rw [show phAt (h.phases.set t ("ended" : Str)) t = "ended" from getD_set_eq ht] at this
  exact absurd this (by decide)
/-- the phases behind an end -/
theorem fin_at {h : Hall} {t o : Nat} (ht : t < h.phases.length) (ho : o < h.phases.length) : phAt (h.fin t).phases o = if o = t then ("ended" : Str) else if o ∈ h.woken t then ("running" : Str) else phAt h.phases o := by
  unfold Hall.fin
  by_cases e : o = t
  · rw [if_pos e]
    have := (wake_other (h.woken t) ⟨h.births, h.phases.set t "ended", h.awaited, h.modes⟩ o (by rw [e]; exact not_woken ht)).2.2
    show (List.foldl wake _ _).phases.getD o ⟨#[]⟩ = _
    rw [this, e]
    exact getD_set_eq ht
  · rw [if_neg e]
    by_cases hm : o ∈ h.woken t
    · rw [if_pos hm]
      exact wake_in _ _ o hm (by simpa using ho)
    · rw [if_neg hm]
      have := (wake_other (h.woken t) ⟨h.births, h.phases.set t "ended", h.awaited, h.modes⟩ o hm).2.2
      show (List.foldl wake _ _).phases.getD o ⟨#[]⟩ = _
      rw [this]
      exact getD_set_ne (fun q => e q.symm)
theorem fin_lens {h : Hall} {t : Nat} : (h.fin t).phases.length = h.phases.length ∧ (h.fin t).awaited.length = h.awaited.length ∧ (h.fin t).modes.length = h.modes.length := by
  have := wake_lens (h.woken t) ⟨h.births, h.phases.set t "ended", h.awaited, h.modes⟩
  unfold Hall.fin
  simpa using this
theorem St.fin_ok {s : St} {t : Nat} (ok : s.Ok) : (s.fin t).Ok := by
  obtain ⟨a, b, c⟩ := @fin_lens s.hall t
  refine ⟨ok.fam, ok.tree, a.trans ok.l1, b.trans ok.l2, c.trans ok.l3, ok.l4, fun ts h => ?_, ok.hb⟩
  have hl : (s.fin t).phases.length = s.phases.length := a
  rcases wake_aw _ _ ts h with e | h
  · rw [e]
    simp
  · rw [hl]
    exact ok.tgt ts h
theorem St.fin_len {s : St} {t : Nat} : (s.fin t).phases.length = s.phases.length := (@fin_lens s.hall t).1
theorem St.fin_at {s : St} {t o : Nat} (ht : t < s.phases.length) (ho : o < s.phases.length) : phAt (s.fin t).phases o = if o = t then ("ended" : Str) else if o ∈ s.hall.woken t then ("running" : Str) else phAt s.phases o := K76.fin_at (h := s.hall) ht ho
/-- ends one behind another -/
def endAll (s : St) (l : List Nat) : St := l.foldl St.fin s
theorem endAll_len (l : List Nat) : ∀ s : St, (endAll s l).phases.length = s.phases.length := by
  induction l with
  | nil => exact fun s => rfl
  | cons x l ih => exact fun s => (ih (s.fin x)).trans St.fin_len
theorem endAll_ok (l : List Nat) : ∀ s : St, s.Ok → (endAll s l).Ok := by
  induction l with
  | nil => exact fun s h => h
  | cons x l ih => exact fun s h => ih (s.fin x) (St.fin_ok h)
/-- a running task stays running until it is ended -/
theorem endAll_run (l : List Nat) : ∀ s : St, (∀ x ∈ l, x < s.phases.length) → ∀ o, o < s.phases.length → o ∉ l → phAt s.phases o = ("running" : Str) → phAt (endAll s l).phases o = ("running" : Str) := by
  induction l with
  | nil => exact fun s _ o _ _ h => h
  | cons x l ih =>
    intro s hl o ho hn hr
    simp only [List.mem_cons, not_or] at hn
    refine ih (s.fin x) (fun y hy => by rw [St.fin_len]; exact hl y (List.mem_cons_of_mem _ hy)) o (by rw [St.fin_len]; exact ho) hn.2 ?_
    rw [St.fin_at (hl x (List.mem_cons_self ..)) ho, if_neg hn.1]
    split
    · rfl
    · exact hr
theorem endAll_ended (l : List Nat) : ∀ s : St, l.Nodup → (∀ x ∈ l, x < s.phases.length ∧ phAt s.phases x = ("running" : Str)) → ∀ o, o < s.phases.length → (phAt (endAll s l).phases o = ("ended" : Str) ↔ o ∈ l ∨ phAt s.phases o = ("ended" : Str)) := by
  induction l with
  | nil => exact fun s _ _ o _ => by simp [endAll]
  | cons x l ih =>
    intro s hn hl o ho
    obtain ⟨hn1, hn2⟩ := List.nodup_cons.mp hn
    have hx := hl x (List.mem_cons_self ..)
    have key : ∀ y ∈ l, y < (s.fin x).phases.length ∧ phAt (s.fin x).phases y = ("running" : Str) := fun y hy => by
      have := hl y (List.mem_cons_of_mem _ hy)
      refine ⟨by rw [St.fin_len]; exact this.1, ?_⟩
      rw [St.fin_at hx.1 this.1, if_neg (fun e : y = x => hn1 (e ▸ hy))]
      split
      · rfl
      · exact this.2
    have := ih (s.fin x) hn2 key o (by rw [St.fin_len]; exact ho)
    rw [show endAll s (x :: l) = endAll (s.fin x) l from rfl, this, St.fin_at hx.1 ho, List.mem_cons]
    by_cases e : o = x
    · simp [e]
    · rw [if_neg e]
      by_cases hm : o ∈ s.hall.woken x
      · rw [if_pos hm]
        have hw := (mem_woken.mp hm).2.1
        rw [show phAt (s.hall.phases.set x ("ended" : Str)) o = phAt s.phases o from getD_set_ne (fun q => e q.symm)] at hw
        have d1 : ("running" : Str) ≠ ("ended" : Str) := by decide
        have d2 : ("waiting" : Str) ≠ ("ended" : Str) := by decide
        rw [hw]
        simp [e, d1, d2]
      · rw [if_neg hm]
        simp [e]
theorem mem_phL {ph : List Str} {z : Str} {n o : Nat} : o ∈ phL ph z n ↔ o < n ∧ phAt ph o = z := by
  unfold phL inPh
  rw [List.mem_filter, List.mem_range, decide_eq_true_iff]
def runs (s : St) : List Nat := phL s.phases "running" s.phases.length
def stK (s : St) : Nat → St
  | 0 => s
  | k + 1 => endAll (stK s k) (runs (stK s k))
theorem stK_len (s : St) : ∀ k, (stK s k).phases.length = s.phases.length
  | 0 => rfl
  | k + 1 => by rw [stK, endAll_len, stK_len s k]
theorem stK_ok {s : St} (ok : s.Ok) : ∀ k, (stK s k).Ok
  | 0 => ok
  | k + 1 => endAll_ok _ _ (stK_ok ok k)
/-- how many have ended -/
def cntE (ph : List Str) : Nat := (List.range ph.length).countP fun i => decide (phAt ph i = ("ended" : Str))
theorem countP_lt {p q : Nat → Bool} : ∀ {l : List Nat}, (∀ x ∈ l, p x = true → q x = true) → (∃ x ∈ l, q x = true ∧ p x = false) → l.countP p < l.countP q
  | [], _, ⟨x, h, _⟩ => by cases h
  | a :: l, hpq, ⟨x, hx, hq, hp⟩ => by
    rw [List.countP_cons, List.countP_cons]
    have hmono : l.countP p ≤ l.countP q := List.countP_mono_left fun y hy h => hpq y (List.mem_cons_of_mem _ hy) h
    rcases List.mem_cons.mp hx with e | hx
    · subst e
      rw [hq, hp]
      simp
      omega
    · have := countP_lt (fun y hy => hpq y (List.mem_cons_of_mem _ hy)) ⟨x, hx, hq, hp⟩
      have h1 := hpq a (List.mem_cons_self ..)
      cases hpa : p a with
      | true => rw [h1 hpa]; omega
      | false =>
        simp
        omega
theorem cntE_le (ph : List Str) : cntE ph ≤ ph.length := by
  have := List.countP_le_length (p := fun i => decide (phAt ph i = ("ended" : Str))) (l := List.range ph.length)
  rw [List.length_range] at this
  exact this
theorem round_cnt {s : St} (h : runs s ≠ []) : cntE s.phases < cntE (endAll s (runs s)).phases := by
  have hr : ∀ x ∈ runs s, x < s.phases.length ∧ phAt s.phases x = ("running" : Str) := fun x hx => mem_phL.mp hx
  have hn : (runs s).Nodup := phL_nodup
  have key := endAll_ended (runs s) s hn hr
  unfold cntE
  rw [endAll_len]
  refine countP_lt (fun x hx he => ?_) ?_
  · rw [decide_eq_true_iff] at he ⊢
    exact (key x (List.mem_range.mp hx)).mpr (.inr he)
  · obtain ⟨x, hx⟩ := List.exists_mem_of_ne_nil _ h
    refine ⟨x, List.mem_range.mpr (hr x hx).1, ?_, ?_⟩
    · rw [decide_eq_true_iff]
      exact (key x (hr x hx).1).mpr (.inl hx)
    · rw [decide_eq_false_iff_not, (hr x hx).2]
      decide
section
variable {P : Program} {w : World} {K : PySem.W.Frag} {mg : Str → Option Value} {base : Heap}
abbrev roundsK (s : St) (k : Nat) : List (List Nat) := (List.range k).map fun i => runs (stK s i)
abbrev aEndRounds (K : PySem.W.Frag) : ASp := fun es G KN _ => ∃ a r, es = [.raw (.ref (RtAd.p a))] ∧ G = gRtx K a r ∧ r.st.Ok ∧ ∀ k, (∀ i, i < k → runs (stK r.st i) ≠ []) → runs (stK r.st k) = [] → ∀ p, KN (.raw (.ref p)) (gl K p (dTs (roundsK r.st k)) :: gRtx K a (r.withSt (stK r.st k)))
theorem ok_endrounds {f : Addr} {fd : FuncData} (F : FunD K "end_in_rounds" "end_in_rounds" (defArgs s_end_in_rounds) (defBody s_end_in_rounds) (defScope s_end_in_rounds) [] [] f fd) (T : Tx K mg) (h_Runtime_running : PropAt P w K mg base 2 (He.ga K "Runtime") "running" (aRunning K)) (h_Runtime_end : MethAt P w K mg base 3 (He.ga K "Runtime") "end" (aREnd K))  : FnOk P w K mg base (L2.CX P w) 4 f fd ["runtime"] (conc K (aEndRounds K)) := by
  refine def_ok F sc_end_in_rounds nm_end_in_rounds (fun es G KN KE ⟨_, _, e, _⟩ => by rw [e] <;> rfl) ?_
  rintro X F0 es G G2 KN KE rfl rfl rfl rfl rfl c hfn nm rz ⟨a, r, rfl, rfl, ok, q⟩
  show GSs X F0 _ [some (.raw (.ref a.p)), none, none, none] (gRtx X.K a r ++ G2) _
  simp only [gRt, gRtx, List.cons_append, List.nil_append, List.append_assoc]
  have c0 := T.c_Runtime
  have hn : ∀ k, (stK r.st k).phases.length ≤ 600 := fun k => by have := (stK_ok ok k).fam.small; have := (stK_ok ok k).l1; omega
  refine xgss_cons (xgs_asg c hfn nm (.there .here) (xge_lst ?_) rfl rfl)
  refine xga_nil ?_
  refine ⟨Nat.le_of_ble_eq_true rfl, fun p => ?_⟩
  refine xgss_cons (xgs_asg c hfn nm (.there (.there .here)) (xge_prop c T.c_Runtime h_Runtime_running (Nat.le_of_ble_eq_true rfl) (xge_nm c nm .here ?_ rfl) rfl) rfl rfl)
  mi_spec "opInsP"
  -- stop: prop Runtime.running
  refine ⟨gRtx X.K a r, _, by mi_spec "ent", a, r, rfl, rfl, hn 0, fun p0 => ?_⟩
  refine xgss_cons (xgs_while c (fun m ds G => ∃ k p2 o, m = 600 - cntE (stK r.st k).phases ∧ (∀ i, i < k → runs (stK r.st i) ≠ []) ∧ k ≤ cntE (stK r.st k).phases ∧ ds = [some (.raw (.ref a.p)), some (.raw (.ref p)), some (.raw (.ref p2)), o] ∧ Ent G (gl X.K p2 (dInts (runs (stK r.st k))) :: gl X.K p (dTs (roundsK r.st k)) :: (gi X.K a.p (cRt X.K) (rtFs X.K a r) :: gSt X.K a.st (stK r.st k) ++ G2))) (600 - cntE r.st.phases) ⟨0, p0, _, rfl, fun i hi => absurd hi (by omega), Nat.zero_le _, rfl, (show Ent _ (gl X.K p0 (dInts (phL r.st.phases "running" r.st.phases.length)) :: gl X.K p [] :: (gi X.K a.p (cRt X.K) (rtFs X.K a r) :: gSt X.K a.st r.st ++ G2)) from by mi_spec "entE")⟩ ?_)
  rintro m ds G' ⟨k, p2, o, rfl, hk, hkc, rfl, en⟩
  refine GTT.ent en ?_
  have hle := cntE_le (stK r.st k).phases
  have hnk := hn k
  refine xgt_compare (xge_callB c nm .here T.mlen bt_len (xga_cons (xge_nm c nm (.there (.there .here)) (xga_nil ?_) rfl) rfl) rfl rfl) (nm_Gt _)
  mi_spec "rl_len"
  refine xge_int ?_
  mi_spec "opGt"
  refine kb ?_
  rw [show ((dInts (runs (stK r.st k))).length : Int) = ((runs (stK r.st k)).length : Int) by simp]
  refine br ?_ ?_ <;> intro hp
  · have hne : runs (stK r.st k) ≠ [] := fun e => by rw [e] at hp; simp at hp
    have hcnt := round_cnt hne
    have oks := stK_ok ok k
    have hrun : ∀ x ∈ runs (stK r.st k), x < (stK r.st k).phases.length ∧ phAt (stK r.st k).phases x = ("running" : Str) := fun x hx => mem_phL.mp hx
    have hnd : (runs (stK r.st k)).Nodup := phL_nodup
    have estep : stK r.st (k + 1) = endAll (stK r.st k) (runs (stK r.st k)) := rfl
    have erun : roundsK r.st (k + 1) = roundsK r.st k ++ [runs (stK r.st k)] := by
      unfold roundsK
      rw [List.range_succ, List.map_append]
      rfl
    generalize stK r.st k = s at hcnt oks hrun hnd estep hkc hle hnk erun ⊢
    generalize eW : runs s = W at hcnt hrun hnd estep erun
    refine xgss_cons (xgs_forL c hfn (.there (.there (.there .here))) (nm.loc (.there (.there (.there .here))) rfl) (xge_nm c nm (.there (.there .here)) ?_ rfl) (fun _ => rfl))
    -- stop: for
    refine ⟨dInts W, ForL.chg (fun j => gl X.K p2 (dInts W) :: gl X.K p (dTs (roundsK r.st k)) :: (gi X.K a.p (cRt X.K) (rtFs X.K a r) :: gSt X.K a.st (endAll s (W.take j)) ++ G2)) (fun j ds' => ∃ o, ds' = [some (.raw (.ref a.p)), some (.raw (.ref p)), some (.raw (.ref p2)), o]) (fun j _ => lst_own (by mi_spec "foc")) ⟨_, rfl⟩ (Ent.refl _) ?_ ?_⟩
    · rintro j y ds' hy ⟨o, rfl⟩
      obtain ⟨n, hn', rfl⟩ := dInts_at hy
      have hmem := List.mem_of_getElem? hn'
      have hnot : n ∉ W.take j := by have := nodup_notin hnd hn' (p := fun _ => true); simpa using this
      have h1 := endAll_run (W.take j) s (fun x hx => (hrun x (List.mem_of_mem_take hx)).1) n (hrun n hmem).1 hnot (hrun n hmem).2
      have et : endAll s (W.take (j + 1)) = (endAll s (W.take j)).fin n := by
        unfold endAll
        rw [List.take_succ, hn', List.foldl_append]
        rfl
      rw [et]
      have hoks := endAll_ok (W.take j) s oks
      have hlen := endAll_len (W.take j) s
      generalize endAll s (W.take j) = sj at h1 hoks hlen
      refine xgss_cons (xgs_expr (xge_meth c T.c_Runtime h_Runtime_end (Nat.le_of_ble_eq_true rfl) (xge_nm c nm .here ?_ rfl) rfl rfl rfl) rfl)
      mi_spec "opInsM"
      refine xga_cons (xge_nm c nm (.there (.there (.there .here))) (xga_nil ?_) rfl) rfl
      mi_spec "opInsP"
      -- stop: call Runtime.end
      refine ⟨gRtx X.K a (r.withSt sj), _, by (rw [gRtx_with]; mi_spec "ent"), a, r.withSt sj, n, rfl, rfl, hoks, by show n < sj.phases.length; rw [hlen]; exact (hrun n hmem).1, h1, fun pw => ?_⟩
      refine xgss_nil ?_
      exact ⟨⟨_, rfl⟩, by (rw [show gRtx X.K a ((r.withSt sj).withSt ((r.withSt sj).st.fin n)) = gi X.K a.p (cRt X.K) (rtFs X.K a r) :: gSt X.K a.st (sj.fin n) from rfl]); mi_spec "entE"⟩
    · rintro ds' G' ⟨o, rfl⟩ en
      refine GTS.ent en ?_
      rw [show (dInts W).length = W.length by simp, List.take_of_length_le (Nat.le_refl _), ← estep]
      refine xgss_cons (xgs_expr (xge_bm PySem.F.plainAttrs_list PySem.F.slot_list_append PySem.F.type_list_append mt_append (xge_nm c nm (.there .here) ?_ rfl) rfl rfl rfl rfl rfl) rfl)
      mi_spec "opTy"
      refine xga_cons (GTE.freeze ?_) rfl
      refine xge_nm c nm (.there (.there .here)) ?_ rfl
      refine ⟨_, _, _, rfl, by mi_spec "rem", ?_⟩
      refine xga_nil ?_
      mi_spec "rm_append"
      · simp; omega
      refine xgss_cons (xgs_asg c hfn nm (.there (.there .here)) (xge_prop c T.c_Runtime h_Runtime_running (Nat.le_of_ble_eq_true rfl) (xge_nm c nm .here ?_ rfl) rfl) rfl rfl)
      mi_spec "opInsP"
      -- stop: prop Runtime.running
      refine ⟨gRtx X.K a (r.withSt (stK r.st (k + 1))), _, by (rw [gRtx_with]; mi_spec "ent"), a, r.withSt (stK r.st (k + 1)), rfl, rfl, hn (k + 1), fun p3 => ?_⟩
      refine xgss_nil ?_
      refine ⟨600 - cntE (stK r.st (k + 1)).phases, by rw [estep]; have := cntE_le (endAll s W).phases; rw [endAll_len] at this; omega, k + 1, p3, _, rfl, ?_, by rw [estep]; omega, rfl, ?_⟩
      · intro i hi
        by_cases e : i < k
        · exact hk i e
        · have : i = k := by omega
          subst this
          exact hne
      · rw [erun, ← ts_app]
        show Ent (gl X.K p3 (dInts (runs (stK r.st (k + 1)))) :: (gi X.K a.p (cRt X.K) (rtFs X.K a r) :: gSt X.K a.st (stK r.st (k + 1))) ++ gl X.K p (dTs (roundsK r.st k) ++ [D.lst (dInts W)]) :: ([] ++ G2)) _
        mi_spec "entE"
  · have he : runs (stK r.st k) = [] := by
      cases e : runs (stK r.st k) with
      | nil => rfl
      | cons x l => rw [e] at hp; simp at hp
    refine xgss_cons (xgs_ret (xge_nm c nm (.there .here) ?_ rfl))
    exact ⟨gl X.K p (dTs (roundsK r.st k)) :: gRtx X.K a (r.withSt (stK r.st k)), by rw [gRtx_with]; mi_spec "entE", q k hk he p⟩
end
/-! ### the law's own -/
structure Stt where
  ns : List Int
  i : Nat
  x : Int
  cc : Int
  ff : Int
  hi : i ≤ ns.length
  hn : ns.length ≤ 63
def Stt.ds (s : Stt) : List D := [.lst (s.ns.map .int), .int s.i, .int s.x, .int s.cc, .int s.ff]
def gDraw (K : PySem.W.Frag) (p : Addr) : Grp := gx fun s : Stt => [gl K p s.ds]
abbrev aStart (K : PySem.W.Frag) : ASp := fun es G KN _ => ∃ d ns, es = [d] ∧ ScrAt K G d (List.map D.int ns) ∧ ns.length ≤ 63 ∧ ∀ p, KN (.raw (.ref p)) (gDraw K p :: G)
abbrev aDraw (K : PySem.W.Frag) : ASp := fun es G KN _ => ∃ p, ∃ many : Nat, es = [.raw (.ref p), .int (many : Int)] ∧ G = [gDraw K p] ∧ 0 < many ∧ many ≤ 1000 ∧ ∀ v : Nat, v < many → KN (.int (v : Int)) [gDraw K p]
abbrev aLSides (K : PySem.W.Frag) : ASp := fun es G KN _ => ∃ u d : Nat, es = [.int (u : Int), .int (d : Int)] ∧ G = [] ∧ ∀ p, KN (.raw (.ref p)) [gl K p (dStrs ((sidesC u d).map fun c => c.2.2))]
abbrev aLCapped : ASp := fun es G KN _ => ∃ c, ∃ r : Nat, es = [cellT c, .int (r : Int)] ∧ G = [] ∧ KN (cellT (capC r c)) []
abbrev aLKin (K : PySem.W.Frag) : ASp := fun es G KN _ => ∃ c, es = [cellT c] ∧ G = [] ∧ KinOk c ∧ KN (kinV K c) []
def psOf (births : List Nat) : List (Option Nat) := none :: births.map some
/-- parents are elder -/
def Elder (births : List Nat) : Prop := ∀ i, i < births.length → births.getD i 0 ≤ i
abbrev aLLine (K : PySem.W.Frag) : ASp := fun es G KN _ => ∃ d bs, ∃ t : Nat, es = [d, .int (t : Int)] ∧ LstAt K G d (dInts bs) ∧ Elder bs ∧ t ≤ bs.length ∧ bs.length ≤ 600 ∧ ∀ p, KN (.raw (.ref p)) (gl K p (dInts (lineOf (psOf bs) t)) :: G)
abbrev aLParts (K : PySem.W.Frag) : ASp := fun es G KN _ => ∃ d bs, ∃ s t : Nat, es = [d, .int (s : Int), .int (t : Int)] ∧ LstAt K G d (dInts bs) ∧ Elder bs ∧ s ≤ bs.length ∧ t ≤ bs.length ∧ bs.length ≤ 599 ∧ KN (cellT (partsOf (psOf bs) s t)) G
abbrev dCells (cs : List Cell) : List D := cs.map cellT
abbrev aLCells (K : PySem.W.Frag) : ASp := fun es G KN _ => ∃ r : Nat, es = [.int (r : Int)] ∧ G = [] ∧ 1 ≤ r ∧ r ≤ 4 ∧ ∀ p, KN (.raw (.ref p)) [gl K p (dCells (cellsOf r))]
/-- Rule(reach) with these cells -/
abbrev aLRule (K : PySem.W.Frag) : ASp := fun es G KN _ => ∃ r : Nat, ∃ cs : List Cell, es = [.int (r : Int), .lst (dCells cs)] ∧ G = [] ∧ 1 ≤ r ∧ r ≤ 4 ∧ (∀ c ∈ cs, CellOk r c) ∧ cs.length ≤ 100 ∧ ∀ a S, (∀ c, c ∈ S ↔ c ∈ cs) → S.length ≤ 100 → KN (.raw (.ref (RuleAd.p a))) (gRule K a r S)
def SideOk (c : Cell) : Prop := c.2.2 = ("line" : Str) ∨ c.2.2 = ("elder" : Str) ∨ c.2.2 = ("younger" : Str)
abbrev aLLets : ASp := fun es G KN _ => ∃ r : Nat, ∃ cs : List Cell, ∃ c : Cell, es = [.int (r : Int), .lst (dCells cs), cellT c] ∧ G = [] ∧ (∀ c ∈ cs, SideOk c) ∧ SideOk c ∧ KN (.bl (decide (capC r c ∈ cs))) []
abbrev flagsD (f : Flags) : D := .lst (handDs f)
def optF : Option Flags → D
  | none => .non
  | some f => flagsD f
abbrev aLFlags (K : PySem.W.Frag) : ASp := fun es G KN _ => ∃ p, es = [.raw (.ref p)] ∧ G = [gDraw K p] ∧ ∀ f, KN (flagsD f) [gDraw K p]
abbrev aLHands (K : PySem.W.Frag) : ASp := fun es G KN _ => ∃ f, es = [flagsD f] ∧ G = [] ∧ KN (handV K f) []
def heldF (f : Flags) (c : Cell) : Bool :=
  if c.1 + c.2.1 = 0 then false
  else if c.1 = 0 then f.keeps && (decide (c.2.1 = 1) || f.told)
  else if c.2.1 = 0 then f.greets && (decide (c.1 = 1) || f.inherits)
  else if c.2.2 = ("elder" : Str) then (f.keeps && f.inherits) && (decide (c.2.1 = 1) || f.told)
  else (f.greets && f.told) && (decide (c.1 = 1) || f.inherits)
abbrev aLHeld : ASp := fun es G KN _ => ∃ f c, es = [flagsD f, cellT c] ∧ G = [] ∧ KN (.bl (heldF f c)) []
def holdsF (o : Option Flags) (c : Cell) : Bool := match o with
  | none => decide (0 < c.1 + c.2.1)
  | some f => heldF f c
abbrev aLHolds : ASp := fun es G KN _ => ∃ o c, es = [optF o, cellT c] ∧ G = [] ∧ KN (.bl (holdsF o c)) []
abbrev aLGrip (K : PySem.W.Frag) : ASp := fun es G KN _ => ∃ o, es = [optF o] ∧ G = [] ∧ KN (handD K o) []
abbrev aLHall (K : PySem.W.Frag) : ASp := fun es G KN _ => es = [] ∧ G = [] ∧ ∀ p0 p1 p2 p3, KN (hallV p0 p1 p2 p3) (gHall K p0 p1 p2 p3 ⟨[], ["running"], [[]], [false]⟩)
section
variable {P : Program} {w : World} {K : PySem.W.Frag} {mg : Str → Option Value} {base : Heap}
theorem ok_lstart {f : Addr} {fd : FuncData} (F : FunD K "_law_start" "_law_start" (defArgs s__law_start) (defBody s__law_start) (defScope s__law_start) [] [] f fd) (T : Tx K mg)   : FnOk P w K mg base (L2.CX P w) 1 f fd ["script"] (conc K (aStart K)) := by
  refine def_ok F sc__law_start nm__law_start (fun es G KN KE ⟨_, _, e, _⟩ => by rw [e] <;> rfl) ?_
  rintro X F0 es G G2 KN KE rfl rfl rfl rfl rfl c hfn nm rz ⟨d, ns, rfl, hd, hl, q⟩
  show GSs X F0 _ [some (d)] (G ++ G2) _
  have hd' : ScrAt X.K (G ++ G2) d (List.map D.int ns) := hd.mono
  refine xgss_cons (xgs_ret (xge_lst ?_))
  refine xga_cons (GTE.freeze ?_) rfl
  refine xge_callTy c nm .here T.mlist bt_list (xga_cons (xge_nm c nm .here (xga_nil ?_) rfl) rfl) rfl rfl
  mi_spec "rl_list"
  refine fun l1 => ?_
  refine ⟨_, _, _, rfl, by mi_spec "rem", ?_⟩
  refine xga_cons (xge_int (xga_cons (xge_int (xga_cons (xge_int (xga_cons (xge_int (xga_nil ?_)) rfl)) rfl)) rfl)) rfl
  refine ⟨Nat.le_of_ble_eq_true rfl, fun l2 => ?_⟩
  refine ⟨gDraw X.K l2 :: G, gx_close (f := fun s : Stt => [gl X.K l2 s.ds]) ⟨ns, 0, 0, 0, 0, Nat.zero_le _, hl⟩, q l2⟩
theorem ok_lsides {f : Addr} {fd : FuncData} (F : FunD K "_law_sides" "_law_sides" (defArgs s__law_sides) (defBody s__law_sides) (defScope s__law_sides) [] [] f fd) (T : Tx K mg)   : FnOk P w K mg base (L2.CX P w) 1 f fd ["up", "down"] (conc K (aLSides K)) := by
  refine def_ok F sc__law_sides nm__law_sides (fun es G KN KE ⟨_, _, e, _⟩ => by rw [e] <;> rfl) ?_
  rintro X F0 es G G2 KN KE rfl rfl rfl rfl rfl c hfn nm rz ⟨u, d, rfl, rfl, q⟩
  show GSs X F0 _ [some (.int (u : Int)), some (.int (d : Int))] (G2) _
  refine xgss_cons (xgs_if (xgt_val (decide (u = 0 ∨ d = 0)) ?_ ?_))
  · refine xgt_of_w (xgw_or (xgt_compare (xge_nm c nm .here (xge_int ?_) rfl) (nm_Eq _)))
    mi_spec "opEq"
    refine kb ?_
    -- stop: br xgw_or
    refine br ?_ ?_ <;> intro h
    · exact ⟨by rw [eq_comm, decide_eq_true_iff]; omega, rfl⟩
    · refine xgw_or1 (xgt_compare (xge_nm c nm (.there .here) (xge_int ?_) rfl) (nm_Eq _))
      mi_spec "opEq"
      refine kb ?_
      exact ⟨by rw [Bool.eq_iff_iff]; simp; omega, rfl⟩
  refine br ?_ ?_ <;> intro h
  · refine xgss_cons (xgs_ret (xge_lst ?_))
    refine xga_cons (xge_str (xga_nil ?_)) rfl
    refine ⟨Nat.le_of_ble_eq_true rfl, fun l1 => ?_⟩
    refine ⟨[gl X.K l1 (dStrs ((sidesC u d).map fun c => c.2.2))], ?_, q l1⟩
    unfold sidesC
    rw [if_pos h]
    exact Ent.refl _
  · refine xgss_nil ?_
    refine xgss_cons (xgs_ret (xge_lst ?_))
    refine xga_cons (xge_str (xga_cons (xge_str (xga_nil ?_)) rfl)) rfl
    refine ⟨Nat.le_of_ble_eq_true rfl, fun l2 => ?_⟩
    refine ⟨[gl X.K l2 (dStrs ((sidesC u d).map fun c => c.2.2))], ?_, q l2⟩
    unfold sidesC
    rw [if_neg h]
    exact Ent.refl _
theorem min_int {a b : Nat} : (if (b : Int) < (a : Int) then (b : Int) else (a : Int)) = ((min a b : Nat) : Int) := by
  split <;> omega
theorem ok_lcapped {f : Addr} {fd : FuncData} (F : FunD K "_law_capped" "_law_capped" (defArgs s__law_capped) (defBody s__law_capped) (defScope s__law_capped) [] [] f fd) (T : Tx K mg)   : FnOk P w K mg base (L2.CX P w) 1 f fd ["parts", "reach"] (conc K aLCapped) := by
  refine def_ok F sc__law_capped nm__law_capped (fun es G KN KE ⟨_, _, e, _⟩ => by rw [e] <;> rfl) ?_
  rintro X F0 es G G2 KN KE rfl rfl rfl rfl rfl c hfn nm rz ⟨cc, r, rfl, rfl, q⟩
  show GSs X F0 _ [some (cellT cc), some (.int (r : Int))] (G2) _
  refine xgss_cons (xgs_ret (xge_tup (xga_cons (xge_callB c nm .here T.mmin bt_min (xga_cons (xge_callTy c nm (.there .here) T.mint bt_int (xga_cons (xge_index (xge_nm c nm .here (xge_int ?_) rfl) (fun b_ _ _ => by cases b_ <;> exact rfl)) rfl) rfl rfl) rfl) rfl rfl) rfl)))
  mi_spec "opIx 0"
  refine xga_nil ?_
  mi_spec "rl_int"
  refine xga_cons (xge_nm c nm (.there .here) (xga_nil ?_) rfl) rfl
  mi_spec "rl_min"
  refine xga_cons (xge_callB c nm .here T.mmin bt_min (xga_cons (xge_callTy c nm (.there .here) T.mint bt_int (xga_cons (xge_index (xge_nm c nm .here (xge_int ?_) rfl) (fun b_ _ _ => by cases b_ <;> exact rfl)) rfl) rfl rfl) rfl) rfl rfl) rfl
  mi_spec "opIx 1"
  refine xga_nil ?_
  mi_spec "rl_int"
  refine xga_cons (xge_nm c nm (.there .here) (xga_nil ?_) rfl) rfl
  mi_spec "rl_min"
  refine xga_cons (xge_index (xge_nm c nm .here (xge_int ?_) rfl) (fun b_ _ _ => by cases b_ <;> exact rfl)) rfl
  mi_spec "opIx 2"
  refine xga_nil ?_
  refine ⟨Nat.le_of_ble_eq_true rfl, ?_⟩
  rw [min_int, min_int]
  exact ⟨[], Ent.refl _, q⟩
theorem ok_lkin {f : Addr} {fd : FuncData} (F : FunD K "_law_kin" "_law_kin" (defArgs s__law_kin) (defBody s__law_kin) (defScope s__law_kin) [] [] f fd) (T : Tx K mg) (h_Kin : MakeAt P w K mg base 2 "Kin" (He.ga K "Kin") (aKin K))  : FnOk P w K mg base (L2.CX P w) 4 f fd ["parts"] (conc K (aLKin K)) := by
  refine def_ok F sc__law_kin nm__law_kin (fun es G KN KE ⟨_, e, _⟩ => by rw [e] <;> rfl) ?_
  rintro X F0 es G G2 KN KE rfl rfl rfl rfl rfl c hfn nm rz ⟨cc, rfl, rfl, ok, q⟩
  show GSs X F0 _ [some (cellT cc)] (G2) _
  refine xgss_cons (xgs_ret (GTE.freezeI ?_))
  refine xge_make c h_Kin (Nat.le_of_ble_eq_true rfl) nm .here (xga_cons (xge_index (xge_nm c nm .here (xge_int ?_) rfl) (fun b_ _ _ => by cases b_ <;> exact rfl)) rfl) rfl rfl
  mi_spec "opIx 0"
  refine xga_cons (xge_index (xge_nm c nm .here (xge_int ?_) rfl) (fun b_ _ _ => by cases b_ <;> exact rfl)) rfl
  mi_spec "opIx 1"
  refine xga_cons (xge_index (xge_nm c nm .here (xge_int ?_) rfl) (fun b_ _ _ => by cases b_ <;> exact rfl)) rfl
  mi_spec "opIx 2"
  refine xga_nil ?_
  -- stop: make Kin
  refine mk_kin cc rfl rfl rfl ok ?_
  exact ⟨[], Ent.refl _, q⟩
theorem ok_lhands {f : Addr} {fd : FuncData} (F : FunD K "_law_hands" "_law_hands" (defArgs s__law_hands) (defBody s__law_hands) (defScope s__law_hands) [] [] f fd) (T : Tx K mg) (h_Hands : MakeAtK P w K mg base 1 (He.ga K "Hands") 0 ["keeps", "greets", "inherits", "told"] (aHands K))  : FnOk P w K mg base (L2.CX P w) 3 f fd ["flags"] (conc K (aLHands K)) := by
  refine def_ok F sc__law_hands nm__law_hands (fun es G KN KE ⟨_, e, _⟩ => by rw [e] <;> rfl) ?_
  rintro X F0 es G G2 KN KE rfl rfl rfl rfl rfl c hfn nm rz ⟨f, rfl, rfl, q⟩
  show GSs X F0 _ [some (flagsD f)] (G2) _
  refine xgss_cons (xgs_ret (GTE.freezeI ?_))
  refine xge_makeK0 c h_Hands T.g_Hands (Nat.le_of_ble_eq_true rfl) nm .here (xgk_cons (xge_index (xge_nm c nm .here (xge_int ?_) rfl) (fun b_ _ _ => by cases b_ <;> exact rfl))) rfl rfl rfl
  mi_spec "opIx 0"
  refine xgk_cons (xge_index (xge_nm c nm .here (xge_int ?_) rfl) (fun b_ _ _ => by cases b_ <;> exact rfl))
  mi_spec "opIx 1"
  refine xgk_cons (xge_index (xge_nm c nm .here (xge_int ?_) rfl) (fun b_ _ _ => by cases b_ <;> exact rfl))
  mi_spec "opIx 2"
  refine xgk_cons (xge_index (xge_nm c nm .here (xge_int ?_) rfl) (fun b_ _ _ => by cases b_ <;> exact rfl))
  mi_spec "opIx 3"
  refine xgk_nil ?_
  -- stop: make Hands
  refine ⟨rfl, fun y => ⟨[gi X.K y (cHands X.K) []], G2, Ent.refl _, y, f, rfl, rfl, rfl, y, cHands X.K, handF, handDs f, G2, rfl, Rem.here, rfl, ?_⟩⟩
  exact ⟨[], Ent.refl _, q⟩
theorem ok_lgrip {f : Addr} {fd : FuncData} (F : FunD K "_law_grip" "_law_grip" (defArgs s__law_grip) (defBody s__law_grip) (defScope s__law_grip) [] [] f fd) (T : Tx K mg) (h__law_hands : DefAt P w K mg base 3 "_law_hands" (aLHands K))  : FnOk P w K mg base (L2.CX P w) 4 f fd ["flags"] (conc K (aLGrip K)) := by
  refine def_ok F sc__law_grip nm__law_grip (fun es G KN KE ⟨_, e, _⟩ => by rw [e] <;> rfl) ?_
  rintro X F0 es G G2 KN KE rfl rfl rfl rfl rfl c hfn nm rz ⟨o, rfl, rfl, q⟩
  cases o with
  | none =>
    show GSs X F0 _ [some (.non)] (G2) _
    refine xgss_cons (xgs_if (xgt_compare (xge_nm c nm .here (xge_non ?_) rfl) (nm_Is _)))
    mi_spec "opIs"
    refine kb ?_
    -- stop: if
    refine brT ?_
    refine xgss_cons (xgs_ret (xge_non ?_))
    exact ⟨[], Ent.refl _, q⟩
  | some f =>
    show GSs X F0 _ [some (flagsD f)] (G2) _
    refine xgss_cons (xgs_if (xgt_compare (xge_nm c nm .here (xge_non ?_) rfl) (nm_Is _)))
    mi_spec "opIs"
    refine kb ?_
    -- stop: if
    refine brF (xgss_nil ?_)
    refine xgss_cons (xgs_ret (xge_call c h__law_hands (Nat.le_of_ble_eq_true rfl) nm .here (xga_cons (xge_nm c nm .here (xga_nil ?_) rfl) rfl) rfl rfl))
    -- stop: call _law_hands
    refine CallK.frame ⟨f, rfl, rfl, ?_⟩
    exact ⟨[], Ent.refl _, q⟩
theorem ok_lhall {f : Addr} {fd : FuncData} (F : FunD K "_law_hall" "_law_hall" (defArgs s__law_hall) (defBody s__law_hall) (defScope s__law_hall) [] [] f fd) (T : Tx K mg)   : FnOk P w K mg base (L2.CX P w) 1 f fd [] (conc K (aLHall K)) := by
  refine def_ok F sc__law_hall nm__law_hall (fun es G KN KE ⟨e, _⟩ => by rw [e] <;> rfl) ?_
  rintro X F0 es G G2 KN KE rfl rfl rfl rfl rfl c hfn nm rz ⟨rfl, rfl, q⟩
  show GSs X F0 _ [] (G2) _
  refine xgss_cons (xgs_ret (GTE.freeze ?_))
  refine xge_lst ?_
  refine xga_cons (xge_lst ?_) st_list
  refine xga_nil ?_
  refine ⟨Nat.le_of_ble_eq_true rfl, fun p => ?_⟩
  refine xga_cons (xge_lst ?_) st_list
  refine xga_cons (xge_str (xga_nil ?_)) rfl
  refine ⟨Nat.le_of_ble_eq_true rfl, fun l1 => ?_⟩
  refine xga_cons (xge_lst ?_) st_list
  refine xga_cons (GTE.freeze ?_) st_list
  refine xge_lst ?_
  refine xga_nil ?_
  refine ⟨Nat.le_of_ble_eq_true rfl, fun p => ?_⟩
  refine ⟨_, _, _, rfl, by mi_spec "rem", ?_⟩
  refine xga_nil ?_
  refine ⟨Nat.le_of_ble_eq_true rfl, fun l2 => ?_⟩
  refine xga_cons (xge_lst ?_) st_list
  refine xga_cons (xge_bl (xga_nil ?_)) rfl
  refine ⟨Nat.le_of_ble_eq_true rfl, fun l3 => ?_⟩
  refine xga_nil ?_
  refine ⟨Nat.le_of_ble_eq_true rfl, fun l4 => ?_⟩
  refine ⟨_, _, _, rfl, by mi_spec "rem", ?_⟩
  rename_i p0
  have e : gHall X.K p0 l1 l2 l3 ⟨[], ["running"], [[]], [false]⟩ = [gl X.K p0 [], gl X.K l1 [.str "running"], gl X.K l2 [.lst []], gl X.K l3 [.bl false]] := rfl
  exact ⟨gHall X.K p0 l1 l2 l3 ⟨[], ["running"], [[]], [false]⟩, by rw [e]; mi_spec "entE", q p0 l1 l2 l3⟩
end
section
variable {P : Program} {w : World} {K : PySem.W.Frag} {mg : Str → Option Value} {base : Heap}
theorem ok_draw {f : Addr} {fd : FuncData} (F : FunD K "_law_draw" "_law_draw" (defArgs s__law_draw) (defBody s__law_draw) (defScope s__law_draw) [] [] f fd) (T : Tx K mg)   : FnOk P w K mg base (L2.CX P w) 1 f fd ["state", "many"] (conc K (aDraw K)) := by
  refine def_ok F sc__law_draw nm__law_draw (fun es G KN KE ⟨_, _, e, _⟩ => by rw [e] <;> rfl) ?_
  rintro X F0 es G G2 KN KE rfl rfl rfl rfl rfl c hfn nm rz ⟨p, many, rfl, rfl, h0, h1, q⟩
  refine GTS.gx ?_
  rintro ⟨ns, i, x, cc, ff, hi, hn⟩
  show GSs X F0 _ [some (.raw (.ref p)), some (.int many), none, none] (gl X.K p [.lst (ns.map .int), .int i, .int x, .int cc, .int ff] :: G2) _
  have ret : ∀ (ns : List Int) (i : Nat) (x cc ff : Int), i ≤ ns.length → ns.length ≤ 63 → ∀ v, 0 ≤ v → v < (many : Int) → (bodyA KN G2).rt (.int v) (gl X.K p [.lst (ns.map .int), .int i, .int x, .int cc, .int ff] :: G2) :=
    fun ns i x cc ff hi hn v h2 h3 => ⟨[gDraw X.K p], gx_close (f := fun s : Stt => [gl X.K p s.ds]) ⟨ns, i, x, cc, ff, hi, hn⟩, by
      have := q v.toNat (by omega)
      rw [show ((v.toNat : Nat) : Int) = v by omega] at this
      exact this⟩
  have h0 : (0 : Int) < (many : Int) := by omega
  have e0 : ∀ a : Int, 0 ≤ a % (many : Int) := fun a => Int.emod_nonneg _ (by omega)
  have e1 : ∀ a : Int, a % (many : Int) < many := fun a => Int.emod_lt_of_pos _ h0
  refine xgss_cons (xgs_if (xgt_compare (xge_index (xge_nm c nm .here (xge_int ?_) rfl) (fun b_ _ _ => by cases b_ <;> exact rfl)) (nm_Eq _)))
  mi_spec "opIx 3"
  refine xge_int ?_
  mi_spec "opEq"
  refine kb ?_
  -- stop: if
  refine br ?_ ?_ <;> intro hc
  · refine xgss_cons (xgs_if (xgt_compare (xge_index (xge_nm c nm .here (xge_int ?_) rfl) (fun b_ _ _ => by cases b_ <;> exact rfl)) (nm_GtE _)))
    mi_spec "opIx 1"
    refine xge_callB c nm .here T.mlen bt_len (xga_cons (xge_index (xge_nm c nm .here (xge_int ?_) rfl) (fun b_ _ _ => by cases b_ <;> exact rfl)) rfl) rfl rfl
    mi_spec "opIx 0"
    refine xga_nil ?_
    mi_spec "rl_len"
    mi_spec "opGtE"
    refine kb ?_
    -- stop: if
    refine br ?_ ?_ <;> intro hl
    · refine xgss_cons (xgs_ret (xge_int ?_))
      exact ret ns i x cc ff hi hn 0 (by decide) h0
    · have hl' : i < ns.length := by
        rw [List.length_map] at hl
        omega
      refine xgss_nil ?_
      refine xgss_cons (xgs_asgSub (xge_index (xge_index (xge_nm c nm .here (xge_int ?_) rfl) (fun b_ _ _ => by cases b_ <;> exact rfl)) (fun b_ _ _ => by cases b_ <;> exact rfl)) (fun _ => rfl) rfl rfl rfl)
      mi_spec "opIx 0"
      refine xge_index (xge_nm c nm .here (xge_int ?_) rfl) (fun b_ _ _ => by cases b_ <;> exact rfl)
      mi_spec "opIx 1"
      -- stop: STOP index
      refine rk_ixL lst_fr (x := .int ns[i]) (Ly.atI_nat (by simp [hl'])) ?_
      refine xge_nm c nm .here (xge_int ?_) rfl
      mi_spec "opSt 2"
      refine xgss_cons (xgs_asgSub (xge_binop (xge_index (xge_nm c nm .here (xge_int ?_) rfl) (fun b_ _ _ => by cases b_ <;> exact rfl))) (fun _ => rfl) rfl rfl rfl)
      mi_spec "opIx 1"
      refine xge_int ?_
      mi_spec "opAdd"
      refine xge_nm c nm .here (xge_int ?_) rfl
      mi_spec "opSt 1"
      refine xgss_cons (xgs_asgSub (xge_int (xge_nm c nm .here (xge_int ?_) rfl)) (fun _ => rfl) rfl rfl rfl)
      mi_spec "opSt 3"
      refine xgss_cons (xgs_asgSub (xge_int (xge_nm c nm .here (xge_int ?_) rfl)) (fun _ => rfl) rfl rfl rfl)
      mi_spec "opSt 4"
      refine xgss_cons (xgs_if (xgt_compare (xge_index (xge_nm c nm .here (xge_int ?_) rfl) (fun b_ _ _ => by cases b_ <;> exact rfl)) (nm_GtE _)))
      mi_spec "opIx 2"
      refine xge_binop (xge_int (xge_int ?_))
      mi_spec "opPow"
      mi_spec "opGtE"
      refine kb ?_
      -- stop: if
      refine br ?_ ?_ <;> intro hx
      · refine xgss_cons (xgs_asgSub (xge_int (xge_nm c nm .here (xge_int ?_) rfl)) (fun _ => rfl) rfl rfl rfl)
        mi_spec "opSt 3"
        refine xgss_cons (xgs_asgSub (xge_int (xge_nm c nm .here (xge_int ?_) rfl)) (fun _ => rfl) rfl rfl rfl)
        mi_spec "opSt 4"
        refine xgss_nil (xgss_nil ?_)
        refine xgss_cons (xgs_asgSub (xge_binop (xge_index (xge_nm c nm .here (xge_int ?_) rfl) (fun b_ _ _ => by cases b_ <;> exact rfl))) (fun _ => rfl) rfl rfl rfl)
        mi_spec "opIx 3"
        refine xge_int ?_
        mi_spec "opSub"
        refine xge_nm c nm .here (xge_int ?_) rfl
        mi_spec "opSt 3"
        refine xgss_cons (xgs_if (xgt_compare (xge_index (xge_nm c nm .here (xge_int ?_) rfl) (fun b_ _ _ => by cases b_ <;> exact rfl)) (nm_Eq _)))
        mi_spec "opIx 4"
        refine xge_int ?_
        mi_spec "opEq"
        refine kb ?_
        -- stop: if
        refine brY rfl ?_
        refine xgss_cons (xgs_asg c hfn nm (.there (.there .here)) (xge_binop (xge_callTy c nm (.there .here) T.mint bt_int (xga_cons (xge_index (xge_nm c nm .here (xge_int ?_) rfl) (fun b_ _ _ => by cases b_ <;> exact rfl)) rfl) rfl rfl)) rfl rfl)
        mi_spec "opIx 2"
        refine xga_nil ?_
        mi_spec "rl_int"
        refine xge_nm c nm (.there .here) ?_ rfl
        mi_spec "opMod"
        refine xgss_cons (xgs_asgSub (xge_binop (xge_callTy c nm (.there .here) T.mint bt_int (xga_cons (xge_index (xge_nm c nm .here (xge_int ?_) rfl) (fun b_ _ _ => by cases b_ <;> exact rfl)) rfl) rfl rfl)) (fun _ => rfl) rfl rfl rfl)
        mi_spec "opIx 2"
        refine xga_nil ?_
        mi_spec "rl_int"
        refine xge_nm c nm (.there .here) ?_ rfl
        mi_spec "opFloorDiv"
        refine xge_nm c nm .here (xge_int ?_) rfl
        mi_spec "opSt 2"
        refine xgss_cons (xgs_if (xgt_compare (xge_index (xge_nm c nm .here (xge_int ?_) rfl) (fun b_ _ _ => by cases b_ <;> exact rfl)) (nm_Eq _)))
        mi_spec "opIx 2"
        refine xge_int ?_
        mi_spec "opEq"
        refine kb ?_
        -- stop: if
        refine br ?_ ?_ <;> intro hz
        · refine xgss_cons (xgs_asgSub (xge_int (xge_nm c nm .here (xge_int ?_) rfl)) (fun _ => rfl) rfl rfl rfl)
          mi_spec "opSt 3"
          refine xgss_nil ?_
          refine xgss_cons (xgs_ret (xge_nm c nm (.there (.there .here)) ?_ rfl))
          exact ret ns (i + 1) _ _ _ hl' hn _ (e0 _) (e1 _)
        · refine xgss_nil ?_
          refine xgss_cons (xgs_ret (xge_nm c nm (.there (.there .here)) ?_ rfl))
          exact ret ns (i + 1) _ _ _ hl' hn _ (e0 _) (e1 _)
      · refine xgss_nil (xgss_nil ?_)
        refine xgss_cons (xgs_asgSub (xge_binop (xge_index (xge_nm c nm .here (xge_int ?_) rfl) (fun b_ _ _ => by cases b_ <;> exact rfl))) (fun _ => rfl) rfl rfl rfl)
        mi_spec "opIx 3"
        refine xge_int ?_
        mi_spec "opSub"
        refine xge_nm c nm .here (xge_int ?_) rfl
        mi_spec "opSt 3"
        refine xgss_cons (xgs_if (xgt_compare (xge_index (xge_nm c nm .here (xge_int ?_) rfl) (fun b_ _ _ => by cases b_ <;> exact rfl)) (nm_Eq _)))
        mi_spec "opIx 4"
        refine xge_int ?_
        mi_spec "opEq"
        refine kb ?_
        -- stop: if
        refine brNo (by decide) ?_
        refine xgss_nil ?_
        refine xgss_cons (xgs_asg c hfn nm (.there (.there (.there .here))) (xge_binop (xge_callTy c nm (.there .here) T.mint bt_int (xga_cons (xge_binop (xge_binop (xge_binop (xge_index (xge_nm c nm .here (xge_int ?_) rfl) (fun b_ _ _ => by cases b_ <;> exact rfl))))) rfl) rfl rfl)) rfl rfl)
        mi_spec "opIx 2"
        refine xge_int ?_
        mi_spec "opMult"
        refine xge_binop (xge_index (xge_nm c nm .here (xge_int ?_) rfl) (fun b_ _ _ => by cases b_ <;> exact rfl))
        mi_spec "opIx 3"
        refine xge_int ?_
        mi_spec "opMult"
        mi_spec "opAdd"
        refine xge_int ?_
        mi_spec "opAdd"
        refine xga_nil ?_
        mi_spec "rl_int"
        refine xge_int ?_
        mi_spec "opMod"
        refine xgss_cons (xgs_asg c hfn nm (.there (.there (.there .here))) (xge_binop (xge_callTy c nm (.there .here) T.mint bt_int (xga_cons (xge_binop (xge_binop (xge_binop (xge_nm c nm (.there (.there (.there .here))) (xge_int ?_) rfl)))) rfl) rfl rfl)) rfl rfl)
        mi_spec "opMult"
        refine xge_binop (xge_nm c nm (.there (.there (.there .here))) (xge_int ?_) rfl)
        mi_spec "opFloorDiv"
        mi_spec "opAdd"
        refine xge_int ?_
        mi_spec "opAdd"
        refine xga_nil ?_
        mi_spec "rl_int"
        refine xge_int ?_
        mi_spec "opMod"
        refine xgss_cons (xgs_ret (xge_binop (xge_callTy c nm (.there .here) T.mint bt_int (xga_cons (xge_nm c nm (.there (.there (.there .here))) (xga_nil ?_) rfl) rfl) rfl rfl)))
        mi_spec "rl_int"
        refine xge_nm c nm (.there .here) ?_ rfl
        mi_spec "opMod"
        exact ret ns (i + 1) _ _ _ hl' hn _ (e0 _) (e1 _)
  · refine xgss_nil ?_
    refine xgss_cons (xgs_asgSub (xge_binop (xge_index (xge_nm c nm .here (xge_int ?_) rfl) (fun b_ _ _ => by cases b_ <;> exact rfl))) (fun _ => rfl) rfl rfl rfl)
    mi_spec "opIx 3"
    refine xge_int ?_
    mi_spec "opSub"
    refine xge_nm c nm .here (xge_int ?_) rfl
    mi_spec "opSt 3"
    refine xgss_cons (xgs_if (xgt_compare (xge_index (xge_nm c nm .here (xge_int ?_) rfl) (fun b_ _ _ => by cases b_ <;> exact rfl)) (nm_Eq _)))
    mi_spec "opIx 4"
    refine xge_int ?_
    mi_spec "opEq"
    refine kb ?_
    -- stop: if
    refine br ?_ ?_ <;> intro hf
    · refine xgss_cons (xgs_asg c hfn nm (.there (.there .here)) (xge_binop (xge_callTy c nm (.there .here) T.mint bt_int (xga_cons (xge_index (xge_nm c nm .here (xge_int ?_) rfl) (fun b_ _ _ => by cases b_ <;> exact rfl)) rfl) rfl rfl)) rfl rfl)
      mi_spec "opIx 2"
      refine xga_nil ?_
      mi_spec "rl_int"
      refine xge_nm c nm (.there .here) ?_ rfl
      mi_spec "opMod"
      refine xgss_cons (xgs_asgSub (xge_binop (xge_callTy c nm (.there .here) T.mint bt_int (xga_cons (xge_index (xge_nm c nm .here (xge_int ?_) rfl) (fun b_ _ _ => by cases b_ <;> exact rfl)) rfl) rfl rfl)) (fun _ => rfl) rfl rfl rfl)
      mi_spec "opIx 2"
      refine xga_nil ?_
      mi_spec "rl_int"
      refine xge_nm c nm (.there .here) ?_ rfl
      mi_spec "opFloorDiv"
      refine xge_nm c nm .here (xge_int ?_) rfl
      mi_spec "opSt 2"
      refine xgss_cons (xgs_if (xgt_compare (xge_index (xge_nm c nm .here (xge_int ?_) rfl) (fun b_ _ _ => by cases b_ <;> exact rfl)) (nm_Eq _)))
      mi_spec "opIx 2"
      refine xge_int ?_
      mi_spec "opEq"
      refine kb ?_
      -- stop: if
      refine br ?_ ?_ <;> intro hz
      · refine xgss_cons (xgs_asgSub (xge_int (xge_nm c nm .here (xge_int ?_) rfl)) (fun _ => rfl) rfl rfl rfl)
        mi_spec "opSt 3"
        refine xgss_nil ?_
        refine xgss_cons (xgs_ret (xge_nm c nm (.there (.there .here)) ?_ rfl))
        exact ret ns i _ _ _ hi hn _ (e0 _) (e1 _)
      · refine xgss_nil ?_
        refine xgss_cons (xgs_ret (xge_nm c nm (.there (.there .here)) ?_ rfl))
        exact ret ns i _ _ _ hi hn _ (e0 _) (e1 _)
    · refine xgss_nil ?_
      refine xgss_cons (xgs_asg c hfn nm (.there (.there (.there .here))) (xge_binop (xge_callTy c nm (.there .here) T.mint bt_int (xga_cons (xge_binop (xge_binop (xge_binop (xge_index (xge_nm c nm .here (xge_int ?_) rfl) (fun b_ _ _ => by cases b_ <;> exact rfl))))) rfl) rfl rfl)) rfl rfl)
      mi_spec "opIx 2"
      refine xge_int ?_
      mi_spec "opMult"
      refine xge_binop (xge_index (xge_nm c nm .here (xge_int ?_) rfl) (fun b_ _ _ => by cases b_ <;> exact rfl))
      mi_spec "opIx 3"
      refine xge_int ?_
      mi_spec "opMult"
      mi_spec "opAdd"
      refine xge_int ?_
      mi_spec "opAdd"
      refine xga_nil ?_
      mi_spec "rl_int"
      refine xge_int ?_
      mi_spec "opMod"
      refine xgss_cons (xgs_asg c hfn nm (.there (.there (.there .here))) (xge_binop (xge_callTy c nm (.there .here) T.mint bt_int (xga_cons (xge_binop (xge_binop (xge_binop (xge_nm c nm (.there (.there (.there .here))) (xge_int ?_) rfl)))) rfl) rfl rfl)) rfl rfl)
      mi_spec "opMult"
      refine xge_binop (xge_nm c nm (.there (.there (.there .here))) (xge_int ?_) rfl)
      mi_spec "opFloorDiv"
      mi_spec "opAdd"
      refine xge_int ?_
      mi_spec "opAdd"
      refine xga_nil ?_
      mi_spec "rl_int"
      refine xge_int ?_
      mi_spec "opMod"
      refine xgss_cons (xgs_ret (xge_binop (xge_callTy c nm (.there .here) T.mint bt_int (xga_cons (xge_nm c nm (.there (.there (.there .here))) (xga_nil ?_) rfl) rfl) rfl rfl)))
      mi_spec "rl_int"
      refine xge_nm c nm (.there .here) ?_ rfl
      mi_spec "opMod"
      exact ret ns i _ _ _ hi hn _ (e0 _) (e1 _)
theorem ps_zero {bs : List Nat} : (psOf bs).getD 0 none = none := rfl
theorem ps_succ {bs : List Nat} {t : Nat} (h : t < bs.length) : (psOf bs).getD (t + 1) none = some (bs.getD t 0) := by
  unfold psOf
  rw [List.getD_eq_getElem?_getD, List.getElem?_cons_succ, List.getElem?_map, getD_nth h, List.getElem?_eq_getElem h]
  rfl
theorem ps_lt {bs : List Nat} (el : Elder bs) : ∀ t p, (psOf bs).getD t none = some p → p < t := by
  intro t p h
  cases t with
  | zero => rw [ps_zero] at h; cases h
  | succ t =>
    by_cases ht : t < bs.length
    · rw [ps_succ ht] at h
      cases h
      have := el t ht
      omega
    · unfold psOf at h
      rw [List.getD_eq_getElem?_getD, List.getElem?_cons_succ, List.getElem?_map, List.getElem?_eq_none (by omega)] at h
      cases h
/-- the line by its beginnings -/
theorem line_take {bs : List Nat} (el : Elder bs) : ∀ (j t : Nat), t ≤ bs.length → ∃ x, ((lineOf (psOf bs) t).take (j + 1)).getLast? = some x ∧ x ≤ bs.length ∧ (lineOf (psOf bs) t).take (j + 2) = (lineOf (psOf bs) t).take (j + 1) ++ (if 0 < x then [bs.getD (x - 1) 0] else []) := by
  intro j
  induction j with
  | zero =>
    intro t ht
    cases t with
    | zero =>
      rw [line_none ps_zero]
      exact ⟨0, rfl, Nat.zero_le _, rfl⟩
    | succ t =>
      have e := ps_succ (bs := bs) (t := t) (by omega)
      rw [line_some (ps_lt el) e]
      refine ⟨t + 1, rfl, ht, ?_⟩
      rw [if_pos (by omega)]
      have hp := ps_lt el _ _ e
      have : ∃ l, lineOf (psOf bs) (bs.getD t 0) = bs.getD t 0 :: l := by
        cases e2 : (psOf bs).getD (bs.getD t 0) none with
        | none => exact ⟨[], line_none e2⟩
        | some p => exact ⟨_, line_some (ps_lt el) e2⟩
      obtain ⟨l, hl⟩ := this
      rw [hl]
      rfl
  | succ j ih =>
    intro t ht
    cases t with
    | zero =>
      rw [line_none ps_zero]
      refine ⟨0, by simp, Nat.zero_le _, by simp⟩
    | succ t =>
      have e := ps_succ (bs := bs) (t := t) (by omega)
      rw [line_some (ps_lt el) e]
      have hp := ps_lt el _ _ e
      obtain ⟨x, h1, h2, h3⟩ := ih (bs.getD t 0) (by omega)
      refine ⟨x, ?_, h2, ?_⟩
      · rw [List.take_succ_cons]
        cases hl : (lineOf (psOf bs) (bs.getD t 0)).take (j + 1) with
        | nil => rw [hl] at h1; cases h1
        | cons a l =>
          rw [hl] at h1
          rw [List.getLast?_cons_cons]
          exact h1
      · rw [List.take_succ_cons, h3, List.take_succ_cons]
        rfl
theorem line_small {bs : List Nat} (el : Elder bs) : ∀ t, t ≤ bs.length → (lineOf (psOf bs) t).length ≤ t + 1 := by
  intro t
  induction t using Nat.strongRecOn with
  | _ t ih =>
    intro ht
    cases t with
    | zero => rw [line_none ps_zero]; simp
    | succ t =>
      have e := ps_succ (bs := bs) (t := t) (by omega)
      have hp := ps_lt el _ _ e
      rw [line_some (ps_lt el) e]
      have := ih (bs.getD t 0) hp (by omega)
      rw [List.length_cons]
      omega
theorem line_mem' {bs : List Nat} (el : Elder bs) : ∀ t, t ≤ bs.length → ∀ x ∈ lineOf (psOf bs) t, x ≤ t := by
  intro t
  induction t using Nat.strongRecOn with
  | _ t ih =>
    intro ht x hx
    cases t with
    | zero => rw [line_none ps_zero] at hx; simp at hx; rw [hx]; exact Nat.le_refl _
    | succ t =>
      have e := ps_succ (bs := bs) (t := t) (by omega)
      have hp := ps_lt el _ _ e
      rw [line_some (ps_lt el) e] at hx
      rcases List.mem_cons.mp hx with h | h
      · rw [h]; exact Nat.le_refl _
      · have := ih (bs.getD t 0) hp (by omega) x h
        exact Nat.le_of_lt (Nat.lt_of_le_of_lt this hp)
theorem last_at {xs : List Nat} {x : Nat} (h : xs.getLast? = some x) : atI (dInts xs) (-1) = some (.int (x : Int)) := by
  obtain ⟨ys, rfl⟩ := List.getLast?_eq_some_iff.mp h
  show atI (List.map _ _) _ = _
  rw [List.map_append]
  exact Ly.atI_last
theorem ok_lline {f : Addr} {fd : FuncData} (F : FunD K "_law_line" "_law_line" (defArgs s__law_line) (defBody s__law_line) (defScope s__law_line) [] [] f fd) (T : Tx K mg)   : FnOk P w K mg base (L2.CX P w) 1 f fd ["parents", "task"] (conc K (aLLine K)) := by
  refine def_ok F sc__law_line nm__law_line (fun es G KN KE ⟨_, _, _, e, _⟩ => by rw [e] <;> rfl) ?_
  rintro X F0 es G G2 KN KE rfl rfl rfl rfl rfl c hfn nm rz ⟨d, bs, t, rfl, hd, el, ht, hl, q⟩
  show GSs X F0 _ [some (d), some (.int (t : Int)), none, none] (G ++ G2) _
  have hd' : LstAt X.K (G ++ G2) d (dInts bs) := hd.mono
  refine xgss_cons (xgs_asg c hfn nm (.there (.there .here)) (xge_lst ?_) rfl rfl)
  refine xga_cons (xge_nm c nm (.there .here) (xga_nil ?_) rfl) rfl
  refine ⟨Nat.le_of_ble_eq_true rfl, fun l1 => ?_⟩
  have g1 : ∀ g : Grp, LstAt X.K (g :: (G ++ G2)) d (dInts bs) := fun g => hd'.cons
  have g1' := g1 (gl X.K l1 [.int (t : Int)])
  have hln := line_small el t ht
  have hs : (lineOf (psOf bs) t).take 1 = [t] := by
    cases t with
    | zero => rw [line_none ps_zero]; rfl
    | succ t => rw [line_some (ps_lt el) (ps_succ (bs := bs) (t := t) (by omega))]; rfl
  refine xgss_cons (xgs_forR1 c hfn nm (.there (.there (.there .here))) .here T.mrange (xga_cons (xge_callB c nm (.there .here) T.mlen bt_len (xga_cons (xge_nm c nm .here (xga_nil ?_) rfl) rfl) rfl rfl) rfl) rfl rfl)
  mi_spec "rl_len"
  refine xga_nil ?_
  -- stop: for
  have hbl : ((dInts bs).length : Int) = (bs.length : Int) := by simp
  refine ⟨_, rfl, ⟨by rw [hbl]; omega, by rw [hbl]; omega⟩, ForR.chg (fun j => gl X.K l1 (dInts ((lineOf (psOf bs) t).take (j + 1))) :: (G ++ G2)) (fun j ds' => ∃ o, ds' = [some d, some (.int (t : Int)), some (.raw (.ref l1)), o]) ⟨_, rfl⟩ (by rw [hs]; exact Ent.refl _) ?_ ?_⟩
  · rintro j ds' hj ⟨o, rfl⟩
    rw [Int.zero_add]
    obtain ⟨x, h1, h2, h3⟩ := line_take el j t ht
    rw [show j + 1 + 1 = j + 2 from rfl, h3]
    have hlen : ((lineOf (psOf bs) t).take (j + 1)).length ≤ 601 := by rw [List.length_take]; omega
    generalize (lineOf (psOf bs) t).take (j + 1) = cur at h1 hlen
    refine xgss_cons (xgs_if (xgt_compare (xge_index (xge_nm c nm (.there (.there .here)) (xge_unary (xge_int ?_)) rfl) (fun b_ _ _ => by cases b_ <;> exact rfl)) (nm_Gt _)))
    mi_spec "opUSub"
    -- stop: man line[-1]
    refine rk_ixL (lst_own (by mi_spec "foc")) (last_at h1) ?_
    refine xge_int ?_
    mi_spec "opGt"
    refine kb ?_
    -- stop: if
    refine br ?_ ?_ <;> intro hx
    · rw [if_pos (by omega)]
      refine xgss_cons (xgs_expr (xge_bm PySem.F.plainAttrs_list PySem.F.slot_list_append PySem.F.type_list_append mt_append (xge_nm c nm (.there (.there .here)) ?_ rfl) rfl rfl rfl rfl rfl) rfl)
      mi_spec "opTy"
      refine xga_cons (xge_index (xge_nm c nm .here (xge_binop (xge_index (xge_nm c nm (.there (.there .here)) (xge_unary (xge_int ?_)) rfl) (fun b_ _ _ => by cases b_ <;> exact rfl))) rfl) (fun b_ _ _ => by cases b_ <;> exact rfl)) rfl
      mi_spec "opUSub"
      -- stop: man line[-1]
      refine rk_ixL (lst_own (by mi_spec "foc")) (last_at h1) ?_
      refine xge_int ?_
      mi_spec "opSub"
      -- stop: man parents[line[-1] - 1]
      have e1 : (x : Int) - 1 = ((x - 1 : Nat) : Int) := by omega
      rw [e1]
      refine rk_ixL (g1 _) (ints_get (by omega)) ?_
      refine xga_nil ?_
      mi_spec "rm_append"
      · simp; omega
      refine xgss_nil (xgss_nil ?_)
      exact ⟨⟨_, rfl⟩, by rw [ints_app]; exact Ent.refl _⟩
    · rw [if_neg (by omega), List.append_nil]
      refine xgss_nil (xgss_nil ?_)
      exact ⟨⟨_, rfl⟩, Ent.refl _⟩
  · rintro ds' G' ⟨o, rfl⟩ en
    refine GTS.ent en ?_
    rw [show ((dInts bs).length : Int).toNat = bs.length by rw [hbl]; omega, List.take_of_length_le (by omega)]
    refine xgss_cons (xgs_ret (xge_nm c nm (.there (.there .here)) ?_ rfl))
    exact ⟨gl X.K l1 (dInts (lineOf (psOf bs) t)) :: G, Ent.refl _, q l1⟩
end
section
variable {P : Program} {w : World} {K : PySem.W.Frag} {mg : Str → Option Value} {base : Heap}
theorem int_at {xs : List Nat} {i x : Nat} (h : xs[i]? = some x) : atI (dInts xs) ((i : Nat) : Int) = some (.int (x : Int)) := Ly.atI_nat (by rw [List.getElem?_map, h]; rfl)
theorem dInts_in {xs : List Nat} : dInts xs = (xs.map fun n : Nat => (n : Int)).map D.int := by simp
theorem cast_mem {xs : List Nat} {x : Nat} : ((x : Int) ∈ xs.map fun n : Nat => (n : Int)) ↔ x ∈ xs := by
  rw [List.mem_map]
  constructor
  · rintro ⟨y, hy, e⟩
    have : y = x := by omega
    exact this ▸ hy
  · exact fun h => ⟨x, h, rfl⟩
/-- where two lines meet -/
theorem meet {bs : List Nat} (el : Elder bs) : ∀ t, t ≤ bs.length → 0 ∈ lineOf (psOf bs) t := by
  intro t
  induction t using Nat.strongRecOn with
  | _ t ih =>
    intro ht
    cases t with
    | zero => rw [line_none ps_zero]; simp
    | succ t =>
      have e := ps_succ (bs := bs) (t := t) (by omega)
      have hp := ps_lt el _ _ e
      rw [line_some (ps_lt el) e]
      exact List.mem_cons_of_mem _ (ih _ hp (by omega))
theorem ok_lparts {f : Addr} {fd : FuncData} (F : FunD K "_law_parts_of" "_law_parts_of" (defArgs s__law_parts_of) (defBody s__law_parts_of) (defScope s__law_parts_of) [] [] f fd) (T : Tx K mg) (h__law_line : DefAt P w K mg base 1 "_law_line" (aLLine K))  : FnOk P w K mg base (L2.CX P w) 2 f fd ["parents", "first", "second"] (conc K (aLParts K)) := by
  refine def_ok F sc__law_parts_of nm__law_parts_of (fun es G KN KE ⟨_, _, _, _, e, _⟩ => by rw [e] <;> rfl) ?_
  rintro X F0 es G G2 KN KE rfl rfl rfl rfl rfl c hfn nm rz ⟨d, bs, s, t, rfl, hd, el, hs, ht, hl, q⟩
  show GSs X F0 _ [some (d), some (.int (s : Int)), some (.int (t : Int)), none, none, none, none] (G ++ G2) _
  have hd' : LstAt X.K (G ++ G2) d (dInts bs) := hd.mono
  refine xgss_cons (xgs_asg c hfn nm (.there (.there (.there .here))) (xge_call c h__law_line (Nat.le_of_ble_eq_true rfl) nm .here (xga_cons (xge_nm c nm .here (xga_cons (xge_nm c nm (.there .here) (xga_nil ?_) rfl) rfl) rfl) rfl) rfl rfl) rfl rfl)
  -- stop: call _law_line
  refine callK_all ⟨_, bs, s, rfl, hd', el, hs, by omega, fun pm => ?_⟩
  refine xgss_cons (xgs_asg c hfn nm (.there (.there (.there (.there .here)))) (xge_call c h__law_line (Nat.le_of_ble_eq_true rfl) nm .here (xga_cons (xge_nm c nm .here (xga_cons (xge_nm c nm (.there (.there .here)) (xga_nil ?_) rfl) rfl) rfl) rfl) rfl rfl) rfl rfl)
  -- stop: call _law_line
  refine callK_all ⟨_, bs, t, rfl, hd'.cons, el, ht, by omega, fun po => ?_⟩
  have em : partsOf (psOf bs) s t = ((lineOf (psOf bs) s).findIdx (fun x => (lineOf (psOf bs) t).contains x), (lineOf (psOf bs) t).idxOf ((lineOf (psOf bs) s).getD ((lineOf (psOf bs) s).findIdx (fun x => (lineOf (psOf bs) t).contains x)) 0), if (lineOf (psOf bs) s).findIdx (fun x => (lineOf (psOf bs) t).contains x) = 0 ∨ (lineOf (psOf bs) t).idxOf ((lineOf (psOf bs) s).getD ((lineOf (psOf bs) s).findIdx (fun x => (lineOf (psOf bs) t).contains x)) 0) = 0 then ("line" : Str) else if (lineOf (psOf bs) t).getD ((lineOf (psOf bs) t).idxOf ((lineOf (psOf bs) s).getD ((lineOf (psOf bs) s).findIdx (fun x => (lineOf (psOf bs) t).contains x)) 0) - 1) 0 < (lineOf (psOf bs) s).getD ((lineOf (psOf bs) s).findIdx (fun x => (lineOf (psOf bs) t).contains x) - 1) 0 then ("elder" : Str) else ("younger" : Str)) := rfl
  have mt1 := meet el s hs
  have mt2 := meet el t ht
  have la := line_small el s hs
  have lb := line_small el t ht
  generalize lineOf (psOf bs) s = L at em mt1 la
  generalize lineOf (psOf bs) t = M at em mt2 lb
  have hfu : L.findIdx (fun x => M.contains x) < L.length := List.findIdx_lt_length_of_exists ⟨0, mt1, by simpa using mt2⟩
  generalize hu : L.findIdx (fun x => M.contains x) = U at em hfu
  have hLU : L[U]? = some (L.getD U 0) := by rw [getD_nth hfu, List.getElem?_eq_getElem hfu]
  have hin : L.getD U 0 ∈ M := by
    have := List.findIdx_getElem (xs := L) (p := fun x => M.contains x) (w := by rw [hu]; exact hfu)
    simp only [hu] at this
    rw [getD_nth hfu]
    simpa using this
  have hidx : M.idxOf (L.getD U 0) < M.length := List.idxOf_lt_length_iff.mpr hin
  generalize hdn : M.idxOf (L.getD U 0) = Dn at em hidx
  have hMD : M[Dn]? = some (L.getD U 0) := by
    rw [List.getElem?_eq_getElem hidx]
    subst hdn
    exact congrArg some (List.getElem_idxOf hidx)
  have hMn : ∀ m, m < Dn → M[m]? ≠ some (L.getD U 0) := fun m hm e => by
    obtain ⟨hm', em'⟩ := List.getElem?_eq_some_iff.mp e
    have := List.not_of_lt_findIdx (xs := M) (p := fun x => x == L.getD U 0) (i := m) (by rw [← hdn] at hm; exact hm)
    rw [em'] at this
    simp at this
  have hbef : ∀ i, i < U → L.getD i 0 ∉ M := fun i hi h => by
    have hi' : i < L.length := by omega
    have := List.not_of_lt_findIdx (xs := L) (p := fun x => M.contains x) (i := i) (by rw [hu]; exact hi)
    rw [getD_nth hi'] at h
    simp at this
    exact this h
  refine xgss_cons (xgs_asg c hfn nm (.there (.there (.there (.there (.there .here))))) (xge_int ?_) rfl rfl)
  refine xgss_cons (xgs_while c (fun m ds G' => ∃ i, i ≤ U ∧ m = U - i ∧ ds = [some d, some (.int (s : Int)), some (.int (t : Int)), some (.raw (.ref pm)), some (.raw (.ref po)), some (.int ((i : Nat) : Int)), none] ∧ Ent G' (gl X.K po (dInts M) :: gl X.K pm (dInts L) :: (G ++ G2))) U ⟨0, Nat.zero_le _, rfl, rfl, Ent.refl _⟩ ?_)
  rintro m ds G' ⟨i, hi, rfl, rfl, en⟩
  refine GTT.ent en ?_
  have hi' : i < L.length := by omega
  refine xgt_compare (xge_index (xge_nm c nm (.there (.there (.there .here))) (xge_nm c nm (.there (.there (.there (.there (.there .here))))) ?_ rfl) rfl) (fun b_ _ _ => by cases b_ <;> exact rfl)) rfl
  -- stop: man mine[up]
  refine rk_ixL (lst_own (by mi_spec "foc")) (ints_get hi') ?_
  refine xge_nm c nm (.there (.there (.there (.there .here)))) ?_ rfl
  -- stop: man mine[up] not in other
  refine rk_ninI (zs := M.map fun n : Nat => (n : Int)) (Or.inl (by rw [← dInts_in]; exact lst_own (by mi_spec "foc"))) ?_
  refine kb ?_
  rw [show decide (((L.getD i 0 : Nat) : Int) ∈ M.map fun n : Nat => (n : Int)) = decide (L.getD i 0 ∈ M) from dec_congr cast_mem]
  refine brN ?_ ?_ <;> intro hm
  · have hiU : i ≠ U := fun e => hm (by rw [e]; exact hin)
    refine xgss_cons (xgs_asg c hfn nm (.there (.there (.there (.there (.there .here))))) (xge_binop (xge_nm c nm (.there (.there (.there (.there (.there .here))))) (xge_int ?_) rfl)) rfl rfl)
    mi_spec "opAdd"
    refine xgss_nil ?_
    exact ⟨U - (i + 1), by omega, i + 1, by omega, rfl, rfl, Ent.refl _⟩
  · have hiU : i = U := by
      by_cases e : i < U
      · exact absurd hm (hbef i e)
      · omega
    subst hiU
    refine xgss_cons (xgs_asg c hfn nm (.there (.there (.there (.there (.there (.there .here)))))) (xge_bm PySem.F.plainAttrs_list PySem.F.slot_list_index PySem.F.type_list_index mt_index (xge_nm c nm (.there (.there (.there (.there .here)))) ?_ rfl) rfl rfl rfl rfl rfl) rfl rfl)
    mi_spec "opTy"
    refine xga_cons (xge_index (xge_nm c nm (.there (.there (.there .here))) (xge_nm c nm (.there (.there (.there (.there (.there .here))))) ?_ rfl) rfl) (fun b_ _ _ => by cases b_ <;> exact rfl)) rfl
    -- stop: man mine[up]
    refine rk_ixL (lst_own (by mi_spec "foc")) (ints_get hi') ?_
    refine xga_nil ?_
    -- stop: rm_index
    refine rm_index (zs := M.map fun n : Nat => (n : Int)) (j := Dn) (by rw [← dInts_in]; exact lst_own (by mi_spec "foc")) (by rw [List.getElem?_map, hMD]; rfl) (fun m hm e => ?_) ?_
    · rw [List.getElem?_map] at e
      cases e2 : M[m]? with
      | none => rw [e2] at e; cases e
      | some y =>
        rw [e2] at e
        have h9 : ((y : Nat) : Int) = ((L.getD i 0 : Nat) : Int) := Option.some.inj e
        have : y = L.getD i 0 := by omega
        exact hMn m hm (by rw [e2, this])
    have hiL := hi'
    refine xgss_cons (xgs_if (xgt_val (decide (i = 0 ∨ Dn = 0)) ?_ ?_))
    · refine xgt_of_w (xgw_or (xgt_compare (xge_nm c nm (.there (.there (.there (.there (.there .here))))) (xge_int ?_) rfl) (nm_Eq _)))
      mi_spec "opEq"
      refine kb ?_
      -- stop: br xgw_or
      refine br ?_ ?_ <;> intro hc
      · exact ⟨by rw [eq_comm, decide_eq_true_iff]; omega, rfl⟩
      · refine xgw_or1 (xgt_compare (xge_nm c nm (.there (.there (.there (.there (.there (.there .here)))))) (xge_int ?_) rfl) (nm_Eq _))
        mi_spec "opEq"
        refine kb ?_
        exact ⟨by rw [Bool.eq_iff_iff]; simp; omega, rfl⟩
    refine br ?_ ?_ <;> intro hc
    · refine xgss_cons (xgs_ret (xge_tup (xga_cons (xge_nm c nm (.there (.there (.there (.there (.there .here))))) (xga_cons (xge_nm c nm (.there (.there (.there (.there (.there (.there .here)))))) (xga_cons (xge_str (xga_nil ?_)) rfl) rfl) rfl) rfl) rfl)))
      refine ⟨Nat.le_of_ble_eq_true rfl, ?_⟩
      rw [if_pos hc] at em
      exact ⟨G, by mi_spec "entE", by rw [em] at q; exact q⟩
    · refine xgss_nil ?_
      rw [if_neg hc] at em
      have e1 : (Dn : Int) - 1 = ((Dn - 1 : Nat) : Int) := by omega
      have e2 : (i : Int) - 1 = ((i - 1 : Nat) : Int) := by omega
      refine xgss_cons (xgs_if (xgt_compare (xge_index (xge_nm c nm (.there (.there (.there (.there .here)))) (xge_binop (xge_nm c nm (.there (.there (.there (.there (.there (.there .here)))))) (xge_int ?_) rfl)) rfl) (fun b_ _ _ => by cases b_ <;> exact rfl)) (nm_Lt _)))
      mi_spec "opSub"
      -- stop: man other[down - 1]
      rw [e1]
      refine rk_ixL (lst_own (by mi_spec "foc")) (ints_get (by omega)) ?_
      refine xge_index (xge_nm c nm (.there (.there (.there .here))) (xge_binop (xge_nm c nm (.there (.there (.there (.there (.there .here))))) (xge_int ?_) rfl)) rfl) (fun b_ _ _ => by cases b_ <;> exact rfl)
      mi_spec "opSub"
      -- stop: man mine[up - 1]
      rw [e2]
      refine rk_ixL (lst_own (by mi_spec "foc")) (ints_get (by omega)) ?_
      -- stop: man other[down - 1] < mine[up - 1]
      refine rk_ltI ?_
      refine kb ?_
      -- stop: if
      refine br ?_ ?_ <;> intro hd2
      · refine xgss_cons (xgs_ret (xge_tup (xga_cons (xge_nm c nm (.there (.there (.there (.there (.there .here))))) (xga_cons (xge_nm c nm (.there (.there (.there (.there (.there (.there .here)))))) (xga_cons (xge_str (xga_nil ?_)) rfl) rfl) rfl) rfl) rfl)))
        refine ⟨Nat.le_of_ble_eq_true rfl, ?_⟩
        rw [if_pos (by omega)] at em
        exact ⟨G, by mi_spec "entE", by rw [em] at q; exact q⟩
      · refine xgss_nil ?_
        rw [if_neg (by omega)] at em
        refine xgss_cons (xgs_ret (xge_tup (xga_cons (xge_nm c nm (.there (.there (.there (.there (.there .here))))) (xga_cons (xge_nm c nm (.there (.there (.there (.there (.there (.there .here)))))) (xga_cons (xge_str (xga_nil ?_)) rfl) rfl) rfl) rfl) rfl)))
        refine ⟨Nat.le_of_ble_eq_true rfl, ?_⟩
        exact ⟨G, by mi_spec "entE", by rw [em] at q; exact q⟩
end
section
variable {P : Program} {w : World} {K : PySem.W.Frag} {mg : Str → Option Value} {base : Heap}
theorem cells_app {a b : List Cell} : dCells (a ++ b) = dCells a ++ dCells b := List.map_append
theorem dCells_at {cs : List Cell} {j : Nat} {y : D} (h : (dCells cs)[j]? = some y) : ∃ c, cs[j]? = some c ∧ y = cellT c := by
  rw [List.getElem?_map] at h
  cases q : cs[j]? with
  | none => rw [q] at h; cases h
  | some n => rw [q] at h; cases h; exact ⟨n, rfl, rfl⟩
theorem sides_at {u d : Nat} {c : Cell} (h : c ∈ sidesC u d) : c = (u, d, c.2.2) := by
  unfold sidesC at h
  split at h
  · have : c = (u, d, ("line" : Str)) := by simpa using h
    rw [this]
  · have : c = (u, d, ("elder" : Str)) ∨ c = (u, d, ("younger" : Str)) := by simpa using h
    rcases this with h | h <;> rw [h]
theorem sides_len {u d : Nat} : (sidesC u d).length ≤ 2 := by
  unfold sidesC
  split <;> simp
theorem ok_lcells {f : Addr} {fd : FuncData} (F : FunD K "_law_cells" "_law_cells" (defArgs s__law_cells) (defBody s__law_cells) (defScope s__law_cells) [] [] f fd) (T : Tx K mg) (h__law_sides : DefAt P w K mg base 1 "_law_sides" (aLSides K))  : FnOk P w K mg base (L2.CX P w) 2 f fd ["reach"] (conc K (aLCells K)) := by
  refine def_ok F sc__law_cells nm__law_cells (fun es G KN KE ⟨_, e, _⟩ => by rw [e] <;> rfl) ?_
  rintro X F0 es G G2 KN KE rfl rfl rfl rfl rfl c hfn nm rz ⟨r, rfl, rfl, h1, h4, q⟩
  show GSs X F0 _ [some (.int (r : Int)), none, none, none, none] (G2) _
  refine xgss_cons (xgs_asg c hfn nm (.there .here) (xge_lst ?_) rfl rfl)
  refine xga_nil ?_
  refine ⟨Nat.le_of_ble_eq_true rfl, fun p => ?_⟩
  refine xgss_cons (xgs_forR2 c hfn nm (.there (.there .here)) .here T.mrange (xga_cons (xge_int (xga_cons (xge_binop (xge_binop (xge_int (xge_nm c nm .here ?_ rfl)))) rfl)) rfl) rfl rfl rfl)
  mi_spec "opMult"
  refine xge_int ?_
  mi_spec "opAdd"
  refine xga_nil ?_
  -- stop: for
  have lenN := fun n => @cellsN_len r h4 n
  refine ⟨_, _, rfl, ⟨by omega, by omega, by omega, by omega⟩, ForR.chg (fun j => gl X.K p (dCells (cellsN r j)) :: G2) (fun j ds' => ∃ o1 o2 o3, ds' = [some (.int (r : Int)), some (.raw (.ref p)), o1, o2, o3]) ⟨_, _, _, rfl⟩ (Ent.refl _) ?_ ?_⟩
  · rintro j ds' hj ⟨o1, o2, o3, rfl⟩
    have hj' : j < 2 * r := by omega
    have hl := lenN j
    have e1 : (1 : Int) + ((j : Nat) : Int) = ((j + 1 : Nat) : Int) := by omega
    rw [e1, cellsN_succ]
    refine xgss_cons (xgs_forR1 c hfn nm (.there (.there (.there .here))) .here T.mrange (xga_cons (xge_binop (xge_nm c nm .here (xge_int ?_) rfl)) rfl) rfl rfl)
    mi_spec "opAdd"
    refine xga_nil ?_
    -- stop: for
    refine ⟨_, rfl, ⟨by omega, by omega⟩, ForR.chg (fun i => gl X.K p (dCells (cellsN r j ++ cellsF r (j + 1) i)) :: G2) (fun i ds' => ∃ o2 o3, ds' = [some (.int (r : Int)), some (.raw (.ref p)), some (.int ((j + 1 : Nat) : Int)), o2, o3]) ⟨_, _, rfl⟩ (by simp [cellsF]; exact Ent.refl _) ?_ ?_⟩
    · rintro i ds' hi ⟨o2, o3, rfl⟩
      rw [Int.zero_add]
      have hi' : i < r + 1 := by omega
      have hl2 := @cellsF_len r (j + 1) i
      have hlen : (cellsN r j ++ cellsF r (j + 1) i).length < 1000 := by rw [List.length_append]; omega
      refine xgss_cons (xgs_if (xgt_val (decide (i ≤ j + 1 ∧ j + 1 - i ≤ r)) ?_ ?_))
      · refine xgt_chain (xge_int (xge_binop (xge_nm c nm (.there (.there .here)) (xge_nm c nm (.there (.there (.there .here))) ?_ rfl) rfl))) rfl
        mi_spec "opSub"
        mi_spec "opLtE"
        refine ⟨_, rfl, ?_⟩
        -- stop: chain
        refine br ?_ ?_ <;> intro hb
        · refine xge_nm c nm .here ?_ rfl
          mi_spec "opLtE"
          refine kb ?_
          exact ⟨by rw [Bool.eq_iff_iff]; simp; omega, rfl⟩
        · exact ⟨by rw [eq_comm, decide_eq_false_iff_not]; omega, rfl⟩
      refine br ?_ ?_ <;> intro hb
      · have hnext : cellsN r j ++ cellsF r (j + 1) (i + 1) = (cellsN r j ++ cellsF r (j + 1) i) ++ sidesC i (j + 1 - i) := by rw [cellsF_succ (n := i), if_pos hb, List.append_assoc]
        rw [hnext]
        have e2 : ((j + 1 : Nat) : Int) - ((i : Nat) : Int) = ((j + 1 - i : Nat) : Int) := by omega
        refine xgss_cons (xgs_forL c hfn (.there (.there (.there (.there .here)))) (nm.loc (.there (.there (.there (.there .here)))) rfl) (xge_call c h__law_sides (Nat.le_of_ble_eq_true rfl) nm (.there .here) (xga_cons (xge_nm c nm (.there (.there (.there .here))) (xga_cons (xge_binop (xge_nm c nm (.there (.there .here)) (xge_nm c nm (.there (.there (.there .here))) ?_ rfl) rfl)) rfl) rfl) rfl) rfl rfl) (fun _ => rfl))
        mi_spec "opSub"
        refine xga_nil ?_
        -- stop: call _law_sides
        rw [e2]
        refine CallK.frame ⟨i, j + 1 - i, rfl, rfl, fun ps => ?_⟩
        have hsl := @sides_len i (j + 1 - i)
        have hsa := fun c => @sides_at i (j + 1 - i) c
        generalize sidesC i (j + 1 - i) = SC at hsl hsa hnext
        generalize cellsN r j ++ cellsF r (j + 1) i = base at hlen hnext
        refine ⟨dStrs (SC.map fun c => c.2.2), ForL.chg (fun n => gl X.K ps (dStrs (SC.map fun c => c.2.2)) :: gl X.K p (dCells (base ++ SC.take n)) :: G2) (fun n ds' => ∃ o3, ds' = [some (.int (r : Int)), some (.raw (.ref p)), some (.int ((j + 1 : Nat) : Int)), some (.int ((i : Nat) : Int)), o3]) (fun n _ => lst_own (by mi_spec "foc")) ⟨_, rfl⟩ (by rw [List.take_zero, List.append_nil]; exact Ent.refl _) ?_ ?_⟩
        · rintro n y ds' hy ⟨o3, rfl⟩
          obtain ⟨z, hz, rfl⟩ := strs_at hy
          rw [List.getElem?_map] at hz
          cases hc : SC[n]? with
          | none => rw [hc] at hz; cases hz
          | some cl =>
            rw [hc] at hz
            have hz2 : cl.2.2 = z := Option.some.inj hz
            subst hz2
            have ec := hsa cl (List.mem_of_getElem? hc)
            have hst : (SC.take n).length ≤ SC.length := by rw [List.length_take]; omega
            refine xgss_cons (xgs_expr (xge_bm PySem.F.plainAttrs_list PySem.F.slot_list_append PySem.F.type_list_append mt_append (xge_nm c nm (.there .here) ?_ rfl) rfl rfl rfl rfl rfl) rfl)
            mi_spec "opTy"
            refine xga_cons (xge_tup (xga_cons (xge_nm c nm (.there (.there (.there .here))) (xga_cons (xge_binop (xge_nm c nm (.there (.there .here)) (xge_nm c nm (.there (.there (.there .here))) ?_ rfl) rfl)) rfl) rfl) rfl)) rfl
            mi_spec "opSub"
            refine xga_cons (xge_nm c nm (.there (.there (.there (.there .here)))) (xga_nil ?_) rfl) rfl
            refine ⟨Nat.le_of_ble_eq_true rfl, ?_⟩
            refine xga_nil ?_
            mi_spec "rm_append"
            · rw [List.length_map, List.length_append]
              omega
            refine xgss_nil ?_
            rw [e2]
            refine ⟨⟨_, rfl⟩, ?_⟩
            rw [List.take_succ, hc, ← List.append_assoc, cells_app (a := base ++ SC.take n)]
            have e3 : dCells (some cl).toList = [.tup [.int (i : Int), .int ((j + 1 - i : Nat) : Int), .str cl.2.2]] := by
              show [cellT cl] = _
              rw [ec]
            rw [e3]
            exact Ent.refl _
        · rintro ds' G' ⟨o3, rfl⟩ en
          refine xgss_nil (xgss_nil ?_)
          rw [show (dStrs (SC.map fun c => c.2.2)).length = SC.length by simp, List.take_of_length_le (Nat.le_refl _)] at en
          exact ⟨⟨_, _, rfl⟩, en.trans Ent.drop⟩
      · have hnext : cellsF r (j + 1) (i + 1) = cellsF r (j + 1) i := by rw [cellsF_succ (n := i), if_neg hb, List.append_nil]
        rw [hnext]
        refine xgss_nil (xgss_nil ?_)
        exact ⟨⟨_, _, rfl⟩, Ent.refl _⟩
    · rintro ds' G' ⟨o2, o3, rfl⟩ en
      refine xgss_nil ?_
      have e : ((r : Int) + 1).toNat = r + 1 := by omega
      rw [e] at en
      exact ⟨⟨_, _, _, rfl⟩, en⟩
  · rintro ds' G' ⟨o1, o2, o3, rfl⟩ en
    refine GTS.ent en ?_
    refine xgss_cons (xgs_ret (xge_nm c nm (.there .here) ?_ rfl))
    have e : (2 * (r : Int) + 1 - 1).toNat = 2 * r := by omega
    rw [e]
    exact ⟨[gl X.K p (dCells (cellsOf r))], Ent.refl _, q p⟩
end
section
variable {P : Program} {w : World} {K : PySem.W.Frag} {mg : Str → Option Value} {base : Heap}
def cD (c : Cell) : PyData := .tuple [.int (c.1 : Int), .int (c.2.1 : Int), .str c.2.2]
theorem cD_lay {z : Cell} (h : SideOk z) : (cD z).canLay0 = true := by
  have e : PyData.strOk z.2.2 = true := by rcases h with h | h | h <;> rw [h] <;> decide +kernel
  simp [cD, PyData.canLay0, PyData.canLayAll0, e]
theorem cD_depth (z : Cell) : (cD z).depth = 1 := by simp [cD, PyData.depth, PyData.depthAll]
theorem cDs_lay : ∀ zs : List Cell, (∀ z ∈ zs, SideOk z) → PyData.canLayAll0 (zs.map cD) = true
  | [], _ => by simp [PyData.canLayAll0]
  | z :: zs, h => by simp [PyData.canLayAll0, cD_lay (h z (List.mem_cons_self ..)), cDs_lay zs fun y hy => h y (List.mem_cons_of_mem _ hy)]
theorem cDs_depth : ∀ zs : List Cell, PyData.depthAll (zs.map cD) ≤ 2
  | [] => by simp [PyData.depthAll]
  | z :: zs => by
    have h1 := cDs_depth zs
    have h2 := cD_depth z
    simp only [List.map_cons, PyData.depthAll]
    omega
theorem cD_shaped {z : Cell} (ok : SideOk z) : SeqAt.shaped (cD z) = true := by
  have h := cD_depth z
  show ((cD z).canLay0 && decide ((cD z).depth ≤ 64)) = true
  rw [Bool.and_eq_true]
  exact ⟨cD_lay ok, decide_eq_true (by omega)⟩
theorem cDs_shaped {zs : List Cell} (ok : ∀ z ∈ zs, SideOk z) : SeqAt.shaped (.list (zs.map cD)) = true := by
  have h1 := cDs_depth zs
  have h2 : PyData.depth (.list (zs.map cD)) ≤ 64 := by
    simp only [PyData.depth]
    omega
  show (PyData.canLay0 (.list (zs.map cD)) && decide (PyData.depth (.list (zs.map cD)) ≤ 64)) = true
  rw [Bool.and_eq_true]
  exact ⟨by simp only [PyData.canLay0]; exact cDs_lay zs ok, decide_eq_true h2⟩
theorem cD_eqv (z w : Cell) : PyData.eqv (cD z) (cD w) = decide (z = w) := by
  obtain ⟨a, b, c⟩ := z
  obtain ⟨a', b', c'⟩ := w
  have e : PyData.eqv (cD (a, b, c)) (cD (a', b', c')) = (((a : Int) == (a' : Int)) && (((b : Int) == (b' : Int)) && ((c == c') && true))) := by simp only [cD, PyData.eqv, PyData.eqvAll]
  rw [e, Bool.eq_iff_iff, decide_eq_true_iff]
  simp only [Bool.and_true, Bool.and_eq_true, beq_iff_eq, Prod.mk.injEq]
  exact ⟨fun ⟨h1, h2, h3⟩ => ⟨by omega, by omega, h3⟩, fun ⟨h1, h2, h3⟩ => ⟨by omega, by omega, h3⟩⟩
theorem rep_cell {K : PySem.W.Frag} {F H : Hp} {c : Cell} {v : V} (e : Ex F H) (r : Rep K F (cellT c) v) : Dp K H v (cD c) := by
  obtain ⟨a, vs, rfl, h1, h2⟩ := rep_tup.mp r
  obtain ⟨v1, r1, rfl, g1, t1⟩ := RepL.cons_iff.mp h2
  obtain ⟨v2, r2, rfl, g2, t2⟩ := RepL.cons_iff.mp t1
  obtain ⟨v3, r3, rfl, g3, t3⟩ := RepL.cons_iff.mp t2
  rw [rep_int.mp g1, rep_int.mp g2, rep_str.mp g3, RepL.nil_iff.mp t3] at h1
  exact .tup (.inl (.inl (e a _ h1))) (.cons (.int _) (.cons (.int _) (.cons (.str _) .nil)))
theorem repL_cells {K : PySem.W.Frag} {F H : Hp} (e : Ex F H) : ∀ {cs : List Cell} {vs : List V}, RepL K F (dCells cs) vs → DpAll K H vs (cs.map cD)
  | [], vs, h => by rw [RepL.nil_iff.mp h]; exact .nil
  | c :: cs, vs, h => by
    obtain ⟨v, r, rfl, h1, h2⟩ := RepL.cons_iff.mp h
    exact .cons (rep_cell e h1) (repL_cells e h2)
theorem rk_inC {X : Cx} {F0 : Hp} {G : Gs} {Q : D → Gs → Prop} {N : List Str} {sc : Scope} {k : Nat} {d : D} {cs : List Cell} {x : Cell} (c : Ly.Ctx N sc k X) (h : LstAt X.K G d (dCells cs)) (o1 : ∀ z ∈ cs, SideOk z) (o2 : SideOk x) (q : Q (.bl (decide (x ∈ cs))) G) : RK2 X F0 (wpR X (compareOp .In)) (cellT x) d G Q := RK2.of (op_inD (by have := c.room.un; omega)) fun F H u v QQ a s r1 r2 z => by
  obtain ⟨p, vs, ev, h1, h2⟩ := h F H v s r2
  subst ev
  refine ⟨cD x, cs.map cD, rep_cell s.ex r1, .lst (SqL.of h1) (repL_cells s.ex h2), cD_shaped o2, cDs_shaped o1, ?_⟩
  have e : ((cs.map cD).any fun z => PyData.eqv z (cD x)) = decide (x ∈ cs) := by
    rw [List.any_map, Bool.eq_iff_iff, List.any_eq_true, decide_eq_true_iff]
    constructor
    · rintro ⟨y, hy, e⟩
      have e' : PyData.eqv (cD y) (cD x) = true := e
      rw [cD_eqv, decide_eq_true_iff] at e'
      exact e' ▸ hy
    · exact fun hy => ⟨x, hy, by show PyData.eqv (cD x) (cD x) = true; rw [cD_eqv]; simp⟩
  rw [e]
  exact z _ _ _ F H q (Ex.refl F) s (rep_bl.mpr rfl)
theorem ok_llets {f : Addr} {fd : FuncData} (F : FunD K "_law_lets" "_law_lets" (defArgs s__law_lets) (defBody s__law_lets) (defScope s__law_lets) [] [] f fd) (T : Tx K mg) (h__law_capped : DefAt P w K mg base 1 "_law_capped" aLCapped)  : FnOk P w K mg base (L2.CX P w) 2 f fd ["reach", "cells", "parts"] (conc K aLLets) := by
  refine def_ok F sc__law_lets nm__law_lets (fun es G KN KE ⟨_, _, _, e, _⟩ => by rw [e] <;> rfl) ?_
  rintro X F0 es G G2 KN KE rfl rfl rfl rfl rfl c hfn nm rz ⟨r, cs, cc, rfl, rfl, o1, o2, q⟩
  show GSs X F0 _ [some (.int (r : Int)), some (.lst (dCells cs)), some (cellT cc)] (G2) _
  refine xgss_cons (xgs_ret (xge_compare (xge_call c h__law_capped (Nat.le_of_ble_eq_true rfl) nm .here (xga_cons (xge_nm c nm (.there (.there .here)) (xga_cons (xge_nm c nm .here (xga_nil ?_) rfl) rfl) rfl) rfl) rfl rfl) rfl))
  -- stop: call _law_capped
  refine CallK.frame ⟨cc, r, rfl, rfl, ?_⟩
  refine xge_nm c nm (.there .here) ?_ rfl
  -- stop: in
  refine rk_inC (x := capC r cc) c lst_fr o1 o2 ?_
  exact ⟨[], Ent.refl _, q⟩
theorem ok_lheld {f : Addr} {fd : FuncData} (F : FunD K "_law_held" "_law_held" (defArgs s__law_held) (defBody s__law_held) (defScope s__law_held) [] [] f fd) (T : Tx K mg)   : FnOk P w K mg base (L2.CX P w) 1 f fd ["flags", "parts"] (conc K aLHeld) := by
  refine def_ok F sc__law_held nm__law_held (fun es G KN KE ⟨_, _, e, _⟩ => by rw [e] <;> rfl) ?_
  rintro X F0 es G G2 KN KE rfl rfl rfl rfl rfl c hfn nm rz ⟨f, cc, rfl, rfl, q⟩
  show GSs X F0 _ [some (flagsD f), some (cellT cc)] (G2) _
  have ret : ∀ v, v = heldF f cc → (bodyA KN G2).rt (.bl v) G2 := fun v hv => ⟨[], Ent.refl _, by rw [hv]; exact q⟩
  refine xgss_cons (xgs_if (xgt_compare (xge_binop (xge_index (xge_nm c nm (.there .here) (xge_int ?_) rfl) (fun b_ _ _ => by cases b_ <;> exact rfl))) (nm_Eq _)))
  mi_spec "opIx 0"
  refine xge_index (xge_nm c nm (.there .here) (xge_int ?_) rfl) (fun b_ _ _ => by cases b_ <;> exact rfl)
  mi_spec "opIx 1"
  mi_spec "opAdd"
  refine xge_int ?_
  mi_spec "opEq"
  refine kb ?_
  -- stop: if
  refine br ?_ ?_ <;> intro h0
  · refine xgss_cons (xgs_ret (xge_bl ?_))
    exact ret _ (by unfold heldF; rw [if_pos (by omega)])
  · refine xgss_nil ?_
    refine xgss_cons (xgs_if (xgt_compare (xge_index (xge_nm c nm (.there .here) (xge_int ?_) rfl) (fun b_ _ _ => by cases b_ <;> exact rfl)) (nm_Eq _)))
    mi_spec "opIx 0"
    refine xge_int ?_
    mi_spec "opEq"
    refine kb ?_
    -- stop: if
    refine br ?_ ?_ <;> intro h1
    · refine xgss_cons (xgs_ret (xge_and (xge_index (xge_nm c nm .here (xge_int ?_) rfl) (fun b_ _ _ => by cases b_ <;> exact rfl))))
      mi_spec "opIx 0"
      refine ⟨_, rfl, ?_⟩
      -- stop: br xge_and
      refine brB ?_ ?_ <;> intro g1
      · refine xge_one (xge_or (xge_compare (xge_index (xge_nm c nm (.there .here) (xge_int ?_) rfl) (fun b_ _ _ => by cases b_ <;> exact rfl)) (nm_Eq _)))
        mi_spec "opIx 1"
        refine xge_int ?_
        mi_spec "opEq"
        refine ⟨_, rfl, ?_⟩
        -- stop: br xge_or
        refine brB ?_ ?_ <;> intro g2
        · exact ret _ (by unfold heldF; rw [if_neg (by omega), if_pos (by omega)]; have := of_decide_eq_true g2; rw [g1, show decide (cc.2.1 = 1) = true from decide_eq_true (by omega)]; rfl)
        · refine xge_one (xge_index (xge_nm c nm .here (xge_int ?_) rfl) (fun b_ _ _ => by cases b_ <;> exact rfl))
          mi_spec "opIx 3"
          exact ret _ (by unfold heldF; rw [if_neg (by omega), if_pos (by omega)]; have := of_decide_eq_false g2; rw [g1, show decide (cc.2.1 = 1) = false from decide_eq_false (by omega)]; rfl)
      · exact ret _ (by unfold heldF; rw [if_neg (by omega), if_pos (by omega), g1]; rfl)
    · refine xgss_nil ?_
      refine xgss_cons (xgs_if (xgt_compare (xge_index (xge_nm c nm (.there .here) (xge_int ?_) rfl) (fun b_ _ _ => by cases b_ <;> exact rfl)) (nm_Eq _)))
      mi_spec "opIx 1"
      refine xge_int ?_
      mi_spec "opEq"
      refine kb ?_
      -- stop: if
      refine br ?_ ?_ <;> intro h2
      · refine xgss_cons (xgs_ret (xge_and (xge_index (xge_nm c nm .here (xge_int ?_) rfl) (fun b_ _ _ => by cases b_ <;> exact rfl))))
        mi_spec "opIx 1"
        refine ⟨_, rfl, ?_⟩
        -- stop: br xge_and
        refine brB ?_ ?_ <;> intro g1
        · refine xge_one (xge_or (xge_compare (xge_index (xge_nm c nm (.there .here) (xge_int ?_) rfl) (fun b_ _ _ => by cases b_ <;> exact rfl)) (nm_Eq _)))
          mi_spec "opIx 0"
          refine xge_int ?_
          mi_spec "opEq"
          refine ⟨_, rfl, ?_⟩
          -- stop: br xge_or
          refine brB ?_ ?_ <;> intro g2
          · exact ret _ (by unfold heldF; rw [if_neg (by omega), if_neg (by omega), if_pos (by omega)]; have := of_decide_eq_true g2; rw [g1, show decide (cc.1 = 1) = true from decide_eq_true (by omega)]; rfl)
          · refine xge_one (xge_index (xge_nm c nm .here (xge_int ?_) rfl) (fun b_ _ _ => by cases b_ <;> exact rfl))
            mi_spec "opIx 2"
            exact ret _ (by unfold heldF; rw [if_neg (by omega), if_neg (by omega), if_pos (by omega)]; have := of_decide_eq_false g2; rw [g1, show decide (cc.1 = 1) = false from decide_eq_false (by omega)]; rfl)
        · exact ret _ (by unfold heldF; rw [if_neg (by omega), if_neg (by omega), if_pos (by omega), g1]; rfl)
      · refine xgss_nil ?_
        refine xgss_cons (xgs_if (xgt_compare (xge_index (xge_nm c nm (.there .here) (xge_int ?_) rfl) (fun b_ _ _ => by cases b_ <;> exact rfl)) (nm_Eq _)))
        mi_spec "opIx 2"
        refine xge_str ?_
        mi_spec "opEq"
        refine kb ?_
        -- stop: if
        refine br ?_ ?_ <;> intro h3
        · have eF : heldF f cc = ((f.keeps && f.inherits) && (decide (cc.2.1 = 1) || f.told)) := by unfold heldF; rw [if_neg (by omega), if_neg (by omega), if_neg (by omega), if_pos h3]
          refine xgss_cons (xgs_ret (xge_and (xge_index (xge_nm c nm .here (xge_int ?_) rfl) (fun b_ _ _ => by cases b_ <;> exact rfl))))
          mi_spec "opIx 0"
          refine ⟨_, rfl, ?_⟩
          -- stop: br xge_and
          refine brB ?_ ?_ <;> intro g1
          · refine xge_and (xge_index (xge_nm c nm .here (xge_int ?_) rfl) (fun b_ _ _ => by cases b_ <;> exact rfl))
            mi_spec "opIx 2"
            refine ⟨_, rfl, ?_⟩
            -- stop: br xge_and
            refine brB ?_ ?_ <;> intro g2
            · refine xge_one (xge_or (xge_compare (xge_index (xge_nm c nm (.there .here) (xge_int ?_) rfl) (fun b_ _ _ => by cases b_ <;> exact rfl)) (nm_Eq _)))
              mi_spec "opIx 1"
              refine xge_int ?_
              mi_spec "opEq"
              refine ⟨_, rfl, ?_⟩
              -- stop: br xge_or
              refine brB ?_ ?_ <;> intro g3
              · exact ret _ (by rw [eF]; have := of_decide_eq_true g3; rw [g1, g2, show decide (cc.2.1 = 1) = true from decide_eq_true (by omega)]; rfl)
              · refine xge_one (xge_index (xge_nm c nm .here (xge_int ?_) rfl) (fun b_ _ _ => by cases b_ <;> exact rfl))
                mi_spec "opIx 3"
                exact ret _ (by rw [eF]; have := of_decide_eq_false g3; rw [g1, g2, show decide (cc.2.1 = 1) = false from decide_eq_false (by omega)]; rfl)
            · exact ret _ (by rw [eF, g2, Bool.and_false]; rfl)
          · exact ret _ (by rw [eF, g1]; rfl)
        · refine xgss_nil ?_
          have eF : heldF f cc = ((f.greets && f.told) && (decide (cc.1 = 1) || f.inherits)) := by unfold heldF; rw [if_neg (by omega), if_neg (by omega), if_neg (by omega), if_neg h3]
          refine xgss_cons (xgs_ret (xge_and (xge_index (xge_nm c nm .here (xge_int ?_) rfl) (fun b_ _ _ => by cases b_ <;> exact rfl))))
          mi_spec "opIx 1"
          refine ⟨_, rfl, ?_⟩
          -- stop: br xge_and
          refine brB ?_ ?_ <;> intro g1
          · refine xge_and (xge_index (xge_nm c nm .here (xge_int ?_) rfl) (fun b_ _ _ => by cases b_ <;> exact rfl))
            mi_spec "opIx 3"
            refine ⟨_, rfl, ?_⟩
            -- stop: br xge_and
            refine brB ?_ ?_ <;> intro g2
            · refine xge_one (xge_or (xge_compare (xge_index (xge_nm c nm (.there .here) (xge_int ?_) rfl) (fun b_ _ _ => by cases b_ <;> exact rfl)) (nm_Eq _)))
              mi_spec "opIx 0"
              refine xge_int ?_
              mi_spec "opEq"
              refine ⟨_, rfl, ?_⟩
              -- stop: br xge_or
              refine brB ?_ ?_ <;> intro g3
              · exact ret _ (by rw [eF]; have := of_decide_eq_true g3; rw [g1, g2, show decide (cc.1 = 1) = true from decide_eq_true (by omega)]; rfl)
              · refine xge_one (xge_index (xge_nm c nm .here (xge_int ?_) rfl) (fun b_ _ _ => by cases b_ <;> exact rfl))
                mi_spec "opIx 2"
                exact ret _ (by rw [eF]; have := of_decide_eq_false g3; rw [g1, g2, show decide (cc.1 = 1) = false from decide_eq_false (by omega)]; rfl)
            · exact ret _ (by rw [eF, g2, Bool.and_false]; rfl)
          · exact ret _ (by rw [eF, g1]; rfl)
theorem ok_lholds {f : Addr} {fd : FuncData} (F : FunD K "_law_holds" "_law_holds" (defArgs s__law_holds) (defBody s__law_holds) (defScope s__law_holds) [] [] f fd) (T : Tx K mg) (h__law_held : DefAt P w K mg base 1 "_law_held" aLHeld)  : FnOk P w K mg base (L2.CX P w) 2 f fd ["flags", "parts"] (conc K aLHolds) := by
  refine def_ok F sc__law_holds nm__law_holds (fun es G KN KE ⟨_, _, e, _⟩ => by rw [e] <;> rfl) ?_
  rintro X F0 es G G2 KN KE rfl rfl rfl rfl rfl c hfn nm rz ⟨o, cc, rfl, rfl, q⟩
  cases o with
  | none =>
    show GSs X F0 _ [some (.non), some (cellT cc)] (G2) _
    refine xgss_cons (xgs_if (xgt_compare (xge_nm c nm .here (xge_non ?_) rfl) (nm_Is _)))
    mi_spec "opIs"
    refine kb ?_
    -- stop: if
    refine brT ?_
    refine xgss_cons (xgs_ret (xge_compare (xge_binop (xge_index (xge_nm c nm (.there .here) (xge_int ?_) rfl) (fun b_ _ _ => by cases b_ <;> exact rfl))) (nm_Gt _)))
    mi_spec "opIx 0"
    refine xge_index (xge_nm c nm (.there .here) (xge_int ?_) rfl) (fun b_ _ _ => by cases b_ <;> exact rfl)
    mi_spec "opIx 1"
    mi_spec "opAdd"
    refine xge_int ?_
    mi_spec "opGt"
    have e : decide (0 < (cc.1 : Int) + (cc.2.1 : Int)) = holdsF none cc := dec_congr (by omega)
    rw [e]
    exact ⟨[], Ent.refl _, q⟩
  | some f =>
    show GSs X F0 _ [some (flagsD f), some (cellT cc)] (G2) _
    refine xgss_cons (xgs_if (xgt_compare (xge_nm c nm .here (xge_non ?_) rfl) (nm_Is _)))
    mi_spec "opIs"
    refine kb ?_
    -- stop: if
    refine brF (xgss_nil ?_)
    refine xgss_cons (xgs_ret (xge_call c h__law_held (Nat.le_of_ble_eq_true rfl) nm .here (xga_cons (xge_nm c nm .here (xga_cons (xge_nm c nm (.there .here) (xga_nil ?_) rfl) rfl) rfl) rfl) rfl rfl))
    -- stop: call _law_held
    refine CallK.frame ⟨f, cc, rfl, rfl, ?_⟩
    exact ⟨[], Ent.refl _, q⟩
theorem ok_lflags {f : Addr} {fd : FuncData} (F : FunD K "_law_flags" "_law_flags" (defArgs s__law_flags) (defBody s__law_flags) (defScope s__law_flags) [] [] f fd) (T : Tx K mg) (h__law_draw : DefAt P w K mg base 1 "_law_draw" (aDraw K))  : FnOk P w K mg base (L2.CX P w) 2 f fd ["state"] (conc K (aLFlags K)) := by
  refine def_ok F sc__law_flags nm__law_flags (fun es G KN KE ⟨_, e, _⟩ => by rw [e] <;> rfl) ?_
  rintro X F0 es G G2 KN KE rfl rfl rfl rfl rfl c hfn nm rz ⟨p, rfl, rfl, q⟩
  show GSs X F0 _ [some (.raw (.ref p)), none] (gDraw X.K p :: G2) _
  refine xgss_cons (xgs_asg c hfn nm (.there .here) (xge_call c h__law_draw (Nat.le_of_ble_eq_true rfl) nm .here (xga_cons (xge_nm c nm .here (xga_cons (xge_int (xga_nil ?_)) rfl) rfl) rfl) rfl rfl) rfl rfl)
  -- stop: call _law_draw
  refine ⟨[gDraw X.K p], _, Ent.refl _, p, 16, rfl, rfl, by decide, by decide, fun v hv => ?_⟩
  refine xgss_cons (xgs_ret (GTE.freeze ?_))
  refine xge_lst ?_
  refine xga_cons (xge_compare (xge_binop (xge_nm c nm (.there .here) (xge_int ?_) rfl)) (nm_Eq _)) rfl
  mi_spec "opFloorDiv"
  refine xge_int ?_
  mi_spec "opEq"
  refine xga_cons (xge_compare (xge_binop (xge_binop (xge_nm c nm (.there .here) (xge_int ?_) rfl))) (nm_Eq _)) rfl
  mi_spec "opFloorDiv"
  refine xge_int ?_
  mi_spec "opMod"
  refine xge_int ?_
  mi_spec "opEq"
  refine xga_cons (xge_compare (xge_binop (xge_binop (xge_nm c nm (.there .here) (xge_int ?_) rfl))) (nm_Eq _)) rfl
  mi_spec "opFloorDiv"
  refine xge_int ?_
  mi_spec "opMod"
  refine xge_int ?_
  mi_spec "opEq"
  refine xga_cons (xge_compare (xge_binop (xge_nm c nm (.there .here) (xge_int ?_) rfl)) (nm_Eq _)) rfl
  mi_spec "opMod"
  refine xge_int ?_
  mi_spec "opEq"
  refine xga_nil ?_
  refine ⟨Nat.le_of_ble_eq_true rfl, fun l1 => ?_⟩
  refine ⟨_, _, _, rfl, by mi_spec "rem", ?_⟩
  exact ⟨[gDraw X.K p], Ent.refl _, q ⟨_, _, _, _⟩⟩
end
/-- what a script draws ahead: the reach, the cells, the hand rule, the limit -/
structure Wd where
  r : Nat
  cs : List Cell
  o : Option Flags
  l : Nat
abbrev wdD (w : Wd) : D := .lst [.int (w.r : Int), .lst (dCells w.cs), optF w.o, .int (w.l : Int)]
structure Wd.Ok (w : Wd) : Prop where
  r1 : 1 ≤ w.r
  r4 : w.r ≤ 4
  c : ∀ c ∈ w.cs, CellOk w.r c
  len : w.cs.length ≤ 100
  l1 : 4 ≤ w.l
  l2 : w.l ≤ 12
abbrev aLWorld (K : PySem.W.Frag) : ASp := fun es G KN _ => ∃ p, es = [.raw (.ref p)] ∧ G = [gDraw K p] ∧ ∀ wd : Wd, wd.Ok → KN (wdD wd) [gDraw K p]
abbrev aLStage (K : PySem.W.Frag) : ASp := fun es G KN _ => ∃ wd, es = [wdD wd] ∧ G = [] ∧ Wd.Ok wd ∧ ∀ a S, (∀ c, c ∈ S ↔ c ∈ wd.cs) → S.length ≤ 300 → KN (.raw (.ref (RtAd.p a))) (gRt K a ⟨wd.r, S, wd.o.getD everyF, wd.l, St.zero⟩)
structure HallAd where
  p0 : Addr
  p1 : Addr
  p2 : Addr
  p3 : Addr
abbrev hlV (a : HallAd) : D := hallV a.p0 a.p1 a.p2 a.p3
abbrev gHl (K : PySem.W.Frag) (a : HallAd) (h : Hall) : Gs := gHall K a.p0 a.p1 a.p2 a.p3 h
def goodB (wd : Wd) (h : Hall) (t i : Nat) : Bool := decide (capC wd.r (partsOf (psOf h.births) t i) ∈ wd.cs) && holdsF wd.o (partsOf (psOf h.births) t i)
def goodN (wd : Wd) (h : Hall) (t : Nat) : List Nat := (List.range h.phases.length).filter (goodB wd h t)
abbrev aLGood (K : PySem.W.Frag) : ASp := fun es G KN _ => ∃ wd a h, ∃ t : Nat, es = [wdD wd, hlV a, .int (t : Int)] ∧ G = gHl K a h ∧ Wd.Ok wd ∧ h.Ok ∧ t < h.phases.length ∧ ∀ p, KN (.raw (.ref p)) (gl K p (dInts (goodN wd h t)) :: gHl K a h)
/-- the deed that comes next -/
def NextOk (wd : Wd) (h : Hall) : Option Deed → Prop
  | none => ∀ t, t < h.phases.length → h.phases.getD t ⟨#[]⟩ ≠ ("running" : Str)
  | some (.bear t) => t < h.phases.length ∧ h.phases.getD t ⟨#[]⟩ = ("running" : Str) ∧ h.phases.length < wd.l
  | some (.fin t) => t < h.phases.length ∧ h.phases.getD t ⟨#[]⟩ = ("running" : Str)
  | some (.wait _ t ts) => t < h.phases.length ∧ h.phases.getD t ⟨#[]⟩ = ("running" : Str) ∧ 0 < ts.length ∧ ts.length ≤ 3 ∧ ∀ i ∈ ts, i ∈ goodN wd h t
def nextD : Option Deed → D
  | none => .tup []
  | some e => e.d
abbrev aLNext (K : PySem.W.Frag) : ASp := fun es G KN _ => ∃ ps wd a h, ∃ k : Nat, es = [.raw (.ref ps), wdD wd, hlV a, .int (k : Int)] ∧ G = gDraw K ps :: gHl K a h ∧ Wd.Ok wd ∧ h.Ok ∧ k ≤ 100 ∧ ∀ e, NextOk wd h e → KN (nextD e) (gDraw K ps :: gHl K a h)
def Hall.deed (h : Hall) : Deed → Hall
  | .bear t => h.bear t
  | .fin t => h.fin t
  | .wait m t ts => h.begin t ts m
def Hall.ans (h : Hall) : Deed → D ⊕ List Nat
  | .bear _ => .inl (.int ((h.births.length + 1 : Nat) : Int))
  | .fin t => .inr (h.woken t)
  | .wait m _ ts => .inl (.bl (overB m ts h.done))
abbrev aLEffect (K : PySem.W.Frag) : ASp := fun es G KN _ => ∃ wd a h e, es = [hlV a, Deed.d e] ∧ G = gHl K a h ∧ h.Ok ∧ NextOk wd h (some e) ∧ ansK K KN (gHl K a (h.deed e)) (h.ans e)
section
variable {P : Program} {w : World} {K : PySem.W.Frag} {mg : Str → Option Value} {base : Heap}
theorem fold_mem : ∀ (l S : List Cell) (c : Cell), c ∈ l.foldl putS S ↔ c ∈ l ∨ c ∈ S
  | [], S, c => by simp
  | x :: l, S, c => by
    rw [List.foldl_cons, fold_mem l, List.mem_cons]
    have : c ∈ putS S x ↔ c = x ∨ c ∈ S := by
      unfold putS
      split
      · rename_i h
        constructor
        · exact .inr
        · rintro (e | e)
          · rw [e]; exact h
          · exact e
      · simp [or_comm]
    rw [this]
    constructor
    · rintro (h | h | h)
      · exact .inl (.inr h)
      · exact .inl (.inl h)
      · exact .inr h
    · rintro ((h | h) | h)
      · exact .inr (.inl h)
      · exact .inl h
      · exact .inr (.inr h)
theorem foldS_len : ∀ (l S : List Cell), (l.foldl putS S).length ≤ S.length + l.length
  | [], S => by simp
  | x :: l, S => by
    rw [List.foldl_cons]
    have h1 := foldS_len l (putS S x)
    have h2 : (putS S x).length ≤ S.length + 1 := by
      unfold putS
      split <;> simp
    rw [List.length_cons]
    omega
theorem ok_lrule {f : Addr} {fd : FuncData} (F : FunD K "_law_rule" "_law_rule" (defArgs s__law_rule) (defBody s__law_rule) (defScope s__law_rule) [] [] f fd) (T : Tx K mg) (h_Rule : MakeR P w K mg base 6 "Rule" (He.ga K "Rule") (starA 2 (aRule K))) (h__law_kin : DefAt P w K mg base 4 "_law_kin" (aLKin K)) (h_Rule___setitem__ : SpecAt P w K mg base 6 (He.ga K "Rule") "__setitem__" (aSetItem K))  : FnOk P w K mg base (L2.CX P w) 8 f fd ["reach", "cells"] (conc K (aLRule K)) := by
  refine def_ok F sc__law_rule nm__law_rule (fun es G KN KE ⟨_, _, e, _⟩ => by rw [e] <;> rfl) ?_
  rintro X F0 es G G2 KN KE rfl rfl rfl rfl rfl c hfn nm rz ⟨r, cs, rfl, rfl, h1, h4, ok, hl, q⟩
  show GSs X F0 _ [some (.int (r : Int)), some (.lst (dCells cs)), none, none, none] (G2) _
  refine xgss_cons (xgs_asg c hfn nm (.there (.there .here)) (xge_makeR c h_Rule (Nat.le_of_ble_eq_true rfl) nm .here (xga_cons (xge_nm c nm .here (xga_nil ?_) rfl) rfl) rfl rfl) rfl rfl)
  -- stop: make Rule
  refine fun y => ⟨[gi X.K y (He.ga X.K "Rule") []], _, by mi_spec "ent", Nat.le_refl _, Nat.le_of_ble_eq_true rfl, y, r, [], rfl, rfl, h1, h4, (fun c hc => absurd hc (List.not_mem_nil)), Nat.zero_le _, fun l pr => ⟨rfl, ?_⟩⟩
  refine xgss_cons (xgs_forL c hfn (.there (.there (.there .here))) (nm.loc (.there (.there (.there .here))) rfl) (xge_nm c nm (.there .here) ?_ rfl) (fun _ => rfl))
  -- stop: for
  refine ⟨dCells cs, ForL.chg (fun j => gRule X.K ⟨y, l, pr⟩ r ((cs.take j).foldl putS []) ++ G2) (fun j ds' => ∃ o1 o2, ds' = [some (.int (r : Int)), some (.lst (dCells cs)), some (.raw (.ref y)), o1, o2]) (fun j _ => lst_fr) ⟨_, _, rfl⟩ (Ent.refl _) ?_ ?_⟩
  · rintro j z ds' hz ⟨o1, o2, rfl⟩
    obtain ⟨cc, hc, rfl⟩ := dCells_at hz
    have hco := ok cc (List.mem_of_getElem? hc)
    have hlen := foldS_len (cs.take j) []
    have hlt : (cs.take j).length ≤ cs.length := by rw [List.length_take]; omega
    have et : (cs.take (j + 1)).foldl putS [] = putS ((cs.take j).foldl putS []) cc := by
      rw [List.take_succ, hc, List.foldl_append]
      rfl
    rw [et]
    generalize (cs.take j).foldl putS [] = S at hlen
    refine xgss_cons (xgs_asg c hfn nm (.there (.there (.there (.there .here)))) (xge_call c h__law_kin (Nat.le_of_ble_eq_true rfl) nm (.there .here) (xga_cons (xge_nm c nm (.there (.there (.there .here))) (xga_nil ?_) rfl) rfl) rfl rfl) rfl rfl)
    -- stop: call _law_kin
    refine CallK.frame ⟨cc, rfl, rfl, hco.kin h4, ?_⟩
    refine xgss_cons (xgs_asgSub (xge_bl (xge_nm c nm (.there (.there .here)) (xge_nm c nm (.there (.there (.there (.there .here)))) ?_ rfl) rfl)) (fun _ => rfl) rfl rfl rfl)
    -- stop: STOP store
    refine st_M c T.noseq_Rule h_Rule___setitem__ (Nat.le_of_ble_eq_true rfl) (ins_own (by mi_spec "foc")) ⟨gRule X.K ⟨y, l, pr⟩ r S, _, by mi_spec "ent", ⟨y, l, pr⟩, r, S, cc, rfl, rfl, hco.kin h4, hco.n, h1, by simp at hlen; omega, ?_⟩
    refine xgss_nil ?_
    rw [cap_same hco]
    exact ⟨⟨_, _, rfl⟩, Ent.refl _⟩
  · rintro ds' G' ⟨o1, o2, rfl⟩ en
    refine GTS.ent en ?_
    refine xgss_cons (xgs_ret (xge_nm c nm (.there (.there .here)) ?_ rfl))
    have hlen := foldS_len cs []
    have e : (cs.take (dCells cs).length).foldl putS [] = cs.foldl putS [] := by rw [show (dCells cs).length = cs.length by simp, List.take_of_length_le (Nat.le_refl _)]
    rw [e]
    exact ⟨gRule X.K ⟨y, l, pr⟩ r (cs.foldl putS []), Ent.refl _, q ⟨y, l, pr⟩ _ (fun c => by rw [fold_mem]; simp) (by simp at hlen; omega)⟩
theorem ok_lstage {f : Addr} {fd : FuncData} (F : FunD K "_law_stage" "_law_stage" (defArgs s__law_stage) (defBody s__law_stage) (defScope s__law_stage) [] [] f fd) (T : Tx K mg) (h__law_rule : DefAt P w K mg base 8 "_law_rule" (aLRule K)) (h__law_grip : DefAt P w K mg base 4 "_law_grip" (aLGrip K)) (h_Runtime : MakeAtK P w K mg base 9 (He.ga K "Runtime") 1 ["hands", "limit"] (aRt K))  : FnOk P w K mg base (L2.CX P w) 11 f fd ["world"] (conc K (aLStage K)) := by
  refine def_ok F sc__law_stage nm__law_stage (fun es G KN KE ⟨_, e, _⟩ => by rw [e] <;> rfl) ?_
  rintro X F0 es G G2 KN KE rfl rfl rfl rfl rfl c hfn nm rz ⟨wd, rfl, rfl, ok, q⟩
  show GSs X F0 _ [some (wdD wd)] (G2) _
  refine xgss_cons (xgs_ret (xge_makeK c h_Runtime T.g_Runtime (Nat.le_of_ble_eq_true rfl) nm .here (xga_cons (xge_call c h__law_rule (Nat.le_of_ble_eq_true rfl) nm (.there .here) (xga_cons (xge_index (xge_nm c nm .here (xge_int ?_) rfl) (fun b_ _ _ => by cases b_ <;> exact rfl)) rfl) rfl rfl) rfl) rfl rfl rfl rfl))
  mi_spec "opIx 0"
  refine xga_cons (xge_index (xge_nm c nm .here (xge_int ?_) rfl) (fun b_ _ _ => by cases b_ <;> exact rfl)) rfl
  mi_spec "opIx 1"
  refine xga_nil ?_
  -- stop: call _law_rule
  refine CallK.frame ⟨wd.r, wd.cs, rfl, rfl, ok.r1, ok.r4, ok.c, ok.len, fun a S hS hl => ?_⟩
  refine xga_nil (xgk_cons (xge_call c h__law_grip (Nat.le_of_ble_eq_true rfl) nm (.there (.there .here)) (xga_cons (xge_index (xge_nm c nm .here (xge_int ?_) rfl) (fun b_ _ _ => by cases b_ <;> exact rfl)) rfl) rfl rfl))
  mi_spec "opIx 2"
  refine xga_nil ?_
  -- stop: call _law_grip
  refine ⟨[], _, Ent.refl _, wd.o, rfl, rfl, ?_⟩
  refine xgk_cons (xge_index (xge_nm c nm .here (xge_int ?_) rfl) (fun b_ _ _ => by cases b_ <;> exact rfl))
  mi_spec "opIx 3"
  refine xgk_nil ?_
  -- stop: make Runtime
  refine ⟨rfl, rfl, fun y => ?_⟩
  have ro : RuleOk wd.r S := ⟨ok.r1, ok.r4, fun c hc => ok.c c ((hS c).mp hc), by omega⟩
  have := ok.l1
  have := ok.l2
  refine ⟨gi X.K y (cRt X.K) [] :: gRule X.K a wd.r S, _, by mi_spec "ent", y, a, wd.r, S, wd.o, wd.l, rfl, rfl, ro, by omega, by omega, fun a' st S' hS' hl' => ⟨rfl, ?_⟩⟩
  exact ⟨gRt X.K ⟨y, a', st⟩ ⟨wd.r, S', wd.o.getD everyF, wd.l, St.zero⟩, by mi_spec "entE", q ⟨y, a', st⟩ S' (fun c => (hS' c).trans (hS c)) (by omega)⟩
theorem wd_ok {v1 v9 : Nat} {cs : List Cell} {o : Option Flags} (h1 : v1 < 4) (h2 : ∀ c ∈ cs, CellOk (v1 + 1) c) (h3 : cs.length ≤ 80) (h9 : v9 < 9) : Wd.Ok ⟨v1 + 1, cs, o, v9 + 4⟩ := ⟨Nat.le_add_left .., Nat.succ_le_of_lt h1, h2, Nat.le_trans h3 (by decide), by show 4 ≤ v9 + 4; omega, by show v9 + 4 ≤ 12; omega⟩
theorem ok_lworld {f : Addr} {fd : FuncData} (F : FunD K "_law_world" "_law_world" (defArgs s__law_world) (defBody s__law_world) (defScope s__law_world) [] [] f fd) (T : Tx K mg) (h__law_draw : DefAt P w K mg base 1 "_law_draw" (aDraw K)) (h__law_cells : DefAt P w K mg base 2 "_law_cells" (aLCells K)) (h__law_flags : DefAt P w K mg base 2 "_law_flags" (aLFlags K))  : FnOk P w K mg base (L2.CX P w) 3 f fd ["state"] (conc K (aLWorld K)) := by
  refine def_ok F sc__law_world nm__law_world (fun es G KN KE ⟨_, e, _⟩ => by rw [e] <;> rfl) ?_
  rintro X F0 es G G2 KN KE rfl rfl rfl rfl rfl c hfn nm rz ⟨ps, rfl, rfl, q⟩
  show GSs X F0 _ [some (.raw (.ref ps)), none, none, none, none, none] (gDraw X.K ps :: G2) _
  refine xgss_cons (xgs_asg c hfn nm (.there .here) (xge_binop (xge_int (xge_call c h__law_draw (Nat.le_of_ble_eq_true rfl) nm .here (xga_cons (xge_nm c nm .here (xga_cons (xge_int (xga_nil ?_)) rfl) rfl) rfl) rfl rfl))) rfl rfl)
  -- stop: call _law_draw
  refine ⟨[gDraw X.K ps], _, by mi_spec "ent", ps, 4, rfl, rfl, by decide, by decide, fun v1 hv1 => ?_⟩
  mi_spec "opAdd"
  have e1 : (1 : Int) + (v1 : Int) = ((v1 + 1 : Nat) : Int) := by omega
  rw [e1]
  refine xgss_cons (xgs_asg c hfn nm (.there (.there .here)) (xge_call c h__law_draw (Nat.le_of_ble_eq_true rfl) nm .here (xga_cons (xge_nm c nm .here (xga_cons (xge_int (xga_nil ?_)) rfl) rfl) rfl) rfl rfl) rfl rfl)
  -- stop: call _law_draw
  refine ⟨[gDraw X.K ps], _, by mi_spec "ent", ps, 4, rfl, rfl, by decide, by decide, fun v2 hv2 => ?_⟩
  refine xgss_cons (xgs_asg c hfn nm (.there (.there (.there .here))) (GTE.freeze ?_) rfl rfl)
  refine xge_call c h__law_cells (Nat.le_of_ble_eq_true rfl) nm (.there .here) (xga_cons (xge_nm c nm (.there .here) (xga_nil ?_) rfl) rfl) rfl rfl
  -- stop: call _law_cells
  refine CallK.frame ⟨v1 + 1, rfl, rfl, by omega, by omega, fun pc => ?_⟩
  refine ⟨_, _, _, rfl, by mi_spec "rem", ?_⟩
  refine xgss_cons (xgs_asg c hfn nm (.there (.there (.there (.there .here)))) (xge_non ?_) rfl rfl)
  have cok : ∀ c ∈ cellsOf (v1 + 1), CellOk (v1 + 1) c := fun c hc => mem_cellsOf.mp hc
  have cln : (cellsOf (v1 + 1)).length ≤ 80 := by have := @cellsN_len (v1 + 1) (by omega) (2 * (v1 + 1)); unfold cellsOf; omega
  refine xgss_cons (xgs_if (xgt_compare (xge_nm c nm (.there (.there .here)) (xge_int ?_) rfl) (nm_Eq _)))
  mi_spec "opEq"
  refine kb ?_
  -- stop: if
  refine br ?_ ?_ <;> intro h5
  · refine xgss_cons (xgs_setLc c (.there (.there (.there .here))) (by decide +kernel) rfl rfl (by decide +kernel) (lcOk_by (by decide +kernel)) (src_L (fun _ => rfl)) (by decide) (xgt_lcL c (.there (.there (.there (.there (.there .here))))) (xge_nm c nm (.there (.there (.there .here))) ?_ rfl)))
    -- stop: comp [cell for cell in cells if _law_draw(state, 3) < 2]
    refine ⟨_, lst_fr, LcL.same (fun j acc => ∃ cs', acc = dCells cs' ∧ (∀ c ∈ cs', c ∈ cellsOf (v1 + 1)) ∧ cs'.length ≤ j) lst_fr ⟨[], rfl, fun c hc => absurd hc List.not_mem_nil, Nat.zero_le _⟩ ?_ ?_⟩
    · rintro j y acc pp hy ⟨cs', rfl, hm, hln⟩
      obtain ⟨cc, hc, rfl⟩ := dCells_at hy
      have hmem := List.mem_of_getElem? hc
      have hj : j < (cellsOf (v1 + 1)).length := (List.getElem?_eq_some_iff.mp hc).1
      intro s H env fp fnv c'
      have vm := vmOk_of c' (Gn := ["_law_draw"]) (vis := [0]) (by decide +kernel)
      refine xgt_compare (xge_call c' h__law_draw (Nat.le_of_ble_eq_true rfl) vm.gl_ .here (xga_cons (xge_vm c' vm .here (xga_cons (xge_int (xga_nil ?_)) rfl) rfl) rfl) rfl rfl) (nm_Lt _)
      -- stop: call _law_draw
      refine ⟨[gDraw X.K ps], _, by mi_spec "ent", ps, 3, rfl, rfl, by decide, by decide, fun v hv => ?_⟩
      refine xge_int ?_
      mi_spec "opLt"
      refine kb ?_
      refine brB ?_ ?_ <;> intro hb
      · intro s H env fp fnv c'
        have vm := vmOk_of c' (Gn := []) (vis := [5]) (by decide +kernel)
        refine xge_vm c' vm (.there (.there (.there (.there (.there .here))))) ?_ rfl
        refine ⟨[gDraw X.K ps] ++ G2, by mi_spec "entE", by simp; omega, ⟨cs' ++ [cc], by simp, fun c hc => ?_, by simp; omega⟩, by mi_spec "entE"⟩
        rcases List.mem_append.mp hc with h | h
        · exact hm c h
        · rw [List.mem_singleton.mp h]; exact hmem
      · exact ⟨[gDraw X.K ps] ++ G2, by mi_spec "entE", ⟨cs', rfl, hm, by omega⟩, by mi_spec "entE"⟩
    · rintro pp acc G' ⟨cs', rfl, hm, hln⟩ en
      refine GTS.ent (Ent.cons _ en) ?_
      have hln2 : cs'.length ≤ 80 := Nat.le_trans hln (by simpa using cln)
      refine xgss_nil ?_
      refine xgss_cons (xgs_if (xgt_compare (xge_nm c nm (.there (.there .here)) (xge_int ?_) rfl) (nm_Eq _)))
      mi_spec "opEq"
      refine kb ?_
      -- stop: if
      refine br ?_ ?_ <;> intro h7
      · refine xgss_cons (xgs_asg c hfn nm (.there (.there (.there (.there .here)))) (xge_call c h__law_flags (Nat.le_of_ble_eq_true rfl) nm (.there (.there .here)) (xga_cons (xge_nm c nm .here (xga_nil ?_) rfl) rfl) rfl rfl) rfl rfl)
        -- stop: call _law_flags
        refine ⟨[gDraw X.K ps], _, by mi_spec "ent", ps, rfl, rfl, fun f => ?_⟩
        refine xgss_nil ?_
        refine xgss_cons (xgs_ret (GTE.freeze ?_))
        refine xge_lst ?_
        refine xga_cons (xge_nm c nm (.there .here) (xga_cons (GTE.freeze ?_) rfl) rfl) rfl
        refine xge_nm c nm (.there (.there (.there .here))) ?_ rfl
        refine ⟨_, _, _, rfl, by mi_spec "rem", ?_⟩
        refine xga_cons (xge_nm c nm (.there (.there (.there (.there .here)))) (xga_cons (xge_binop (xge_int (xge_call c h__law_draw (Nat.le_of_ble_eq_true rfl) nm .here (xga_cons (xge_nm c nm .here (xga_cons (xge_int (xga_nil ?_)) rfl) rfl) rfl) rfl rfl))) rfl) rfl) rfl
        -- stop: call _law_draw
        refine ⟨[gDraw X.K ps], _, by mi_spec "ent", ps, 9, rfl, rfl, by decide, by decide, fun v9 hv9 => ?_⟩
        mi_spec "opAdd"
        refine xga_nil ?_
        refine ⟨Nat.le_of_ble_eq_true rfl, fun l1 => ?_⟩
        refine ⟨_, _, _, rfl, by mi_spec "rem", ?_⟩
        rw [show (4 : Int) + (v9 : Int) = ((v9 + 4 : Nat) : Int) by omega]
        exact ⟨[gDraw X.K ps], by mi_spec "entE", q ⟨v1 + 1, _, some f, v9 + 4⟩ (wd_ok hv1 (fun c hc => cok c (hm c hc)) hln2 hv9)⟩
      · refine xgss_nil ?_
        refine xgss_cons (xgs_ret (GTE.freeze ?_))
        refine xge_lst ?_
        refine xga_cons (xge_nm c nm (.there .here) (xga_cons (GTE.freeze ?_) rfl) rfl) rfl
        refine xge_nm c nm (.there (.there (.there .here))) ?_ rfl
        refine ⟨_, _, _, rfl, by mi_spec "rem", ?_⟩
        refine xga_cons (xge_nm c nm (.there (.there (.there (.there .here)))) (xga_cons (xge_binop (xge_int (xge_call c h__law_draw (Nat.le_of_ble_eq_true rfl) nm .here (xga_cons (xge_nm c nm .here (xga_cons (xge_int (xga_nil ?_)) rfl) rfl) rfl) rfl rfl))) rfl) rfl) rfl
        -- stop: call _law_draw
        refine ⟨[gDraw X.K ps], _, by mi_spec "ent", ps, 9, rfl, rfl, by decide, by decide, fun v9 hv9 => ?_⟩
        mi_spec "opAdd"
        refine xga_nil ?_
        refine ⟨Nat.le_of_ble_eq_true rfl, fun l2 => ?_⟩
        refine ⟨_, _, _, rfl, by mi_spec "rem", ?_⟩
        rw [show (4 : Int) + (v9 : Int) = ((v9 + 4 : Nat) : Int) by omega]
        exact ⟨[gDraw X.K ps], by mi_spec "entE", q ⟨v1 + 1, _, none, v9 + 4⟩ (wd_ok hv1 (fun c hc => cok c (hm c hc)) hln2 hv9)⟩
  · refine xgss_nil ?_
    refine xgss_cons (xgs_if (xgt_compare (xge_nm c nm (.there (.there .here)) (xge_int ?_) rfl) (nm_Eq _)))
    mi_spec "opEq"
    refine kb ?_
    -- stop: if
    refine br ?_ ?_ <;> intro h7
    · refine xgss_cons (xgs_asg c hfn nm (.there (.there (.there (.there .here)))) (xge_call c h__law_flags (Nat.le_of_ble_eq_true rfl) nm (.there (.there .here)) (xga_cons (xge_nm c nm .here (xga_nil ?_) rfl) rfl) rfl rfl) rfl rfl)
      -- stop: call _law_flags
      refine ⟨[gDraw X.K ps], _, by mi_spec "ent", ps, rfl, rfl, fun f => ?_⟩
      refine xgss_nil ?_
      refine xgss_cons (xgs_ret (GTE.freeze ?_))
      refine xge_lst ?_
      refine xga_cons (xge_nm c nm (.there .here) (xga_cons (xge_nm c nm (.there (.there (.there .here))) (xga_cons (xge_nm c nm (.there (.there (.there (.there .here)))) (xga_cons (xge_binop (xge_int (xge_call c h__law_draw (Nat.le_of_ble_eq_true rfl) nm .here (xga_cons (xge_nm c nm .here (xga_cons (xge_int (xga_nil ?_)) rfl) rfl) rfl) rfl rfl))) rfl) rfl) rfl) rfl) rfl) rfl) rfl
      -- stop: call _law_draw
      refine ⟨[gDraw X.K ps], _, by mi_spec "ent", ps, 9, rfl, rfl, by decide, by decide, fun v9 hv9 => ?_⟩
      mi_spec "opAdd"
      refine xga_nil ?_
      refine ⟨Nat.le_of_ble_eq_true rfl, fun l3 => ?_⟩
      refine ⟨_, _, _, rfl, by mi_spec "rem", ?_⟩
      rw [show (4 : Int) + (v9 : Int) = ((v9 + 4 : Nat) : Int) by omega]
      exact ⟨[gDraw X.K ps], by mi_spec "entE", q ⟨v1 + 1, _, some f, v9 + 4⟩ (wd_ok hv1 cok cln hv9)⟩
    · refine xgss_nil ?_
      refine xgss_cons (xgs_ret (GTE.freeze ?_))
      refine xge_lst ?_
      refine xga_cons (xge_nm c nm (.there .here) (xga_cons (xge_nm c nm (.there (.there (.there .here))) (xga_cons (xge_nm c nm (.there (.there (.there (.there .here)))) (xga_cons (xge_binop (xge_int (xge_call c h__law_draw (Nat.le_of_ble_eq_true rfl) nm .here (xga_cons (xge_nm c nm .here (xga_cons (xge_int (xga_nil ?_)) rfl) rfl) rfl) rfl rfl))) rfl) rfl) rfl) rfl) rfl) rfl) rfl
      -- stop: call _law_draw
      refine ⟨[gDraw X.K ps], _, by mi_spec "ent", ps, 9, rfl, rfl, by decide, by decide, fun v9 hv9 => ?_⟩
      mi_spec "opAdd"
      refine xga_nil ?_
      refine ⟨Nat.le_of_ble_eq_true rfl, fun l4 => ?_⟩
      refine ⟨_, _, _, rfl, by mi_spec "rem", ?_⟩
      rw [show (4 : Int) + (v9 : Int) = ((v9 + 4 : Nat) : Int) by omega]
      exact ⟨[gDraw X.K ps], by mi_spec "entE", q ⟨v1 + 1, _, none, v9 + 4⟩ (wd_ok hv1 cok cln hv9)⟩
end
section
variable {P : Program} {w : World} {K : PySem.W.Frag} {mg : Str → Option Value} {base : Heap}
theorem parts_side (ps : List (Option Nat)) (a b : Nat) : SideOk (partsOf ps a b) := by
  unfold SideOk partsOf
  dsimp only
  split
  · exact .inl rfl
  · split
    · exact .inr (.inl rfl)
    · exact .inr (.inr rfl)
theorem cell_side {r : Nat} {c : Cell} (h : CellOk r c) : SideOk c := side_of h.f
theorem goodN_len {wd : Wd} {h : Hall} {t j : Nat} : ((List.range j).filter (goodB wd h t)).length ≤ j := Nat.le_trans (List.length_filter_le _ _) (by rw [List.length_range]; exact Nat.le_refl _)
theorem ok_lgood {f : Addr} {fd : FuncData} (F : FunD K "_law_good_targets" "_law_good_targets" (defArgs s__law_good_targets) (defBody s__law_good_targets) (defScope s__law_good_targets) [] [] f fd) (T : Tx K mg) (h__law_parts_of : DefAt P w K mg base 2 "_law_parts_of" (aLParts K)) (h__law_lets : DefAt P w K mg base 2 "_law_lets" aLLets) (h__law_holds : DefAt P w K mg base 2 "_law_holds" aLHolds)  : FnOk P w K mg base (L2.CX P w) 3 f fd ["world", "hall", "task"] (conc K (aLGood K)) := by
  refine def_ok F sc__law_good_targets nm__law_good_targets (fun es G KN KE ⟨_, _, _, _, e, _⟩ => by rw [e] <;> rfl) ?_
  rintro X F0 es G G2 KN KE rfl rfl rfl rfl rfl c hfn nm rz ⟨wd, a, h, t, rfl, rfl, wok, ok, ht, q⟩
  show GSs X F0 _ [some (wdD wd), some (hlV a), some (.int (t : Int)), none, none, none] (gHl X.K a h ++ G2) _
  have l1 := ok.l1
  have sm := ok.small
  refine xgss_cons (xgs_asg c hfn nm (.there (.there (.there .here))) (xge_lst ?_) rfl rfl)
  refine xga_nil ?_
  refine ⟨Nat.le_of_ble_eq_true rfl, fun p => ?_⟩
  refine xgss_cons (xgs_forR1 c hfn nm (.there (.there (.there (.there .here)))) .here T.mrange (xga_cons (xge_callB c nm (.there .here) T.mlen bt_len (xga_cons (xge_index (xge_nm c nm (.there .here) (xge_int ?_) rfl) (fun b_ _ _ => by cases b_ <;> exact rfl)) rfl) rfl rfl) rfl) rfl rfl)
  mi_spec "opIx 1"
  refine xga_nil ?_
  mi_spec "rl_len"
  refine xga_nil ?_
  -- stop: for
  refine ⟨_, rfl, ⟨by simp, by simp; omega⟩, ForR.chg (fun j => gl X.K p (dInts ((List.range j).filter (goodB wd h t))) :: (gHl X.K a h ++ G2)) (fun j ds' => ∃ o1 o2, ds' = [some (wdD wd), some (hlV a), some (.int (t : Int)), some (.raw (.ref p)), o1, o2]) ⟨_, _, rfl⟩ (Ent.refl _) ?_ ?_⟩
  · rintro j ds' hj ⟨o1, o2, rfl⟩
    rw [Int.zero_add]
    have hj1 : j < h.phases.length := by simpa using hj
    have hgl := @goodN_len wd h t j
    refine xgss_cons (xgs_asg c hfn nm (.there (.there (.there (.there (.there .here))))) (xge_call c h__law_parts_of (Nat.le_of_ble_eq_true rfl) nm (.there (.there .here)) (xga_cons (xge_index (xge_nm c nm (.there .here) (xge_int ?_) rfl) (fun b_ _ _ => by cases b_ <;> exact rfl)) rfl) rfl rfl) rfl rfl)
    mi_spec "opIx 0"
    refine xga_cons (xge_nm c nm (.there (.there .here)) (xga_cons (xge_nm c nm (.there (.there (.there (.there .here)))) (xga_nil ?_) rfl) rfl) rfl) rfl
    -- stop: call _law_parts_of
    refine callK_all ⟨_, h.births, t, j, rfl, lst_own (by mi_spec "foc"), ok.par, by omega, by omega, by omega, ?_⟩
    have e2 : (List.range (j + 1)).filter (goodB wd h t) = (List.range j).filter (goodB wd h t) ++ (if goodB wd h t j = true then [j] else []) := by
      rw [List.range_succ, List.filter_append]
      congr 1
      rw [List.filter_cons]
      split <;> rfl
    refine xgss_cons (xgs_if (xgt_val (goodB wd h t j) ?_ ?_))
    · refine xgt_of_w (xgw_and (xgt_tru (fun _ => rfl) (xge_call c h__law_lets (Nat.le_of_ble_eq_true rfl) nm (.there (.there (.there .here))) (xga_cons (xge_index (xge_nm c nm .here (xge_int ?_) rfl) (fun b_ _ _ => by cases b_ <;> exact rfl)) rfl) rfl rfl)))
      mi_spec "opIx 0"
      refine xga_cons (xge_index (xge_nm c nm .here (xge_int ?_) rfl) (fun b_ _ _ => by cases b_ <;> exact rfl)) rfl
      mi_spec "opIx 1"
      refine xga_cons (xge_nm c nm (.there (.there (.there (.there (.there .here))))) (xga_nil ?_) rfl) rfl
      -- stop: call _law_lets
      refine CallK.frame ⟨wd.r, wd.cs, _, rfl, rfl, fun c hc => cell_side (wok.c c hc), parts_side _ _ _, ?_⟩
      mi_spec "opTru"
      -- stop: br xgw_and
      refine brB ?_ ?_ <;> intro hb
      · refine xgw_and1 (xgt_tru (fun _ => rfl) (xge_call c h__law_holds (Nat.le_of_ble_eq_true rfl) nm (.there (.there (.there (.there .here)))) (xga_cons (xge_index (xge_nm c nm .here (xge_int ?_) rfl) (fun b_ _ _ => by cases b_ <;> exact rfl)) rfl) rfl rfl))
        mi_spec "opIx 2"
        refine xga_cons (xge_nm c nm (.there (.there (.there (.there (.there .here))))) (xga_nil ?_) rfl) rfl
        -- stop: call _law_holds
        refine CallK.frame ⟨wd.o, _, rfl, rfl, ?_⟩
        mi_spec "opTru"
        exact ⟨by unfold goodB; rw [hb, Bool.true_and], rfl⟩
      · exact ⟨by unfold goodB; rw [hb, Bool.false_and], rfl⟩
    refine brB ?_ ?_ <;> intro hb
    · refine xgss_cons (xgs_expr (xge_bm PySem.F.plainAttrs_list PySem.F.slot_list_append PySem.F.type_list_append mt_append (xge_nm c nm (.there (.there (.there .here))) ?_ rfl) rfl rfl rfl rfl rfl) rfl)
      mi_spec "opTy"
      refine xga_cons (xge_nm c nm (.there (.there (.there (.there .here)))) (xga_nil ?_) rfl) rfl
      mi_spec "rm_append"
      · simp; omega
      refine xgss_nil (xgss_nil ?_)
      exact ⟨⟨_, _, rfl⟩, by rw [e2, if_pos hb]; simp; exact Ent.refl _⟩
    · refine xgss_nil (xgss_nil ?_)
      exact ⟨⟨_, _, rfl⟩, by rw [e2, if_neg (by rw [hb]; decide), List.append_nil]; exact Ent.refl _⟩
  · rintro ds' G' ⟨o1, o2, rfl⟩ en
    refine GTS.ent en ?_
    have ew : (List.range (((dStrs h.phases).length : Int).toNat)).filter (goodB wd h t) = goodN wd h t := by
      unfold goodN
      simp
    rw [ew]
    refine xgss_cons (xgs_ret (xge_nm c nm (.there (.there (.there .here))) ?_ rfl))
    exact ⟨gl X.K p (dInts (goodN wd h t)) :: gHl X.K a h, by mi_spec "entE", q p⟩
theorem ok_leffect {f : Addr} {fd : FuncData} (F : FunD K "_law_effect" "_law_effect" (defArgs s__law_effect) (defBody s__law_effect) (defScope s__law_effect) [] [] f fd) (T : Tx K mg) (h__law_bears : DefAt P w K mg base 1 "_law_bears" (aLBears K)) (h__law_ending : DefAt P w K mg base 2 "_law_ending" (aLEnding K)) (h__law_begins : DefAt P w K mg base 2 "_law_begins" (aLBegins K))  : FnOk P w K mg base (L2.CX P w) 3 f fd ["hall", "deed"] (conc K (aLEffect K)) := by
  refine def_ok F sc__law_effect nm__law_effect (fun es G KN KE ⟨_, _, _, _, e, _⟩ => by rw [e] <;> rfl) ?_
  rintro X F0 es G G2 KN KE rfl rfl rfl rfl rfl c hfn nm rz ⟨wd, a, h, e, rfl, rfl, ok, nx, q⟩
  have l1 := ok.l1
  have sm := ok.small
  cases e with
  | bear t =>
    show GSs X F0 _ [some (hlV a), some (.tup [.str "bear", .int (t : Int)])] (gHl X.K a h ++ G2) _
    refine xgss_cons (xgs_if (xgt_compare (xge_index (xge_nm c nm (.there .here) (xge_int ?_) rfl) (fun b_ _ _ => by cases b_ <;> exact rfl)) (nm_Eq _)))
    mi_spec "opIx 0"
    refine xge_str ?_
    mi_spec "opEq"
    refine kb ?_
    -- stop: if
    refine brY rfl ?_
    refine xgss_cons (xgs_ret (xge_call c h__law_bears (Nat.le_of_ble_eq_true rfl) nm .here (xga_cons (xge_nm c nm .here (xga_cons (xge_index (xge_nm c nm (.there .here) (xge_int ?_) rfl) (fun b_ _ _ => by cases b_ <;> exact rfl)) rfl) rfl) rfl) rfl rfl))
    mi_spec "opIx 1"
    refine xga_nil ?_
    -- stop: call _law_bears
    refine ⟨gHl X.K a h, _, by mi_spec "ent", a.p0, a.p1, a.p2, a.p3, h, t, rfl, rfl, ok, ?_⟩
    exact ⟨gHl X.K a (h.bear t), by mi_spec "entE", q⟩
  | fin t =>
    show GSs X F0 _ [some (hlV a), some (.tup [.str "end", .int (t : Int)])] (gHl X.K a h ++ G2) _
    refine xgss_cons (xgs_if (xgt_compare (xge_index (xge_nm c nm (.there .here) (xge_int ?_) rfl) (fun b_ _ _ => by cases b_ <;> exact rfl)) (nm_Eq _)))
    mi_spec "opIx 0"
    refine xge_str ?_
    mi_spec "opEq"
    refine kb ?_
    -- stop: if
    refine brNo (by decide) (xgss_nil ?_)
    refine xgss_cons (xgs_if (xgt_compare (xge_index (xge_nm c nm (.there .here) (xge_int ?_) rfl) (fun b_ _ _ => by cases b_ <;> exact rfl)) (nm_Eq _)))
    mi_spec "opIx 0"
    refine xge_str ?_
    mi_spec "opEq"
    refine kb ?_
    -- stop: if
    refine brY rfl ?_
    refine xgss_cons (xgs_ret (xge_call c h__law_ending (Nat.le_of_ble_eq_true rfl) nm (.there .here) (xga_cons (xge_nm c nm .here (xga_cons (xge_index (xge_nm c nm (.there .here) (xge_int ?_) rfl) (fun b_ _ _ => by cases b_ <;> exact rfl)) rfl) rfl) rfl) rfl rfl))
    mi_spec "opIx 1"
    refine xga_nil ?_
    -- stop: call _law_ending
    refine ⟨gHl X.K a h, _, by mi_spec "ent", a.p0, a.p1, a.p2, a.p3, h, t, rfl, rfl, ok, nx.1, fun p => ?_⟩
    exact ⟨gl X.K p (dInts (h.woken t)) :: gHl X.K a (h.fin t), by mi_spec "entE", q p⟩
  | wait m t ts =>
    obtain ⟨n1, n2, n3, n4, n5⟩ := nx
    cases m with
    | false =>
      show GSs X F0 _ [some (hlV a), some (.tup (.str "wait" :: .int (t : Int) :: dInts ts))] (gHl X.K a h ++ G2) _
      refine xgss_cons (xgs_if (xgt_compare (xge_index (xge_nm c nm (.there .here) (xge_int ?_) rfl) (fun b_ _ _ => by cases b_ <;> exact rfl)) (nm_Eq _)))
      mi_spec "opIx 0"
      refine xge_str ?_
      mi_spec "opEq"
      refine kb ?_
      -- stop: if
      refine brNo (by decide) (xgss_nil ?_)
      refine xgss_cons (xgs_if (xgt_compare (xge_index (xge_nm c nm (.there .here) (xge_int ?_) rfl) (fun b_ _ _ => by cases b_ <;> exact rfl)) (nm_Eq _)))
      mi_spec "opIx 0"
      refine xge_str ?_
      mi_spec "opEq"
      refine kb ?_
      -- stop: if
      refine brNo (by decide) (xgss_nil ?_)
      refine xgss_cons (xgs_ret (xge_call c h__law_begins (Nat.le_of_ble_eq_true rfl) nm (.there (.there .here)) (xga_cons (xge_nm c nm .here (xga_cons (xge_index (xge_nm c nm (.there .here) (xge_int ?_) rfl) (fun b_ _ _ => by cases b_ <;> exact rfl)) rfl) rfl) rfl) rfl rfl))
      mi_spec "opIx 1"
      refine xga_cons (xge_callTy c nm (.there (.there (.there .here))) T.mlist bt_list (xga_cons (xge_cutT (xge_nm c nm (.there .here) (xge_int ?_) rfl)) rfl) rfl rfl) rfl
      -- stop: cut
      refine ⟨_, 2, tup_fr, rfl, by decide, by simp, ?_⟩
      refine xga_nil ?_
      mi_spec "rl_list"
      refine fun l1 => ?_
      refine xga_cons (xge_compare (xge_index (xge_nm c nm (.there .here) (xge_int ?_) rfl) (fun b_ _ _ => by cases b_ <;> exact rfl)) (nm_Eq _)) rfl
      mi_spec "opIx 0"
      refine xge_str ?_
      mi_spec "opEq"
      refine xga_nil ?_
      -- stop: call _law_begins
      refine ⟨gHl X.K a h ++ [gl X.K l1 (dInts ts)], _, by mi_spec "ent", a.p0, a.p1, a.p2, a.p3, h, t, l1, ts, false, rfl, rfl, ok, n1, fun i hi => List.mem_range.mp (List.mem_filter.mp (n5 i hi)).1, by omega, ?_⟩
      exact ⟨gHl X.K a (h.begin t ts false), by mi_spec "entE", q⟩
    | true =>
      show GSs X F0 _ [some (hlV a), some (.tup (.str "any" :: .int (t : Int) :: dInts ts))] (gHl X.K a h ++ G2) _
      refine xgss_cons (xgs_if (xgt_compare (xge_index (xge_nm c nm (.there .here) (xge_int ?_) rfl) (fun b_ _ _ => by cases b_ <;> exact rfl)) (nm_Eq _)))
      mi_spec "opIx 0"
      refine xge_str ?_
      mi_spec "opEq"
      refine kb ?_
      -- stop: if
      refine brNo (by decide) (xgss_nil ?_)
      refine xgss_cons (xgs_if (xgt_compare (xge_index (xge_nm c nm (.there .here) (xge_int ?_) rfl) (fun b_ _ _ => by cases b_ <;> exact rfl)) (nm_Eq _)))
      mi_spec "opIx 0"
      refine xge_str ?_
      mi_spec "opEq"
      refine kb ?_
      -- stop: if
      refine brNo (by decide) (xgss_nil ?_)
      refine xgss_cons (xgs_ret (xge_call c h__law_begins (Nat.le_of_ble_eq_true rfl) nm (.there (.there .here)) (xga_cons (xge_nm c nm .here (xga_cons (xge_index (xge_nm c nm (.there .here) (xge_int ?_) rfl) (fun b_ _ _ => by cases b_ <;> exact rfl)) rfl) rfl) rfl) rfl rfl))
      mi_spec "opIx 1"
      refine xga_cons (xge_callTy c nm (.there (.there (.there .here))) T.mlist bt_list (xga_cons (xge_cutT (xge_nm c nm (.there .here) (xge_int ?_) rfl)) rfl) rfl rfl) rfl
      -- stop: cut
      refine ⟨_, 2, tup_fr, rfl, by decide, by simp, ?_⟩
      refine xga_nil ?_
      mi_spec "rl_list"
      refine fun l2 => ?_
      refine xga_cons (xge_compare (xge_index (xge_nm c nm (.there .here) (xge_int ?_) rfl) (fun b_ _ _ => by cases b_ <;> exact rfl)) (nm_Eq _)) rfl
      mi_spec "opIx 0"
      refine xge_str ?_
      mi_spec "opEq"
      refine xga_nil ?_
      -- stop: call _law_begins
      refine ⟨gHl X.K a h ++ [gl X.K l2 (dInts ts)], _, by mi_spec "ent", a.p0, a.p1, a.p2, a.p3, h, t, l2, ts, true, rfl, rfl, ok, n1, fun i hi => List.mem_range.mp (List.mem_filter.mp (n5 i hi)).1, by omega, ?_⟩
      exact ⟨gHl X.K a (h.begin t ts true), by mi_spec "entE", q⟩
end
section
variable {P : Program} {w : World} {K : PySem.W.Frag} {mg : Str → Option Value} {base : Heap}
theorem phL_mem {ph : List Str} {z : Str} {t : Nat} : t ∈ phL ph z ph.length ↔ t < ph.length ∧ ph.getD t ⟨#[]⟩ = z := by
  unfold phL
  rw [List.mem_filter, List.mem_range]
  unfold inPh
  rw [decide_eq_true_iff]
theorem getD_mem {xs : List Nat} {i : Nat} (h : i < xs.length) : xs.getD i 0 ∈ xs := by
  rw [List.getD_eq_getElem?_getD, List.getElem?_eq_getElem h]
  exact List.getElem_mem h
theorem ok_lnext {f : Addr} {fd : FuncData} (F : FunD K "_law_next_deed" "_law_next_deed" (defArgs s__law_next_deed) (defBody s__law_next_deed) (defScope s__law_next_deed) [] [] f fd) (T : Tx K mg) (h__law_running : DefAt P w K mg base 1 "_law_running" (aLRun K)) (h__law_draw : DefAt P w K mg base 1 "_law_draw" (aDraw K)) (h__law_good_targets : DefAt P w K mg base 3 "_law_good_targets" (aLGood K))  : FnOk P w K mg base (L2.CX P w) 4 f fd ["state", "world", "hall", "turn"] (conc K (aLNext K)) := by
  refine def_ok F sc__law_next_deed nm__law_next_deed (fun es G KN KE ⟨_, _, _, _, _, e, _⟩ => by rw [e] <;> rfl) ?_
  rintro X F0 es G G2 KN KE rfl rfl rfl rfl rfl c hfn nm rz ⟨ps, wd, a, h, k, rfl, rfl, wok, ok, hk, q⟩
  show GSs X F0 _ [some (.raw (.ref ps)), some (wdD wd), some (hlV a), some (.int (k : Int)), none, none, none, none, none, none] (gDraw X.K ps :: gHl X.K a h ++ G2) _
  have l1 := ok.l1
  have sm := ok.small
  have hl1 := wok.l1
  have hl2 := wok.l2
  refine xgss_cons (xgs_asg c hfn nm (.there (.there (.there (.there .here)))) (xge_call c h__law_running (Nat.le_of_ble_eq_true rfl) nm .here (xga_cons (xge_nm c nm (.there (.there .here)) (xga_nil ?_) rfl) rfl) rfl rfl) rfl rfl)
  -- stop: call _law_running
  refine callK_all ⟨a.p0, a.p1, a.p2, a.p3, h.phases, rfl, lst_own (by mi_spec "foc"), by omega, fun pr => ?_⟩
  have hrm : ∀ t, t ∈ phL h.phases "running" h.phases.length ↔ t < h.phases.length ∧ h.phases.getD t ⟨#[]⟩ = ("running" : Str) := fun t => phL_mem
  have hrl := @phL_len h.phases "running" h.phases.length
  generalize phL h.phases "running" h.phases.length = R at hrm hrl
  refine xgss_cons (xgs_if (xgt_compare (xge_callB c nm (.there .here) T.mlen bt_len (xga_cons (xge_nm c nm (.there (.there (.there (.there .here)))) (xga_nil ?_) rfl) rfl) rfl rfl) (nm_Eq _)))
  mi_spec "rl_len"
  refine xge_int ?_
  mi_spec "opEq"
  refine kb ?_
  -- stop: if
  refine br ?_ ?_ <;> intro h2
  · refine xgss_cons (xgs_ret (xge_tup (xga_nil ?_)))
    refine ⟨Nat.le_of_ble_eq_true rfl, ?_⟩
    have hR : R = [] := by
      cases R with
      | nil => rfl
      | cons x R => simp at h2; omega
    exact ⟨gDraw X.K ps :: gHl X.K a h, by mi_spec "entE", q none fun t ht e => by have := (hrm t).mpr ⟨ht, e⟩; rw [hR] at this; cases this⟩
  · refine xgss_nil ?_
    have hR : 0 < R.length := by
      cases R with
      | nil => simp at h2
      | cons x R => simp
    refine xgss_cons (xgs_asg c hfn nm (.there (.there (.there (.there (.there .here))))) (xge_index (xge_nm c nm (.there (.there (.there (.there .here)))) (xge_call c h__law_draw (Nat.le_of_ble_eq_true rfl) nm (.there (.there .here)) (xga_cons (xge_nm c nm .here (xga_cons (xge_callB c nm (.there .here) T.mlen bt_len (xga_cons (xge_nm c nm (.there (.there (.there (.there .here)))) (xga_nil ?_) rfl) rfl) rfl rfl) rfl) rfl) rfl) rfl rfl) rfl) (fun b_ _ _ => by cases b_ <;> exact rfl)) rfl rfl)
    mi_spec "rl_len"
    refine xga_nil ?_
    -- stop: call _law_draw
    refine ⟨[gDraw X.K ps], _, by mi_spec "ent", ps, (dInts R).length, rfl, rfl, by simpa using hR, by simp; omega, fun v1 hv1 => ?_⟩
    have hv1 : v1 < R.length := by simpa using hv1
    -- stop: man running[_law_draw(state, len(running))]
    refine rk_ixL (lst_own (by mi_spec "foc")) (ints_get hv1) ?_
    obtain ⟨t, ht⟩ : ∃ t, R.getD v1 0 = t := ⟨_, rfl⟩
    rw [ht]
    obtain ⟨t1, t2⟩ := (hrm t).mp (ht ▸ getD_mem hv1)
    refine xgss_cons (xgs_asg c hfn nm (.there (.there (.there (.there (.there (.there .here)))))) (xge_binop (xge_callTy c nm (.there (.there (.there .here))) T.mint bt_int (xga_cons (xge_binop (xge_call c h__law_draw (Nat.le_of_ble_eq_true rfl) nm (.there (.there .here)) (xga_cons (xge_nm c nm .here (xga_cons (xge_int (xga_nil ?_)) rfl) rfl) rfl) rfl rfl)) rfl) rfl rfl)) rfl rfl)
    -- stop: call _law_draw
    refine ⟨[gDraw X.K ps], _, by mi_spec "ent", ps, 6, rfl, rfl, by decide, by decide, fun v2 hv2 => ?_⟩
    refine xge_nm c nm (.there (.there (.there .here))) ?_ rfl
    mi_spec "opAdd"
    refine xga_nil ?_
    mi_spec "rl_int"
    refine xge_int ?_
    mi_spec "opMod"
    have epl : (dStrs h.phases).length = h.phases.length := by simp
    generalize ((v2 : Int) + (k : Int)) % 6 = kd
    refine xgss_cons (xgs_if (xgt_val (decide (h.phases.length < wd.l ∧ ((k : Int) < 3 ∨ kd = 0))) ?_ ?_))
    · refine xgt_of_w (xgw_and (xgt_compare (xge_callB c nm (.there .here) T.mlen bt_len (xga_cons (xge_index (xge_nm c nm (.there (.there .here)) (xge_int ?_) rfl) (fun b_ _ _ => by cases b_ <;> exact rfl)) rfl) rfl rfl) (nm_Lt _)))
      mi_spec "opIx 1"
      refine xga_nil ?_
      mi_spec "rl_len"
      refine xge_index (xge_nm c nm (.there .here) (xge_int ?_) rfl) (fun b_ _ _ => by cases b_ <;> exact rfl)
      mi_spec "opIx 3"
      mi_spec "opLt"
      refine kb ?_
      -- stop: br xgw_and
      refine br ?_ ?_ <;> intro hb
      · refine xgw_and1 (xgt_of_w (xgw_or (xgt_compare (xge_nm c nm (.there (.there (.there .here))) (xge_int ?_) rfl) (nm_Lt _))))
        mi_spec "opLt"
        refine kb ?_
        -- stop: br xgw_or
        refine br ?_ ?_ <;> intro hc
        · exact ⟨by rw [eq_comm, decide_eq_true_iff]; omega, rfl⟩
        · refine xgw_or1 (xgt_compare (xge_nm c nm (.there (.there (.there (.there (.there (.there .here)))))) (xge_int ?_) rfl) (nm_Eq _))
          mi_spec "opEq"
          refine kb ?_
          exact ⟨by rw [Bool.eq_iff_iff]; simp; omega, rfl⟩
      · exact ⟨by rw [eq_comm, decide_eq_false_iff_not]; omega, rfl⟩
    refine br ?_ ?_ <;> intro h6
    · refine xgss_cons (xgs_ret (xge_tup (xga_cons (xge_str (xga_cons (xge_nm c nm (.there (.there (.there (.there (.there .here))))) (xga_nil ?_) rfl) rfl)) rfl)))
      refine ⟨Nat.le_of_ble_eq_true rfl, ?_⟩
      exact ⟨gDraw X.K ps :: gHl X.K a h, by mi_spec "entE", q (some (.bear t)) ⟨t1, t2, h6.1⟩⟩
    · refine xgss_nil ?_
      refine xgss_cons (xgs_asg c hfn nm (.there (.there (.there (.there (.there (.there (.there .here))))))) (xge_call c h__law_good_targets (Nat.le_of_ble_eq_true rfl) nm (.there (.there (.there (.there .here)))) (xga_cons (xge_nm c nm (.there .here) (xga_cons (xge_nm c nm (.there (.there .here)) (xga_cons (xge_nm c nm (.there (.there (.there (.there (.there .here))))) (xga_nil ?_) rfl) rfl) rfl) rfl) rfl) rfl) rfl rfl) rfl rfl)
      -- stop: call _law_good_targets
      refine ⟨gHl X.K a h, _, by mi_spec "ent", wd, a, h, t, rfl, rfl, wok, ok, t1, fun pg => ?_⟩
      have hgl := @goodN_len wd h t h.phases.length
      have hgd : (List.range h.phases.length).filter (goodB wd h t) = goodN wd h t := rfl
      rw [hgd] at hgl
      obtain ⟨GN, hG⟩ : ∃ g, goodN wd h t = g := ⟨_, rfl⟩
      rw [hG] at hgl ⊢
      refine xgss_cons (xgs_if (xgt_val (decide (kd = 1 ∨ GN.length = 0)) ?_ ?_))
      · refine xgt_of_w (xgw_or (xgt_compare (xge_nm c nm (.there (.there (.there (.there (.there (.there .here)))))) (xge_int ?_) rfl) (nm_Eq _)))
        mi_spec "opEq"
        refine kb ?_
        -- stop: br xgw_or
        refine br ?_ ?_ <;> intro hb
        · exact ⟨by rw [eq_comm, decide_eq_true_iff]; omega, rfl⟩
        · refine xgw_or1 (xgt_compare (xge_callB c nm (.there .here) T.mlen bt_len (xga_cons (xge_nm c nm (.there (.there (.there (.there (.there (.there (.there .here))))))) (xga_nil ?_) rfl) rfl) rfl rfl) (nm_Eq _))
          mi_spec "rl_len"
          refine xge_int ?_
          mi_spec "opEq"
          refine kb ?_
          exact ⟨by rw [Bool.eq_iff_iff]; simp; omega, rfl⟩
      refine br ?_ ?_ <;> intro h9
      · refine xgss_cons (xgs_ret (xge_tup (xga_cons (xge_str (xga_cons (xge_nm c nm (.there (.there (.there (.there (.there .here))))) (xga_nil ?_) rfl) rfl)) rfl)))
        refine ⟨Nat.le_of_ble_eq_true rfl, ?_⟩
        exact ⟨gDraw X.K ps :: gHl X.K a h, by mi_spec "entE", q (some (.fin t)) ⟨t1, t2⟩⟩
      · refine xgss_nil ?_
        refine xgss_cons (xgs_asg c hfn nm (.there (.there (.there (.there (.there (.there (.there (.there .here)))))))) (xge_str ?_) rfl rfl)
        refine xgss_cons (xgs_if (xgt_compare (xge_nm c nm (.there (.there (.there (.there (.there (.there .here)))))) (xge_int ?_) rfl) (nm_Eq _)))
        mi_spec "opEq"
        refine kb ?_
        -- stop: if
        refine br ?_ ?_ <;> intro h12
        · refine xgss_cons (xgs_asg c hfn nm (.there (.there (.there (.there (.there (.there (.there (.there .here)))))))) (xge_str ?_) rfl rfl)
          refine xgss_nil ?_
          refine xgss_cons (xgs_ret (xge_callTy c nm (.there (.there (.there (.there (.there .here))))) T.mtuple bt_tuple (xga_cons (xge_binop (xge_lst ?_)) rfl) rfl rfl))
          refine xga_cons (xge_nm c nm (.there (.there (.there (.there (.there (.there (.there (.there .here)))))))) (xga_cons (xge_nm c nm (.there (.there (.there (.there (.there .here))))) (xga_nil ?_) rfl) rfl) rfl) rfl
          refine ⟨Nat.le_of_ble_eq_true rfl, fun l1 => ?_⟩
          refine xge_lc c (lcOk_by (by decide +kernel)) (src_R1 c nm (.there (.there (.there (.there (.there (.there .here)))))) T.mrange rfl (fun _ => rfl)) (by decide) (xgt_lcR1 c (.there (.there (.there (.there (.there (.there (.there (.there (.there .here))))))))) (xga_cons (xge_binop (xge_int (xge_call c h__law_draw (Nat.le_of_ble_eq_true rfl) nm (.there (.there .here)) (xga_cons (xge_nm c nm .here (xga_cons (xge_int (xga_nil ?_)) rfl) rfl) rfl) rfl rfl))) rfl))
          -- stop: call _law_draw
          refine ⟨[gDraw X.K ps], _, by mi_spec "ent", ps, 3, rfl, rfl, by decide, by decide, fun v3 hv3 => ?_⟩
          mi_spec "opAdd"
          refine xga_nil ?_
          -- stop: comp [good[_law_draw(state, len(good))] for k in range(1 + _law_draw(state, 3))]
          refine ⟨_, rfl, ⟨by omega, by omega⟩, LcR.same (fun j acc => ∃ ts, acc = dInts ts ∧ ts.length = j ∧ ∀ i ∈ ts, i ∈ GN) ⟨[], rfl, rfl, fun i hi => by cases hi⟩ ?_ ?_⟩
          · rintro j acc pp hj ⟨ts, rfl, htl, htg⟩
            rw [Int.zero_add]
            intro s H env fp fnv c'
            have vm := vmOk_of c' (Gn := ["_law_draw", "len"]) (vis := [0, 7]) (by decide +kernel)
            refine xge_index (xge_vm c' vm (.there (.there (.there (.there (.there (.there (.there .here))))))) (xge_call c' h__law_draw (Nat.le_of_ble_eq_true rfl) vm.gl_ .here (xga_cons (xge_vm c' vm .here (xga_cons (xge_callB c' vm.gl_ (.there .here) T.mlen bt_len (xga_cons (xge_vm c' vm (.there (.there (.there (.there (.there (.there (.there .here))))))) (xga_nil ?_) rfl) rfl) rfl rfl) rfl) rfl) rfl) rfl rfl) rfl) (fun b_ _ _ => by cases b_ <;> exact rfl)
            mi_spec "rl_len"
            refine xga_nil ?_
            -- stop: call _law_draw
            refine ⟨[gDraw X.K ps], _, by mi_spec "ent", ps, (dInts GN).length, rfl, rfl, by simp; omega, by simp; omega, fun v4 hv4 => ?_⟩
            have hv4 : v4 < GN.length := by simpa using hv4
            -- stop: man good[_law_draw(state, len(good))]
            refine rk_ixL (lst_own (by mi_spec "foc")) (ints_get hv4) ?_
            refine ⟨[gDraw X.K ps] ++ gl X.K l1 [D.str "any", D.int (t : Int)] :: gl X.K pg (dInts GN) :: (gHl X.K a h ++ gl X.K pr (dInts R) :: ([] ++ G2)), by mi_spec "entE", by simp; omega, ⟨ts ++ [GN.getD v4 0], by simp, by simp; omega, fun i hi => ?_⟩, by mi_spec "entE"⟩
            rcases List.mem_append.mp hi with h' | h'
            · exact htg i h'
            · rw [List.mem_singleton.mp h']; exact getD_mem hv4
          · rintro pz acc G' ⟨ts, rfl, htl, htg⟩ en
            have e9 : (1 + (v3 : Int)).toNat = v3 + 1 := by omega
            rw [e9] at htl
            refine rk_cat (LstAt.ent (Ent.cons _ en) (lst_own (by mi_spec "foc"))) (lst_own (by mi_spec "foc")) (by simp; omega) fun pt => ?_
            refine xga_nil ?_
            mi_spec "rl_tuple"
            exact ⟨gDraw X.K ps :: gHl X.K a h, (Ent.cons _ (Ent.cons _ en)).trans (by mi_spec "entE"), q (some (.wait true t ts)) ⟨t1, t2, by omega, by omega, fun i hi => by rw [hG]; exact htg i hi⟩⟩
        · refine xgss_nil ?_
          refine xgss_cons (xgs_ret (xge_callTy c nm (.there (.there (.there (.there (.there .here))))) T.mtuple bt_tuple (xga_cons (xge_binop (xge_lst ?_)) rfl) rfl rfl))
          refine xga_cons (xge_nm c nm (.there (.there (.there (.there (.there (.there (.there (.there .here)))))))) (xga_cons (xge_nm c nm (.there (.there (.there (.there (.there .here))))) (xga_nil ?_) rfl) rfl) rfl) rfl
          refine ⟨Nat.le_of_ble_eq_true rfl, fun l2 => ?_⟩
          refine xge_lc c (lcOk_by (by decide +kernel)) (src_R1 c nm (.there (.there (.there (.there (.there (.there .here)))))) T.mrange rfl (fun _ => rfl)) (by decide) (xgt_lcR1 c (.there (.there (.there (.there (.there (.there (.there (.there (.there .here))))))))) (xga_cons (xge_binop (xge_int (xge_call c h__law_draw (Nat.le_of_ble_eq_true rfl) nm (.there (.there .here)) (xga_cons (xge_nm c nm .here (xga_cons (xge_int (xga_nil ?_)) rfl) rfl) rfl) rfl rfl))) rfl))
          -- stop: call _law_draw
          refine ⟨[gDraw X.K ps], _, by mi_spec "ent", ps, 3, rfl, rfl, by decide, by decide, fun v3 hv3 => ?_⟩
          mi_spec "opAdd"
          refine xga_nil ?_
          -- stop: comp [good[_law_draw(state, len(good))] for k in range(1 + _law_draw(state, 3))]
          refine ⟨_, rfl, ⟨by omega, by omega⟩, LcR.same (fun j acc => ∃ ts, acc = dInts ts ∧ ts.length = j ∧ ∀ i ∈ ts, i ∈ GN) ⟨[], rfl, rfl, fun i hi => by cases hi⟩ ?_ ?_⟩
          · rintro j acc pp hj ⟨ts, rfl, htl, htg⟩
            rw [Int.zero_add]
            intro s H env fp fnv c'
            have vm := vmOk_of c' (Gn := ["_law_draw", "len"]) (vis := [0, 7]) (by decide +kernel)
            refine xge_index (xge_vm c' vm (.there (.there (.there (.there (.there (.there (.there .here))))))) (xge_call c' h__law_draw (Nat.le_of_ble_eq_true rfl) vm.gl_ .here (xga_cons (xge_vm c' vm .here (xga_cons (xge_callB c' vm.gl_ (.there .here) T.mlen bt_len (xga_cons (xge_vm c' vm (.there (.there (.there (.there (.there (.there (.there .here))))))) (xga_nil ?_) rfl) rfl) rfl rfl) rfl) rfl) rfl) rfl rfl) rfl) (fun b_ _ _ => by cases b_ <;> exact rfl)
            mi_spec "rl_len"
            refine xga_nil ?_
            -- stop: call _law_draw
            refine ⟨[gDraw X.K ps], _, by mi_spec "ent", ps, (dInts GN).length, rfl, rfl, by simp; omega, by simp; omega, fun v4 hv4 => ?_⟩
            have hv4 : v4 < GN.length := by simpa using hv4
            -- stop: man good[_law_draw(state, len(good))]
            refine rk_ixL (lst_own (by mi_spec "foc")) (ints_get hv4) ?_
            refine ⟨[gDraw X.K ps] ++ gl X.K l2 [D.str "wait", D.int (t : Int)] :: gl X.K pg (dInts GN) :: (gHl X.K a h ++ gl X.K pr (dInts R) :: ([] ++ G2)), by mi_spec "entE", by simp; omega, ⟨ts ++ [GN.getD v4 0], by simp, by simp; omega, fun i hi => ?_⟩, by mi_spec "entE"⟩
            rcases List.mem_append.mp hi with h' | h'
            · exact htg i h'
            · rw [List.mem_singleton.mp h']; exact getD_mem hv4
          · rintro pz acc G' ⟨ts, rfl, htl, htg⟩ en
            have e9 : (1 + (v3 : Int)).toNat = v3 + 1 := by omega
            rw [e9] at htl
            refine rk_cat (LstAt.ent (Ent.cons _ en) (lst_own (by mi_spec "foc"))) (lst_own (by mi_spec "foc")) (by simp; omega) fun pt => ?_
            refine xga_nil ?_
            mi_spec "rl_tuple"
            exact ⟨gDraw X.K ps :: gHl X.K a h, (Ent.cons _ (Ent.cons _ en)).trans (by mi_spec "entE"), q (some (.wait false t ts)) ⟨t1, t2, by omega, by omega, fun i hi => by rw [hG]; exact htg i hi⟩⟩
end
section
variable {P : Program} {w : World} {K : PySem.W.Frag} {mg : Str → Option Value} {base : Heap}
def IsL (d : D) : Prop := (∃ xs, d = .lst xs) ∨ ∃ p, d = .raw (.ref p)
theorem isN_L {K : PySem.W.Frag} {d : D} (h : IsL d) : ∀ F v, Rep K F d v → decide (v = V.non) = false := by
  rcases h with ⟨xs, rfl⟩ | ⟨p, rfl⟩
  · exact isN_lst
  · exact isN_ref
/-- like data -/
def Plain (d : D) : Prop := d = .non ∨ (∃ i, d = .int i) ∨ (∃ b, d = .bl b) ∨ ∃ z, d = .str z
def SameD (K : PySem.W.Frag) (G : Gs) : Nat → D → D → Prop
  | 0, d, e => d = e ∧ Plain d
  | n + 1, d, e => (d = e ∧ Plain d) ∨ ∃ xs ys : List D, IsL e ∧ LstAt K G d xs ∧ LstAt K G e ys ∧ xs.length = ys.length ∧ xs.length ≤ 1000 ∧ ∀ (i : Nat) x y, xs[i]? = some x → ys[i]? = some y → SameD K G n x y
theorem SameD.mono {K : PySem.W.Frag} {G G2 : Gs} : ∀ {n : Nat} {d e : D}, SameD K G n d e → SameD K (G ++ G2) n d e
  | 0, _, _, h => h
  | n + 1, _, _, .inl h => .inl h
  | n + 1, _, _, .inr ⟨xs, ys, i, h1, h2, h3, h4, h5⟩ => .inr ⟨xs, ys, i, h1.mono, h2.mono, h3, h4, fun i x y a b => (h5 i x y a b).mono⟩
abbrev aIsNum (K : PySem.W.Frag) : ASp := fun es G KN _ => ∃ i, es = [.int i] ∧ G = [] ∧ KN (.bl true) []
abbrev aSame (K : PySem.W.Frag) (n : Nat) : ASp := fun es G KN _ => ∃ d e, es = [d, e] ∧ SameD K G n d e ∧ KN (.bl true) G
theorem ok_isnum {f : Addr} {fd : FuncData} (F : FunD K "_law_is_number" "_law_is_number" (defArgs s__law_is_number) (defBody s__law_is_number) (defScope s__law_is_number) [] [] f fd) (T : Tx K mg)   : FnOk P w K mg base (L2.CX P w) 1 f fd ["actual"] (conc K (aIsNum K)) := by
  refine def_ok F sc__law_is_number nm__law_is_number (fun es G KN KE ⟨_, e, _⟩ => by rw [e] <;> rfl) ?_
  rintro X F0 es G G2 KN KE rfl rfl rfl rfl rfl c hfn nm rz ⟨i, rfl, rfl, q⟩
  show GSs X F0 _ [some (.int i)] (G2) _
  refine xgss_cons (xgs_ret (xge_and (xge_callB c nm .here T.misinstance bt_isinstance (xga_cons (xge_nm c nm .here (xga_cons (xge_globT c nm (.there .here) T.mint bt_int (xga_nil ?_)) rfl) rfl) rfl) rfl rfl)))
  -- stop: isinstance
  refine rl_isi ty_int (kk k_int_int) ?_
  refine ⟨_, rfl, ?_⟩
  -- stop: br xge_and
  refine brT ?_
  refine xge_one (xge_not (xge_callB c nm .here T.misinstance bt_isinstance (xga_cons (xge_nm c nm .here (xga_cons (xge_globT c nm (.there (.there .here)) T.mbool bt_bool (xga_nil ?_)) rfl) rfl) rfl) rfl rfl))
  -- stop: isinstance
  refine rl_isi ty_int (kk k_int_bool) ?_
  refine ⟨_, rfl, ?_⟩
  exact ⟨[], Ent.refl _, q⟩
theorem ok_same0 {f : Addr} {fd : FuncData} (F : FunD K "_law_same" "_law_same" (defArgs s__law_same) (defBody s__law_same) (defScope s__law_same) [] [] f fd) (T : Tx K mg) (h__law_is_number : DefAt P w K mg base 1 "_law_is_number" (aIsNum K))  : FnOk P w K mg base (L2.CX P w) 2 f fd ["actual", "expected"] (conc K (aSame K 0)) := by
  refine def_ok F sc__law_same nm__law_same (fun es G KN KE ⟨_, _, e, _⟩ => by rw [e] <;> rfl) ?_
  rintro X F0 es G G2 KN KE rfl rfl rfl rfl rfl c hfn nm rz ⟨d, e, rfl, hs, q⟩
  rcases hs with ⟨rfl, rfl | ⟨i, rfl⟩ | ⟨b, rfl⟩ | ⟨z, rfl⟩⟩
  · show GSs X F0 _ [some (.non), some (.non), none] (G ++ G2) _
    refine xgss_cons (xgs_if (xgt_compare (xge_nm c nm (.there .here) (xge_non ?_) rfl) (nm_Is _)))
    mi_spec "opIs"
    refine kb ?_
    -- stop: if
    refine brT ?_
    refine xgss_cons (xgs_ret (xge_compare (xge_nm c nm .here (xge_non ?_) rfl) (nm_Is _)))
    mi_spec "opIs"
    exact ⟨G, by mi_spec "entE", q⟩
  · show GSs X F0 _ [some (.int i), some (.int i), none] (G ++ G2) _
    refine xgss_cons (xgs_if (xgt_compare (xge_nm c nm (.there .here) (xge_non ?_) rfl) (nm_Is _)))
    mi_spec "opIs"
    refine kb ?_
    -- stop: if
    refine brF (xgss_nil ?_)
    refine xgss_cons (xgs_if (xgt_tru (fun _ => rfl) (xge_callB c nm .here T.misinstance bt_isinstance (xga_cons (xge_nm c nm (.there .here) (xga_cons (xge_globT c nm (.there .here) T.mbool bt_bool (xga_nil ?_)) rfl) rfl) rfl) rfl rfl)))
    -- stop: isinstance
    refine rl_isi ty_int (kk k_int_bool) ?_
    mi_spec "opTru"
    -- stop: if
    refine brF (xgss_nil ?_)
    refine xgss_cons (xgs_if (xgt_tru (fun _ => rfl) (xge_callB c nm .here T.misinstance bt_isinstance (xga_cons (xge_nm c nm (.there .here) (xga_cons (xge_globT c nm (.there (.there .here)) T.mint bt_int (xga_nil ?_)) rfl) rfl) rfl) rfl rfl)))
    -- stop: isinstance
    refine rl_isi ty_int (kk k_int_int) ?_
    mi_spec "opTru"
    -- stop: if
    refine brT ?_
    refine xgss_cons (xgs_ret (xge_and (xge_call c h__law_is_number (Nat.le_of_ble_eq_true rfl) nm (.there (.there (.there .here))) (xga_cons (xge_nm c nm .here (xga_nil ?_) rfl) rfl) rfl rfl)))
    -- stop: call _law_is_number
    refine CallK.frame ⟨i, rfl, rfl, ?_⟩
    refine ⟨_, rfl, ?_⟩
    -- stop: br xge_and
    refine brT ?_
    refine xge_one (xge_compare (xge_nm c nm .here (xge_nm c nm (.there .here) ?_ rfl) rfl) (nm_Eq _))
    mi_spec "opEq"
    rw [decide_eq_true (rfl : i = i)]
    exact ⟨G, by mi_spec "entE", q⟩
  · show GSs X F0 _ [some (.bl b), some (.bl b), none] (G ++ G2) _
    refine xgss_cons (xgs_if (xgt_compare (xge_nm c nm (.there .here) (xge_non ?_) rfl) (nm_Is _)))
    mi_spec "opIs"
    refine kb ?_
    -- stop: if
    refine brF (xgss_nil ?_)
    refine xgss_cons (xgs_if (xgt_tru (fun _ => rfl) (xge_callB c nm .here T.misinstance bt_isinstance (xga_cons (xge_nm c nm (.there .here) (xga_cons (xge_globT c nm (.there .here) T.mbool bt_bool (xga_nil ?_)) rfl) rfl) rfl) rfl rfl)))
    -- stop: isinstance
    refine rl_isi ty_bl (kk k_bool_bool) ?_
    mi_spec "opTru"
    -- stop: if
    refine brT ?_
    refine xgss_cons (xgs_ret (xge_and (xge_callB c nm .here T.misinstance bt_isinstance (xga_cons (xge_nm c nm .here (xga_cons (xge_globT c nm (.there .here) T.mbool bt_bool (xga_nil ?_)) rfl) rfl) rfl) rfl rfl)))
    -- stop: isinstance
    refine rl_isi ty_bl (kk k_bool_bool) ?_
    refine ⟨_, rfl, ?_⟩
    -- stop: br xge_and
    refine brT ?_
    refine xge_one (xge_compare (xge_nm c nm .here (xge_nm c nm (.there .here) ?_ rfl) rfl) (nm_Eq _))
    mi_spec "opEq"
    rw [decide_eq_true (rfl : b = b)]
    exact ⟨G, by mi_spec "entE", q⟩
  · show GSs X F0 _ [some (.str z), some (.str z), none] (G ++ G2) _
    refine xgss_cons (xgs_if (xgt_compare (xge_nm c nm (.there .here) (xge_non ?_) rfl) (nm_Is _)))
    mi_spec "opIs"
    refine kb ?_
    -- stop: if
    refine brF (xgss_nil ?_)
    refine xgss_cons (xgs_if (xgt_tru (fun _ => rfl) (xge_callB c nm .here T.misinstance bt_isinstance (xga_cons (xge_nm c nm (.there .here) (xga_cons (xge_globT c nm (.there .here) T.mbool bt_bool (xga_nil ?_)) rfl) rfl) rfl) rfl rfl)))
    -- stop: isinstance
    refine rl_isi ty_strs (kk k_str_bool) ?_
    mi_spec "opTru"
    -- stop: if
    refine brF (xgss_nil ?_)
    refine xgss_cons (xgs_if (xgt_tru (fun _ => rfl) (xge_callB c nm .here T.misinstance bt_isinstance (xga_cons (xge_nm c nm (.there .here) (xga_cons (xge_globT c nm (.there (.there .here)) T.mint bt_int (xga_nil ?_)) rfl) rfl) rfl) rfl rfl)))
    -- stop: isinstance
    refine rl_isi ty_strs (kk k_str_int) ?_
    mi_spec "opTru"
    -- stop: if
    refine brF (xgss_nil ?_)
    refine xgss_cons (xgs_if (xgt_tru (fun _ => rfl) (xge_callB c nm .here T.misinstance bt_isinstance (xga_cons (xge_nm c nm (.there .here) (xga_cons (xge_globT c nm (.there (.there (.there (.there .here)))) T.mstr bt_str (xga_nil ?_)) rfl) rfl) rfl) rfl rfl)))
    -- stop: isinstance
    refine rl_isi ty_strs (kk k_str_str) ?_
    mi_spec "opTru"
    -- stop: if
    refine brT ?_
    refine xgss_cons (xgs_ret (xge_and (xge_callB c nm .here T.misinstance bt_isinstance (xga_cons (xge_nm c nm .here (xga_cons (xge_globT c nm (.there (.there (.there (.there .here)))) T.mstr bt_str (xga_nil ?_)) rfl) rfl) rfl) rfl rfl)))
    -- stop: isinstance
    refine rl_isi ty_strs (kk k_str_str) ?_
    refine ⟨_, rfl, ?_⟩
    -- stop: br xge_and
    refine brT ?_
    refine xge_one (xge_compare (xge_nm c nm .here (xge_nm c nm (.there .here) ?_ rfl) rfl) (nm_Eq _))
    mi_spec "opEq"
    rw [decide_eq_true (rfl : z = z)]
    exact ⟨G, by mi_spec "entE", q⟩
theorem ok_same1 {f : Addr} {fd : FuncData} (F : FunD K "_law_same" "_law_same" (defArgs s__law_same) (defBody s__law_same) (defScope s__law_same) [] [] f fd) (T : Tx K mg) (h__law_is_number : DefAt P w K mg base 1 "_law_is_number" (aIsNum K)) (h__law_same : DefAt P w K mg base 2 "_law_same" (aSame K 0)) : FnOk P w K mg base (L2.CX P w) 3 f fd ["actual", "expected"] (conc K (aSame K 1)) := by
  refine def_ok F sc__law_same nm__law_same (fun es G KN KE ⟨_, _, e, _⟩ => by rw [e] <;> rfl) ?_
  rintro X F0 es G G2 KN KE rfl rfl rfl rfl rfl c hfn nm rz ⟨d, e, rfl, hs, q⟩
  rcases hs with hs | ⟨xs, ys, il, hx0, hy0, hxy, hxl, hel⟩
  · skip
    rcases hs with ⟨rfl, rfl | ⟨i, rfl⟩ | ⟨b, rfl⟩ | ⟨z, rfl⟩⟩
    · show GSs X F0 _ [some (.non), some (.non), none] (G ++ G2) _
      refine xgss_cons (xgs_if (xgt_compare (xge_nm c nm (.there .here) (xge_non ?_) rfl) (nm_Is _)))
      mi_spec "opIs"
      refine kb ?_
      -- stop: if
      refine brT ?_
      refine xgss_cons (xgs_ret (xge_compare (xge_nm c nm .here (xge_non ?_) rfl) (nm_Is _)))
      mi_spec "opIs"
      exact ⟨G, by mi_spec "entE", q⟩
    · show GSs X F0 _ [some (.int i), some (.int i), none] (G ++ G2) _
      refine xgss_cons (xgs_if (xgt_compare (xge_nm c nm (.there .here) (xge_non ?_) rfl) (nm_Is _)))
      mi_spec "opIs"
      refine kb ?_
      -- stop: if
      refine brF (xgss_nil ?_)
      refine xgss_cons (xgs_if (xgt_tru (fun _ => rfl) (xge_callB c nm .here T.misinstance bt_isinstance (xga_cons (xge_nm c nm (.there .here) (xga_cons (xge_globT c nm (.there .here) T.mbool bt_bool (xga_nil ?_)) rfl) rfl) rfl) rfl rfl)))
      -- stop: isinstance
      refine rl_isi ty_int (kk k_int_bool) ?_
      mi_spec "opTru"
      -- stop: if
      refine brF (xgss_nil ?_)
      refine xgss_cons (xgs_if (xgt_tru (fun _ => rfl) (xge_callB c nm .here T.misinstance bt_isinstance (xga_cons (xge_nm c nm (.there .here) (xga_cons (xge_globT c nm (.there (.there .here)) T.mint bt_int (xga_nil ?_)) rfl) rfl) rfl) rfl rfl)))
      -- stop: isinstance
      refine rl_isi ty_int (kk k_int_int) ?_
      mi_spec "opTru"
      -- stop: if
      refine brT ?_
      refine xgss_cons (xgs_ret (xge_and (xge_call c h__law_is_number (Nat.le_of_ble_eq_true rfl) nm (.there (.there (.there .here))) (xga_cons (xge_nm c nm .here (xga_nil ?_) rfl) rfl) rfl rfl)))
      -- stop: call _law_is_number
      refine CallK.frame ⟨i, rfl, rfl, ?_⟩
      refine ⟨_, rfl, ?_⟩
      -- stop: br xge_and
      refine brT ?_
      refine xge_one (xge_compare (xge_nm c nm .here (xge_nm c nm (.there .here) ?_ rfl) rfl) (nm_Eq _))
      mi_spec "opEq"
      rw [decide_eq_true (rfl : i = i)]
      exact ⟨G, by mi_spec "entE", q⟩
    · show GSs X F0 _ [some (.bl b), some (.bl b), none] (G ++ G2) _
      refine xgss_cons (xgs_if (xgt_compare (xge_nm c nm (.there .here) (xge_non ?_) rfl) (nm_Is _)))
      mi_spec "opIs"
      refine kb ?_
      -- stop: if
      refine brF (xgss_nil ?_)
      refine xgss_cons (xgs_if (xgt_tru (fun _ => rfl) (xge_callB c nm .here T.misinstance bt_isinstance (xga_cons (xge_nm c nm (.there .here) (xga_cons (xge_globT c nm (.there .here) T.mbool bt_bool (xga_nil ?_)) rfl) rfl) rfl) rfl rfl)))
      -- stop: isinstance
      refine rl_isi ty_bl (kk k_bool_bool) ?_
      mi_spec "opTru"
      -- stop: if
      refine brT ?_
      refine xgss_cons (xgs_ret (xge_and (xge_callB c nm .here T.misinstance bt_isinstance (xga_cons (xge_nm c nm .here (xga_cons (xge_globT c nm (.there .here) T.mbool bt_bool (xga_nil ?_)) rfl) rfl) rfl) rfl rfl)))
      -- stop: isinstance
      refine rl_isi ty_bl (kk k_bool_bool) ?_
      refine ⟨_, rfl, ?_⟩
      -- stop: br xge_and
      refine brT ?_
      refine xge_one (xge_compare (xge_nm c nm .here (xge_nm c nm (.there .here) ?_ rfl) rfl) (nm_Eq _))
      mi_spec "opEq"
      rw [decide_eq_true (rfl : b = b)]
      exact ⟨G, by mi_spec "entE", q⟩
    · show GSs X F0 _ [some (.str z), some (.str z), none] (G ++ G2) _
      refine xgss_cons (xgs_if (xgt_compare (xge_nm c nm (.there .here) (xge_non ?_) rfl) (nm_Is _)))
      mi_spec "opIs"
      refine kb ?_
      -- stop: if
      refine brF (xgss_nil ?_)
      refine xgss_cons (xgs_if (xgt_tru (fun _ => rfl) (xge_callB c nm .here T.misinstance bt_isinstance (xga_cons (xge_nm c nm (.there .here) (xga_cons (xge_globT c nm (.there .here) T.mbool bt_bool (xga_nil ?_)) rfl) rfl) rfl) rfl rfl)))
      -- stop: isinstance
      refine rl_isi ty_strs (kk k_str_bool) ?_
      mi_spec "opTru"
      -- stop: if
      refine brF (xgss_nil ?_)
      refine xgss_cons (xgs_if (xgt_tru (fun _ => rfl) (xge_callB c nm .here T.misinstance bt_isinstance (xga_cons (xge_nm c nm (.there .here) (xga_cons (xge_globT c nm (.there (.there .here)) T.mint bt_int (xga_nil ?_)) rfl) rfl) rfl) rfl rfl)))
      -- stop: isinstance
      refine rl_isi ty_strs (kk k_str_int) ?_
      mi_spec "opTru"
      -- stop: if
      refine brF (xgss_nil ?_)
      refine xgss_cons (xgs_if (xgt_tru (fun _ => rfl) (xge_callB c nm .here T.misinstance bt_isinstance (xga_cons (xge_nm c nm (.there .here) (xga_cons (xge_globT c nm (.there (.there (.there (.there .here)))) T.mstr bt_str (xga_nil ?_)) rfl) rfl) rfl) rfl rfl)))
      -- stop: isinstance
      refine rl_isi ty_strs (kk k_str_str) ?_
      mi_spec "opTru"
      -- stop: if
      refine brT ?_
      refine xgss_cons (xgs_ret (xge_and (xge_callB c nm .here T.misinstance bt_isinstance (xga_cons (xge_nm c nm .here (xga_cons (xge_globT c nm (.there (.there (.there (.there .here)))) T.mstr bt_str (xga_nil ?_)) rfl) rfl) rfl) rfl rfl)))
      -- stop: isinstance
      refine rl_isi ty_strs (kk k_str_str) ?_
      refine ⟨_, rfl, ?_⟩
      -- stop: br xge_and
      refine brT ?_
      refine xge_one (xge_compare (xge_nm c nm .here (xge_nm c nm (.there .here) ?_ rfl) rfl) (nm_Eq _))
      mi_spec "opEq"
      rw [decide_eq_true (rfl : z = z)]
      exact ⟨G, by mi_spec "entE", q⟩
  · have hx : LstAt X.K (G ++ G2) d xs := hx0.mono
    have hy : LstAt X.K (G ++ G2) e ys := hy0.mono
    show GSs X F0 _ [some (d), some (e), none] (G ++ G2) _
    refine xgss_cons (xgs_if (xgt_compare (xge_nm c nm (.there .here) (xge_non ?_) rfl) (nm_Is _)))
    -- stop: man expected is None
    refine rk_isN (isN_L il) ?_
    refine kb ?_
    -- stop: if
    refine brF (xgss_nil ?_)
    refine xgss_cons (xgs_if (xgt_tru (fun _ => rfl) (xge_callB c nm .here T.misinstance bt_isinstance (xga_cons (xge_nm c nm (.there .here) (xga_cons (xge_globT c nm (.there .here) T.mbool bt_bool (xga_nil ?_)) rfl) rfl) rfl) rfl rfl)))
    -- stop: isinstance
    refine rl_isi (ty_lsts hy) (kk k_list_bool) ?_
    mi_spec "opTru"
    -- stop: if
    refine brF (xgss_nil ?_)
    refine xgss_cons (xgs_if (xgt_tru (fun _ => rfl) (xge_callB c nm .here T.misinstance bt_isinstance (xga_cons (xge_nm c nm (.there .here) (xga_cons (xge_globT c nm (.there (.there .here)) T.mint bt_int (xga_nil ?_)) rfl) rfl) rfl) rfl rfl)))
    -- stop: isinstance
    refine rl_isi (ty_lsts hy) (kk k_list_int) ?_
    mi_spec "opTru"
    -- stop: if
    refine brF (xgss_nil ?_)
    refine xgss_cons (xgs_if (xgt_tru (fun _ => rfl) (xge_callB c nm .here T.misinstance bt_isinstance (xga_cons (xge_nm c nm (.there .here) (xga_cons (xge_globT c nm (.there (.there (.there (.there .here)))) T.mstr bt_str (xga_nil ?_)) rfl) rfl) rfl) rfl rfl)))
    -- stop: isinstance
    refine rl_isi (ty_lsts hy) (kk k_list_str) ?_
    mi_spec "opTru"
    -- stop: if
    refine brF (xgss_nil ?_)
    refine xgss_cons (xgs_if (xgt_tru (fun _ => rfl) (xge_callB c nm .here T.misinstance bt_isinstance (xga_cons (xge_nm c nm (.there .here) (xga_cons (xge_globT c nm (.there (.there (.there (.there (.there .here))))) T.mlist bt_list (xga_nil ?_)) rfl) rfl) rfl) rfl rfl)))
    -- stop: isinstance
    refine rl_isi (ty_lsts hy) (kk k_list_list) ?_
    mi_spec "opTru"
    -- stop: if
    refine brT ?_
    refine xgss_cons (xgs_if (xgt_of_w (xgw_or (xgt_not (xgt_tru (fun _ => rfl) (xge_callB c nm .here T.misinstance bt_isinstance (xga_cons (xge_nm c nm .here (xga_cons (xge_globT c nm (.there (.there (.there (.there (.there .here))))) T.mlist bt_list (xga_nil ?_)) rfl) rfl) rfl) rfl rfl))))))
    -- stop: isinstance
    refine rl_isi (ty_lsts hx) (kk k_list_list) ?_
    mi_spec "opTru"
    -- stop: br xgw_or
    refine brQ0 rfl ?_
    refine xgw_or1 (xgt_compare (xge_callB c nm (.there (.there (.there (.there (.there (.there .here)))))) T.mlen bt_len (xga_cons (xge_nm c nm .here (xga_nil ?_) rfl) rfl) rfl rfl) (nm_NotEq _))
    -- stop: len
    refine rl_len (Or.inl hx) ?_
    refine xge_callB c nm (.there (.there (.there (.there (.there (.there .here)))))) T.mlen bt_len (xga_cons (xge_nm c nm (.there .here) (xga_nil ?_) rfl) rfl) rfl rfl
    -- stop: len
    refine rl_len (Or.inl hy) ?_
    mi_spec "opNotEq"
    refine kb ?_
    -- stop: if
    refine brQ0 (by simp [hxy]) (xgss_nil (xgss_nil ?_))
    refine xgss_cons (xgs_forR1 c hfn nm (.there (.there .here)) (.there (.there (.there (.there (.there (.there (.there (.there .here)))))))) T.mrange (xga_cons (xge_callB c nm (.there (.there (.there (.there (.there (.there .here)))))) T.mlen bt_len (xga_cons (xge_nm c nm (.there .here) (xga_nil ?_) rfl) rfl) rfl rfl) rfl) rfl rfl)
    -- stop: len
    refine rl_len (Or.inl hy) ?_
    refine xga_nil ?_
    -- stop: for
    refine ⟨_, rfl, ⟨by omega, by omega⟩, ForR.same (fun j ds' => ∃ o, ds' = [some d, some e, o]) ⟨_, rfl⟩ ?_ ?_⟩
    · rintro j ds' hj ⟨o, rfl⟩
      rw [Int.zero_add]
      have hj2 : j < ys.length := by simpa using hj
      have hj1 : j < xs.length := by omega
      refine xgss_cons (xgs_if (xgt_not (xgt_tru (fun _ => rfl) (xge_call c h__law_same (Nat.le_of_ble_eq_true rfl) nm (.there (.there (.there (.there (.there (.there (.there (.there (.there .here))))))))) (xga_cons (xge_index (xge_nm c nm .here (xge_nm c nm (.there (.there .here)) ?_ rfl) rfl) (fun b_ _ _ => by cases b_ <;> exact rfl)) rfl) rfl rfl))))
      -- stop: man actual[k]
      refine rk_ixL hx (Ly.atI_nat (List.getElem?_eq_getElem hj1)) ?_
      refine xga_cons (xge_index (xge_nm c nm (.there .here) (xge_nm c nm (.there (.there .here)) ?_ rfl) rfl) (fun b_ _ _ => by cases b_ <;> exact rfl)) rfl
      -- stop: man expected[k]
      refine rk_ixL hy (Ly.atI_nat (List.getElem?_eq_getElem hj2)) ?_
      refine xga_nil ?_
      -- stop: call _law_same
      refine callK_all ⟨_, _, rfl, (hel j _ _ (List.getElem?_eq_getElem hj1) (List.getElem?_eq_getElem hj2)).mono, ?_⟩
      mi_spec "opTru"
      -- stop: if
      refine brQ0 rfl (xgss_nil (xgss_nil ?_))
      exact ⟨⟨_, rfl⟩, Ent.refl _⟩
    · rintro ds' G' ⟨o, rfl⟩ en
      refine GTS.ent en ?_
      refine xgss_cons (xgs_ret (xge_bl ?_))
      exact ⟨G, by mi_spec "entE", q⟩
theorem ok_same2 {f : Addr} {fd : FuncData} (F : FunD K "_law_same" "_law_same" (defArgs s__law_same) (defBody s__law_same) (defScope s__law_same) [] [] f fd) (T : Tx K mg) (h__law_is_number : DefAt P w K mg base 1 "_law_is_number" (aIsNum K)) (h__law_same : DefAt P w K mg base 3 "_law_same" (aSame K 1)) : FnOk P w K mg base (L2.CX P w) 4 f fd ["actual", "expected"] (conc K (aSame K 2)) := by
  refine def_ok F sc__law_same nm__law_same (fun es G KN KE ⟨_, _, e, _⟩ => by rw [e] <;> rfl) ?_
  rintro X F0 es G G2 KN KE rfl rfl rfl rfl rfl c hfn nm rz ⟨d, e, rfl, hs, q⟩
  rcases hs with hs | ⟨xs, ys, il, hx0, hy0, hxy, hxl, hel⟩
  · skip
    rcases hs with ⟨rfl, rfl | ⟨i, rfl⟩ | ⟨b, rfl⟩ | ⟨z, rfl⟩⟩
    · show GSs X F0 _ [some (.non), some (.non), none] (G ++ G2) _
      refine xgss_cons (xgs_if (xgt_compare (xge_nm c nm (.there .here) (xge_non ?_) rfl) (nm_Is _)))
      mi_spec "opIs"
      refine kb ?_
      -- stop: if
      refine brT ?_
      refine xgss_cons (xgs_ret (xge_compare (xge_nm c nm .here (xge_non ?_) rfl) (nm_Is _)))
      mi_spec "opIs"
      exact ⟨G, by mi_spec "entE", q⟩
    · show GSs X F0 _ [some (.int i), some (.int i), none] (G ++ G2) _
      refine xgss_cons (xgs_if (xgt_compare (xge_nm c nm (.there .here) (xge_non ?_) rfl) (nm_Is _)))
      mi_spec "opIs"
      refine kb ?_
      -- stop: if
      refine brF (xgss_nil ?_)
      refine xgss_cons (xgs_if (xgt_tru (fun _ => rfl) (xge_callB c nm .here T.misinstance bt_isinstance (xga_cons (xge_nm c nm (.there .here) (xga_cons (xge_globT c nm (.there .here) T.mbool bt_bool (xga_nil ?_)) rfl) rfl) rfl) rfl rfl)))
      -- stop: isinstance
      refine rl_isi ty_int (kk k_int_bool) ?_
      mi_spec "opTru"
      -- stop: if
      refine brF (xgss_nil ?_)
      refine xgss_cons (xgs_if (xgt_tru (fun _ => rfl) (xge_callB c nm .here T.misinstance bt_isinstance (xga_cons (xge_nm c nm (.there .here) (xga_cons (xge_globT c nm (.there (.there .here)) T.mint bt_int (xga_nil ?_)) rfl) rfl) rfl) rfl rfl)))
      -- stop: isinstance
      refine rl_isi ty_int (kk k_int_int) ?_
      mi_spec "opTru"
      -- stop: if
      refine brT ?_
      refine xgss_cons (xgs_ret (xge_and (xge_call c h__law_is_number (Nat.le_of_ble_eq_true rfl) nm (.there (.there (.there .here))) (xga_cons (xge_nm c nm .here (xga_nil ?_) rfl) rfl) rfl rfl)))
      -- stop: call _law_is_number
      refine CallK.frame ⟨i, rfl, rfl, ?_⟩
      refine ⟨_, rfl, ?_⟩
      -- stop: br xge_and
      refine brT ?_
      refine xge_one (xge_compare (xge_nm c nm .here (xge_nm c nm (.there .here) ?_ rfl) rfl) (nm_Eq _))
      mi_spec "opEq"
      rw [decide_eq_true (rfl : i = i)]
      exact ⟨G, by mi_spec "entE", q⟩
    · show GSs X F0 _ [some (.bl b), some (.bl b), none] (G ++ G2) _
      refine xgss_cons (xgs_if (xgt_compare (xge_nm c nm (.there .here) (xge_non ?_) rfl) (nm_Is _)))
      mi_spec "opIs"
      refine kb ?_
      -- stop: if
      refine brF (xgss_nil ?_)
      refine xgss_cons (xgs_if (xgt_tru (fun _ => rfl) (xge_callB c nm .here T.misinstance bt_isinstance (xga_cons (xge_nm c nm (.there .here) (xga_cons (xge_globT c nm (.there .here) T.mbool bt_bool (xga_nil ?_)) rfl) rfl) rfl) rfl rfl)))
      -- stop: isinstance
      refine rl_isi ty_bl (kk k_bool_bool) ?_
      mi_spec "opTru"
      -- stop: if
      refine brT ?_
      refine xgss_cons (xgs_ret (xge_and (xge_callB c nm .here T.misinstance bt_isinstance (xga_cons (xge_nm c nm .here (xga_cons (xge_globT c nm (.there .here) T.mbool bt_bool (xga_nil ?_)) rfl) rfl) rfl) rfl rfl)))
      -- stop: isinstance
      refine rl_isi ty_bl (kk k_bool_bool) ?_
      refine ⟨_, rfl, ?_⟩
      -- stop: br xge_and
      refine brT ?_
      refine xge_one (xge_compare (xge_nm c nm .here (xge_nm c nm (.there .here) ?_ rfl) rfl) (nm_Eq _))
      mi_spec "opEq"
      rw [decide_eq_true (rfl : b = b)]
      exact ⟨G, by mi_spec "entE", q⟩
    · show GSs X F0 _ [some (.str z), some (.str z), none] (G ++ G2) _
      refine xgss_cons (xgs_if (xgt_compare (xge_nm c nm (.there .here) (xge_non ?_) rfl) (nm_Is _)))
      mi_spec "opIs"
      refine kb ?_
      -- stop: if
      refine brF (xgss_nil ?_)
      refine xgss_cons (xgs_if (xgt_tru (fun _ => rfl) (xge_callB c nm .here T.misinstance bt_isinstance (xga_cons (xge_nm c nm (.there .here) (xga_cons (xge_globT c nm (.there .here) T.mbool bt_bool (xga_nil ?_)) rfl) rfl) rfl) rfl rfl)))
      -- stop: isinstance
      refine rl_isi ty_strs (kk k_str_bool) ?_
      mi_spec "opTru"
      -- stop: if
      refine brF (xgss_nil ?_)
      refine xgss_cons (xgs_if (xgt_tru (fun _ => rfl) (xge_callB c nm .here T.misinstance bt_isinstance (xga_cons (xge_nm c nm (.there .here) (xga_cons (xge_globT c nm (.there (.there .here)) T.mint bt_int (xga_nil ?_)) rfl) rfl) rfl) rfl rfl)))
      -- stop: isinstance
      refine rl_isi ty_strs (kk k_str_int) ?_
      mi_spec "opTru"
      -- stop: if
      refine brF (xgss_nil ?_)
      refine xgss_cons (xgs_if (xgt_tru (fun _ => rfl) (xge_callB c nm .here T.misinstance bt_isinstance (xga_cons (xge_nm c nm (.there .here) (xga_cons (xge_globT c nm (.there (.there (.there (.there .here)))) T.mstr bt_str (xga_nil ?_)) rfl) rfl) rfl) rfl rfl)))
      -- stop: isinstance
      refine rl_isi ty_strs (kk k_str_str) ?_
      mi_spec "opTru"
      -- stop: if
      refine brT ?_
      refine xgss_cons (xgs_ret (xge_and (xge_callB c nm .here T.misinstance bt_isinstance (xga_cons (xge_nm c nm .here (xga_cons (xge_globT c nm (.there (.there (.there (.there .here)))) T.mstr bt_str (xga_nil ?_)) rfl) rfl) rfl) rfl rfl)))
      -- stop: isinstance
      refine rl_isi ty_strs (kk k_str_str) ?_
      refine ⟨_, rfl, ?_⟩
      -- stop: br xge_and
      refine brT ?_
      refine xge_one (xge_compare (xge_nm c nm .here (xge_nm c nm (.there .here) ?_ rfl) rfl) (nm_Eq _))
      mi_spec "opEq"
      rw [decide_eq_true (rfl : z = z)]
      exact ⟨G, by mi_spec "entE", q⟩
  · have hx : LstAt X.K (G ++ G2) d xs := hx0.mono
    have hy : LstAt X.K (G ++ G2) e ys := hy0.mono
    show GSs X F0 _ [some (d), some (e), none] (G ++ G2) _
    refine xgss_cons (xgs_if (xgt_compare (xge_nm c nm (.there .here) (xge_non ?_) rfl) (nm_Is _)))
    -- stop: man expected is None
    refine rk_isN (isN_L il) ?_
    refine kb ?_
    -- stop: if
    refine brF (xgss_nil ?_)
    refine xgss_cons (xgs_if (xgt_tru (fun _ => rfl) (xge_callB c nm .here T.misinstance bt_isinstance (xga_cons (xge_nm c nm (.there .here) (xga_cons (xge_globT c nm (.there .here) T.mbool bt_bool (xga_nil ?_)) rfl) rfl) rfl) rfl rfl)))
    -- stop: isinstance
    refine rl_isi (ty_lsts hy) (kk k_list_bool) ?_
    mi_spec "opTru"
    -- stop: if
    refine brF (xgss_nil ?_)
    refine xgss_cons (xgs_if (xgt_tru (fun _ => rfl) (xge_callB c nm .here T.misinstance bt_isinstance (xga_cons (xge_nm c nm (.there .here) (xga_cons (xge_globT c nm (.there (.there .here)) T.mint bt_int (xga_nil ?_)) rfl) rfl) rfl) rfl rfl)))
    -- stop: isinstance
    refine rl_isi (ty_lsts hy) (kk k_list_int) ?_
    mi_spec "opTru"
    -- stop: if
    refine brF (xgss_nil ?_)
    refine xgss_cons (xgs_if (xgt_tru (fun _ => rfl) (xge_callB c nm .here T.misinstance bt_isinstance (xga_cons (xge_nm c nm (.there .here) (xga_cons (xge_globT c nm (.there (.there (.there (.there .here)))) T.mstr bt_str (xga_nil ?_)) rfl) rfl) rfl) rfl rfl)))
    -- stop: isinstance
    refine rl_isi (ty_lsts hy) (kk k_list_str) ?_
    mi_spec "opTru"
    -- stop: if
    refine brF (xgss_nil ?_)
    refine xgss_cons (xgs_if (xgt_tru (fun _ => rfl) (xge_callB c nm .here T.misinstance bt_isinstance (xga_cons (xge_nm c nm (.there .here) (xga_cons (xge_globT c nm (.there (.there (.there (.there (.there .here))))) T.mlist bt_list (xga_nil ?_)) rfl) rfl) rfl) rfl rfl)))
    -- stop: isinstance
    refine rl_isi (ty_lsts hy) (kk k_list_list) ?_
    mi_spec "opTru"
    -- stop: if
    refine brT ?_
    refine xgss_cons (xgs_if (xgt_of_w (xgw_or (xgt_not (xgt_tru (fun _ => rfl) (xge_callB c nm .here T.misinstance bt_isinstance (xga_cons (xge_nm c nm .here (xga_cons (xge_globT c nm (.there (.there (.there (.there (.there .here))))) T.mlist bt_list (xga_nil ?_)) rfl) rfl) rfl) rfl rfl))))))
    -- stop: isinstance
    refine rl_isi (ty_lsts hx) (kk k_list_list) ?_
    mi_spec "opTru"
    -- stop: br xgw_or
    refine brQ0 rfl ?_
    refine xgw_or1 (xgt_compare (xge_callB c nm (.there (.there (.there (.there (.there (.there .here)))))) T.mlen bt_len (xga_cons (xge_nm c nm .here (xga_nil ?_) rfl) rfl) rfl rfl) (nm_NotEq _))
    -- stop: len
    refine rl_len (Or.inl hx) ?_
    refine xge_callB c nm (.there (.there (.there (.there (.there (.there .here)))))) T.mlen bt_len (xga_cons (xge_nm c nm (.there .here) (xga_nil ?_) rfl) rfl) rfl rfl
    -- stop: len
    refine rl_len (Or.inl hy) ?_
    mi_spec "opNotEq"
    refine kb ?_
    -- stop: if
    refine brQ0 (by simp [hxy]) (xgss_nil (xgss_nil ?_))
    refine xgss_cons (xgs_forR1 c hfn nm (.there (.there .here)) (.there (.there (.there (.there (.there (.there (.there (.there .here)))))))) T.mrange (xga_cons (xge_callB c nm (.there (.there (.there (.there (.there (.there .here)))))) T.mlen bt_len (xga_cons (xge_nm c nm (.there .here) (xga_nil ?_) rfl) rfl) rfl rfl) rfl) rfl rfl)
    -- stop: len
    refine rl_len (Or.inl hy) ?_
    refine xga_nil ?_
    -- stop: for
    refine ⟨_, rfl, ⟨by omega, by omega⟩, ForR.same (fun j ds' => ∃ o, ds' = [some d, some e, o]) ⟨_, rfl⟩ ?_ ?_⟩
    · rintro j ds' hj ⟨o, rfl⟩
      rw [Int.zero_add]
      have hj2 : j < ys.length := by simpa using hj
      have hj1 : j < xs.length := by omega
      refine xgss_cons (xgs_if (xgt_not (xgt_tru (fun _ => rfl) (xge_call c h__law_same (Nat.le_of_ble_eq_true rfl) nm (.there (.there (.there (.there (.there (.there (.there (.there (.there .here))))))))) (xga_cons (xge_index (xge_nm c nm .here (xge_nm c nm (.there (.there .here)) ?_ rfl) rfl) (fun b_ _ _ => by cases b_ <;> exact rfl)) rfl) rfl rfl))))
      -- stop: man actual[k]
      refine rk_ixL hx (Ly.atI_nat (List.getElem?_eq_getElem hj1)) ?_
      refine xga_cons (xge_index (xge_nm c nm (.there .here) (xge_nm c nm (.there (.there .here)) ?_ rfl) rfl) (fun b_ _ _ => by cases b_ <;> exact rfl)) rfl
      -- stop: man expected[k]
      refine rk_ixL hy (Ly.atI_nat (List.getElem?_eq_getElem hj2)) ?_
      refine xga_nil ?_
      -- stop: call _law_same
      refine callK_all ⟨_, _, rfl, (hel j _ _ (List.getElem?_eq_getElem hj1) (List.getElem?_eq_getElem hj2)).mono, ?_⟩
      mi_spec "opTru"
      -- stop: if
      refine brQ0 rfl (xgss_nil (xgss_nil ?_))
      exact ⟨⟨_, rfl⟩, Ent.refl _⟩
    · rintro ds' G' ⟨o, rfl⟩ en
      refine GTS.ent en ?_
      refine xgss_cons (xgs_ret (xge_bl ?_))
      exact ⟨G, by mi_spec "entE", q⟩
end
section
variable {P : Program} {w : World} {K : PySem.W.Frag} {mg : Str → Option Value} {base : Heap}
abbrev aLStands (K : PySem.W.Frag) : ASp := fun es G KN _ => ∃ ar ah r h, es = [.raw (.ref (RtAd.p ar)), hlV ah] ∧ G = gRt K ar r ++ gHl K ah h ∧ h.Ok ∧ r.st.phases = h.phases ∧ r.st.awaited = h.awaited ∧ KN (.bl true) G
theorem same_int {K : PySem.W.Frag} {G : Gs} {i : Int} : SameD K G 2 (.int i) (.int i) := .inl ⟨rfl, .inr (.inl ⟨i, rfl⟩)⟩
theorem same_str {K : PySem.W.Frag} {G : Gs} {z : Str} : SameD K G 2 (.str z) (.str z) := .inl ⟨rfl, .inr (.inr (.inr ⟨z, rfl⟩))⟩
theorem same_bl {K : PySem.W.Frag} {G : Gs} {z : Bool} : SameD K G 2 (.bl z) (.bl z) := .inl ⟨rfl, .inr (.inr (.inl ⟨z, rfl⟩))⟩
theorem same_ints {K : PySem.W.Frag} {G : Gs} {n : Nat} {d e : D} {ns : List Nat} (il : IsL e) (h1 : LstAt K G d (dInts ns)) (h2 : LstAt K G e (dInts ns)) (hl : ns.length ≤ 1000) : SameD K G (n + 1) d e := .inr ⟨_, _, il, h1, h2, rfl, by simpa using hl, fun i x y hx hy => by
  rw [hx] at hy
  cases hy
  obtain ⟨m, _, rfl⟩ := dInts_at hx
  cases n with
  | zero => exact ⟨rfl, .inr (.inl ⟨_, rfl⟩)⟩
  | succ n => exact .inl ⟨rfl, .inr (.inl ⟨_, rfl⟩)⟩⟩
theorem ok_lstands {f : Addr} {fd : FuncData} (F : FunD K "_law_stands" "_law_stands" (defArgs s__law_stands) (defBody s__law_stands) (defScope s__law_stands) [] [] f fd) (T : Tx K mg) (h__law_same : DefAt P w K mg base 4 "_law_same" (aSame K 2)) (h_Runtime___len__ : SpecAt P w K mg base 1 (He.ga K "Runtime") "__len__" (aRLen K)) (h_Runtime_phase : MethAt P w K mg base 2 (He.ga K "Runtime") "phase" (aRPhase K)) (h_Runtime_targets : MethAt P w K mg base 2 (He.ga K "Runtime") "targets" (aRTargets K))  : FnOk P w K mg base (L2.CX P w) 5 f fd ["runtime", "hall"] (conc K (aLStands K)) := by
  refine def_ok F sc__law_stands nm__law_stands (fun es G KN KE ⟨_, _, _, _, e, _⟩ => by rw [e] <;> rfl) ?_
  rintro X F0 es G G2 KN KE rfl rfl rfl rfl rfl c hfn nm rz ⟨ar, ah, r, h, rfl, rfl, ok, ep, ea, q⟩
  have l1 := ok.l1
  have l2 := ok.l2
  have sm := ok.small
  show GSs X F0 _ [some (.raw (.ref ar.p)), some (hlV ah), none] (gRt X.K ar r ++ gHl X.K ah h ++ G2) _
  simp only [gRt, List.cons_append, List.nil_append, List.append_assoc]
  refine xgss_cons (xgs_if (xgt_not (xgt_tru (fun _ => rfl) (xge_call c h__law_same (Nat.le_of_ble_eq_true rfl) nm .here (xga_cons (xge_callB c nm (.there .here) T.mlen bt_len (xga_cons (xge_nm c nm .here (xga_nil ?_) rfl) rfl) rfl rfl) rfl) rfl rfl))))
  -- stop: len
  have hpl : h.phases.length ≤ 101 := by omega
  refine rl_lenM c h_Runtime___len__ (Nat.le_of_ble_eq_true rfl) (ins_own (by mi_spec "foc")) ⟨gRtx X.K ar r, _, by mi_spec "ent", ar, r, rfl, rfl, by rw [ep]; omega, ?_⟩
  refine ⟨_, rfl, ⟨by omega, by rw [ep]; omega⟩, ?_⟩
  refine xga_cons (xge_callB c nm (.there .here) T.mlen bt_len (xga_cons (xge_index (xge_nm c nm (.there .here) (xge_int ?_) rfl) (fun b_ _ _ => by cases b_ <;> exact rfl)) rfl) rfl rfl) rfl
  mi_spec "opIx 1"
  refine xga_nil ?_
  mi_spec "rl_len"
  refine xga_nil ?_
  -- stop: call _law_same
  refine callK_all ⟨_, _, rfl, by rw [ep, show (dStrs h.phases).length = h.phases.length by simp]; exact same_int, ?_⟩
  mi_spec "opTru"
  -- stop: if
  refine brQ0 rfl (xgss_nil ?_)
  refine xgss_cons (xgs_forR1 c hfn nm (.there (.there .here)) (.there (.there .here)) T.mrange (xga_cons (xge_callB c nm (.there .here) T.mlen bt_len (xga_cons (xge_index (xge_nm c nm (.there .here) (xge_int ?_) rfl) (fun b_ _ _ => by cases b_ <;> exact rfl)) rfl) rfl rfl) rfl) rfl rfl)
  mi_spec "opIx 1"
  refine xga_nil ?_
  mi_spec "rl_len"
  refine xga_nil ?_
  -- stop: for
  refine ⟨_, rfl, ⟨by omega, by simp; omega⟩, ForR.same (fun j ds' => ∃ o, ds' = [some (.raw (.ref ar.p)), some (hlV ah), o]) ⟨_, rfl⟩ ?_ ?_⟩
  · rintro j ds' hj ⟨o, rfl⟩
    rw [Int.zero_add]
    have hj1 : j < h.phases.length := by simpa using hj
    refine xgss_cons (xgs_if (xgt_not (xgt_tru (fun _ => rfl) (xge_call c h__law_same (Nat.le_of_ble_eq_true rfl) nm .here (xga_cons (xge_meth c T.c_Runtime h_Runtime_phase (Nat.le_of_ble_eq_true rfl) (xge_nm c nm .here ?_ rfl) rfl rfl rfl) rfl) rfl rfl))))
    mi_spec "opInsM"
    refine xga_cons (xge_nm c nm (.there (.there .here)) (xga_nil ?_) rfl) rfl
    mi_spec "opInsP"
    -- stop: call Runtime.phase
    refine ⟨gRtx X.K ar r, _, by mi_spec "ent", ar, r, j, rfl, rfl, by rw [ep]; omega, ?_⟩
    refine xga_cons (xge_index (xge_index (xge_nm c nm (.there .here) (xge_int ?_) rfl) (fun b_ _ _ => by cases b_ <;> exact rfl)) (fun b_ _ _ => by cases b_ <;> exact rfl)) rfl
    mi_spec "opIx 1"
    refine xge_nm c nm (.there (.there .here)) ?_ rfl
    -- stop: man hall[1][task]
    refine rk_ixL (lst_own (by mi_spec "foc")) (str_at hj1) ?_
    refine xga_nil ?_
    -- stop: call _law_same
    refine callK_all ⟨_, _, rfl, by rw [ep]; exact same_str, ?_⟩
    mi_spec "opTru"
    -- stop: if
    refine brQ0 rfl (xgss_nil ?_)
    refine xgss_cons (xgs_if (xgt_not (xgt_tru (fun _ => rfl) (xge_call c h__law_same (Nat.le_of_ble_eq_true rfl) nm .here (xga_cons (xge_meth c T.c_Runtime h_Runtime_targets (Nat.le_of_ble_eq_true rfl) (xge_nm c nm .here ?_ rfl) rfl rfl rfl) rfl) rfl rfl))))
    mi_spec "opInsM"
    refine xga_cons (xge_nm c nm (.there (.there .here)) (xga_nil ?_) rfl) rfl
    mi_spec "opInsP"
    -- stop: call Runtime.targets
    refine ⟨gRtx X.K ar r, _, by mi_spec "ent", ar, r, j, rfl, rfl, by rw [ep]; omega, by rw [ea]; omega, fun pt => ?_⟩
    refine xga_cons (xge_index (xge_index (xge_nm c nm (.there .here) (xge_int ?_) rfl) (fun b_ _ _ => by cases b_ <;> exact rfl)) (fun b_ _ _ => by cases b_ <;> exact rfl)) rfl
    mi_spec "opIx 2"
    refine xge_nm c nm (.there (.there .here)) ?_ rfl
    -- stop: man hall[2][task]
    refine rk_ixL (lst_own (by mi_spec "foc")) (ts_at (by omega)) ?_
    refine xga_nil ?_
    -- stop: call _law_same
    refine callK_all ⟨_, _, rfl, same_ints (ns := h.awaited.getD j []) (.inl ⟨_, rfl⟩) (by rw [ea]; exact lst_own (by mi_spec "foc")) lst_fr ?_, ?_⟩
    · have hmem : h.awaited.getD j [] ∈ h.awaited := by rw [List.getD_eq_getElem?_getD, List.getElem?_eq_getElem (by omega)]; exact List.getElem_mem _
      have := (ok.tgt _ hmem).1
      omega
    mi_spec "opTru"
    -- stop: if
    refine brQ0 rfl (xgss_nil (xgss_nil ?_))
    exact ⟨⟨_, rfl⟩, by mi_spec "entE"⟩
  · rintro ds' G' ⟨o, rfl⟩ en
    refine GTS.ent en ?_
    refine xgss_cons (xgs_ret (xge_bl ?_))
    exact ⟨gRt X.K ar r ++ gHl X.K ah h, by mi_spec "entE", q⟩
end
section
variable {P : Program} {w : World} {K : PySem.W.Frag} {mg : Str → Option Value} {base : Heap}
def endH (h : Hall) (l : List Nat) : Hall := l.foldl Hall.fin h
def runH (h : Hall) : List Nat := phL h.phases "running" h.phases.length
def hallK (h : Hall) : Nat → Hall
  | 0 => h
  | k + 1 => endH (hallK h k) (runH (hallK h k))
def roundsH (h : Hall) (k : Nat) : List (List Nat) := ((List.range k).map fun i => runH (hallK h i)).filter fun l => decide (0 < l.length)
theorem fin_births {h : Hall} {t : Nat} : (h.fin t).births = h.births := by
  unfold Hall.fin
  have : ∀ (l : List Nat) (k : Hall), (l.foldl wake k).births = k.births := by
    intro l
    induction l with
    | nil => exact fun k => rfl
    | cons x l ih => exact fun k => (ih (wake k x)).trans rfl
  exact this _ _
theorem fin_okH {h : Hall} {t : Nat} (ok : h.Ok) : (h.fin t).Ok := by
  obtain ⟨e1, e2, e3⟩ := @fin_lens h t
  have eb := @fin_births h t
  refine ⟨by rw [e1, eb]; exact ok.l1, by rw [e2, eb]; exact ok.l2, by rw [e3, eb]; exact ok.l3, by rw [eb]; exact ok.small, by rw [eb]; exact ok.par, fun ts hts => ?_⟩
  rw [e1]
  rcases wake_aw (h.woken t) ⟨h.births, h.phases.set t "ended", h.awaited, h.modes⟩ ts hts with e | hm
  · rw [e]; exact ⟨Nat.zero_le _, fun i hi => by cases hi⟩
  · exact ok.tgt ts hm
theorem endH_ok (l : List Nat) : ∀ h : Hall, h.Ok → (endH h l).Ok := by
  induction l with
  | nil => exact fun h ok => ok
  | cons x l ih => exact fun h ok => ih (h.fin x) (fin_okH ok)
theorem endH_len (l : List Nat) : ∀ h : Hall, (endH h l).phases.length = h.phases.length := by
  induction l with
  | nil => exact fun h => rfl
  | cons x l ih => exact fun h => (ih (h.fin x)).trans (@fin_lens h x).1
theorem hallK_ok {h : Hall} (ok : h.Ok) : ∀ k, (hallK h k).Ok
  | 0 => ok
  | k + 1 => endH_ok _ _ (hallK_ok ok k)
theorem hallK_len (h : Hall) : ∀ k, (hallK h k).phases.length = h.phases.length
  | 0 => rfl
  | k + 1 => (endH_len _ _).trans (hallK_len h k)
theorem roundsH_succ {h : Hall} {k : Nat} : roundsH h (k + 1) = roundsH h k ++ (if 0 < (runH (hallK h k)).length then [runH (hallK h k)] else []) := by
  unfold roundsH
  rw [List.range_succ, List.map_append, List.filter_append]
  congr 1
  show List.filter _ [_] = _
  rw [List.filter_cons]
  by_cases e : 0 < (runH (hallK h k)).length
  · rw [if_pos e, if_pos (decide_eq_true e)]; rfl
  · rw [if_neg e, if_neg (by rw [decide_eq_false e]; decide)]; rfl
theorem roundsH_len {h : Hall} {k : Nat} : (roundsH h k).length ≤ k := Nat.le_trans (List.length_filter_le _ _) (by simp)
abbrev aLRounds (K : PySem.W.Frag) : ASp := fun es G KN _ => ∃ a h, es = [hlV a] ∧ G = gHl K a h ∧ h.Ok ∧ ∀ p, KN (.raw (.ref p)) (gl K p (dTs (roundsH h h.phases.length)) :: gHl K a (hallK h h.phases.length))
theorem ok_lrounds {f : Addr} {fd : FuncData} (F : FunD K "_law_rounds" "_law_rounds" (defArgs s__law_rounds) (defBody s__law_rounds) (defScope s__law_rounds) [] [] f fd) (T : Tx K mg) (h__law_running : DefAt P w K mg base 1 "_law_running" (aLRun K)) (h__law_ending : DefAt P w K mg base 2 "_law_ending" (aLEnding K))  : FnOk P w K mg base (L2.CX P w) 3 f fd ["hall"] (conc K (aLRounds K)) := by
  refine def_ok F sc__law_rounds nm__law_rounds (fun es G KN KE ⟨_, _, e, _⟩ => by rw [e] <;> rfl) ?_
  rintro X F0 es G G2 KN KE rfl rfl rfl rfl rfl c hfn nm rz ⟨a, h, rfl, rfl, ok, q⟩
  have l1 := ok.l1
  have sm := ok.small
  show GSs X F0 _ [some (hlV a), none, none, none, none] (gHl X.K a h ++ G2) _
  refine xgss_cons (xgs_asg c hfn nm (.there .here) (xge_lst ?_) rfl rfl)
  refine xga_nil ?_
  refine ⟨Nat.le_of_ble_eq_true rfl, fun p => ?_⟩
  refine xgss_cons (xgs_forR1 c hfn nm (.there (.there .here)) .here T.mrange (xga_cons (xge_callB c nm (.there .here) T.mlen bt_len (xga_cons (xge_index (xge_nm c nm .here (xge_int ?_) rfl) (fun b_ _ _ => by cases b_ <;> exact rfl)) rfl) rfl rfl) rfl) rfl rfl)
  mi_spec "opIx 1"
  refine xga_nil ?_
  mi_spec "rl_len"
  refine xga_nil ?_
  -- stop: for
  refine ⟨_, rfl, ⟨by omega, by simp; omega⟩, ForR.chg (fun j => gl X.K p (dTs (roundsH h j)) :: (gHl X.K a (hallK h j) ++ G2)) (fun j ds' => ∃ o1 o2 o3, ds' = [some (hlV a), some (.raw (.ref p)), o1, o2, o3]) ⟨_, _, _, rfl⟩ (Ent.refl _) ?_ ?_⟩
  · rintro j ds' hj ⟨o1, o2, o3, rfl⟩
    rw [Int.zero_add]
    have hj1 : j < h.phases.length := by simpa using hj
    have ok1 := hallK_ok ok j
    have el := hallK_len h j
    have es := @roundsH_succ h j
    have er := @roundsH_len h j
    have ek : hallK h (j + 1) = endH (hallK h j) (runH (hallK h j)) := rfl
    rw [ek, es]
    generalize hallK h j = hk at ok1 el
    generalize roundsH h j = rs at er
    refine xgss_cons (xgs_asg c hfn nm (.there (.there (.there .here))) (GTE.freeze ?_) rfl rfl)
    refine xge_call c h__law_running (Nat.le_of_ble_eq_true rfl) nm (.there (.there .here)) (xga_cons (xge_nm c nm .here (xga_nil ?_) rfl) rfl) rfl rfl
    -- stop: call _law_running
    refine callK_all ⟨a.p0, a.p1, a.p2, a.p3, hk.phases, rfl, lst_own (by mi_spec "foc"), by omega, fun pr => ?_⟩
    refine ⟨_, _, _, rfl, by mi_spec "rem", ?_⟩
    have hrm : ∀ t, t ∈ runH hk → t < hk.phases.length := fun t ht => (phL_mem.mp ht).1
    rw [show phL hk.phases "running" hk.phases.length = runH hk from rfl]
    generalize runH hk = R at hrm
    refine xgss_cons (xgs_if (xgt_compare (xge_callB c nm (.there .here) T.mlen bt_len (xga_cons (xge_nm c nm (.there (.there (.there .here))) (xga_nil ?_) rfl) rfl) rfl rfl) (nm_Gt _)))
    mi_spec "rl_len"
    refine xge_int ?_
    mi_spec "opGt"
    refine kb ?_
    -- stop: if
    refine br ?_ ?_ <;> intro h4
    · refine xgss_cons (xgs_forL c hfn (.there (.there (.there (.there .here)))) (nm.loc (.there (.there (.there (.there .here)))) rfl) (xge_nm c nm (.there (.there (.there .here))) ?_ rfl) (fun _ => rfl))
      -- stop: for
      refine ⟨dInts R, ForL.chg (fun i => gl X.K p (dTs rs) :: (gHl X.K a (endH hk (R.take i)) ++ G2)) (fun i ds' => ∃ o3, ds' = [some (hlV a), some (.raw (.ref p)), some (.int (j : Int)), some (.lst (dInts R)), o3]) (fun i _ => lst_fr) ⟨_, rfl⟩ (by show Ent _ (gl X.K p (dTs rs) :: (gHl X.K a hk ++ G2)); mi_spec "entE") ?_ ?_⟩
      · rintro i y ds' hy ⟨o3, rfl⟩
        obtain ⟨t, ht, rfl⟩ := dInts_at hy
        have htl := hrm t (List.mem_of_getElem? ht)
        have e2 : endH hk (R.take (i + 1)) = (endH hk (R.take i)).fin t := by
          unfold endH
          rw [List.take_succ, ht, List.foldl_append]
          rfl
        rw [e2]
        have okk := endH_ok (R.take i) hk ok1
        have ell := endH_len (R.take i) hk
        generalize endH hk (R.take i) = hh at okk ell
        refine xgss_cons (xgs_expr (xge_call c h__law_ending (Nat.le_of_ble_eq_true rfl) nm (.there (.there (.there .here))) (xga_cons (xge_nm c nm .here (xga_cons (xge_nm c nm (.there (.there (.there (.there .here)))) (xga_nil ?_) rfl) rfl) rfl) rfl) rfl rfl) rfl)
        -- stop: call _law_ending
        refine ⟨gHl X.K a hh, _, by mi_spec "ent", a.p0, a.p1, a.p2, a.p3, hh, t, rfl, rfl, okk, by omega, fun pw => ?_⟩
        refine xgss_nil ?_
        exact ⟨⟨_, rfl⟩, by mi_spec "entE"⟩
      · rintro ds' G' ⟨o3, rfl⟩ en
        refine GTS.ent en ?_
        rw [show R.take (dInts R).length = R by rw [show (dInts R).length = R.length by simp, List.take_of_length_le (Nat.le_refl _)]]
        refine xgss_cons (xgs_expr (xge_bm PySem.F.plainAttrs_list PySem.F.slot_list_append PySem.F.type_list_append mt_append (xge_nm c nm (.there .here) ?_ rfl) rfl rfl rfl rfl rfl) rfl)
        mi_spec "opTy"
        refine xga_cons (xge_nm c nm (.there (.there (.there .here))) (xga_nil ?_) rfl) rfl
        mi_spec "rm_append"
        · simp; omega
        refine xgss_nil (xgss_nil ?_)
        exact ⟨⟨_, _, _, rfl⟩, by rw [if_pos (by simpa using h4)]; simp; mi_spec "entE"⟩
    · refine xgss_nil (xgss_nil ?_)
      have hR : R = [] := by
        cases R with
        | nil => rfl
        | cons x R => simp at h4
      subst hR
      exact ⟨⟨_, _, _, rfl⟩, by simp [endH]; mi_spec "entE"⟩
  · rintro ds' G' ⟨o1, o2, o3, rfl⟩ en
    refine GTS.ent en ?_
    rw [show ((dStrs h.phases).length : Int).toNat = h.phases.length by simp]
    refine xgss_cons (xgs_ret (xge_nm c nm (.there .here) ?_ rfl))
    exact ⟨gl X.K p (dTs (roundsH h h.phases.length)) :: gHl X.K a (hallK h h.phases.length), by mi_spec "entE", q p⟩
end
section
variable {P : Program} {w : World} {K : PySem.W.Frag} {mg : Str → Option Value} {base : Heap}
def due0 (ph : List Str) (j : Nat) : List (Option Nat) := (List.range ph.length).map fun i => if i < j ∧ ph.getD i ⟨#[]⟩ = ("ended" : Str) then some 0 else none
def setAll (due : List (Option Nat)) (k : Nat) (l : List Nat) : List (Option Nat) := l.foldl (fun d t => d.set t (some (k + 1))) due
def dueR (ph : List Str) (rs : List (List Nat)) (j : Nat) : List (Option Nat) := (List.range j).foldl (fun d k => setAll d k (rs.getD k [])) (due0 ph ph.length)
theorem setAll_len (l : List Nat) : ∀ (due : List (Option Nat)) (k : Nat), (setAll due k l).length = due.length := by
  induction l with
  | nil => exact fun _ _ => rfl
  | cons x l ih => exact fun due k => (ih _ k).trans (by simp)
theorem dueR_succ {ph : List Str} {rs : List (List Nat)} {j : Nat} : dueR ph rs (j + 1) = setAll (dueR ph rs j) j (rs.getD j []) := by
  unfold dueR
  rw [List.range_succ, List.foldl_append]
  rfl
theorem dueR_len {ph : List Str} {rs : List (List Nat)} : ∀ j, (dueR ph rs j).length = ph.length
  | 0 => by simp [dueR, due0]
  | j + 1 => by rw [dueR_succ, setAll_len, dueR_len j]
theorem due0_zero {ph : List Str} : (List.replicate ph.length [D.non]).flatten = dOpts (due0 ph 0) := by
  unfold due0
  have : ∀ n, (List.replicate n [D.non]).flatten = (List.range n).map fun _ => D.non := by
    intro n
    induction n with
    | zero => rfl
    | succ n ih => rw [List.replicate_succ', List.flatten_append, ih, List.range_succ, List.map_append]; rfl
  rw [this]
  unfold dOpts
  rw [List.map_map]
  refine List.map_congr_left fun i _ => ?_
  simp [optD]
theorem due0_succ {ph : List Str} {j : Nat} (hj : j < ph.length) : due0 ph (j + 1) = if ph.getD j ⟨#[]⟩ = ("ended" : Str) then (due0 ph j).set j (some 0) else due0 ph j := by
  unfold due0
  split
  · rename_i h
    refine List.ext_getElem (by simp) fun i h1 h2 => ?_
    rw [List.getElem_set]
    simp only [List.getElem_map, List.getElem_range]
    by_cases e : j = i
    · subst e
      rw [if_pos rfl, if_pos ⟨by omega, h⟩]
    · rw [if_neg e]
      by_cases e2 : ph.getD i ⟨#[]⟩ = ("ended" : Str)
      · by_cases e3 : i < j
        · rw [if_pos ⟨by omega, e2⟩, if_pos ⟨e3, e2⟩]
        · rw [if_neg (by omega), if_neg (fun q => e3 q.1)]
      · rw [if_neg (fun q => e2 q.2), if_neg (fun q => e2 q.2)]
  · rename_i h
    refine List.map_congr_left fun i _ => ?_
    by_cases e2 : ph.getD i ⟨#[]⟩ = ("ended" : Str)
    · have : i ≠ j := fun e => h (e ▸ e2)
      by_cases e3 : i < j
      · rw [if_pos ⟨by omega, e2⟩, if_pos ⟨e3, e2⟩]
      · rw [if_neg (by omega), if_neg (fun q => e3 q.1)]
    · rw [if_neg (fun q => e2 q.2), if_neg (fun q => e2 q.2)]
abbrev aLDelays (K : PySem.W.Frag) : ASp := fun es G KN _ => ∃ p0 p1 p2 p3 d ph, ∃ rs : List (List Nat), es = [hallV p0 p1 p2 p3, d] ∧ LstAt K G (.raw (.ref p1)) (dStrs ph) ∧ LstAt K G d (dTs rs) ∧ ph.length ≤ 200 ∧ rs.length ≤ 200 ∧ (∀ l ∈ rs, ∀ t ∈ l, t < ph.length) ∧ ∀ p, KN (.raw (.ref p)) (gl K p (dOpts (dueR ph rs rs.length)) :: G)
theorem ok_ldelays {f : Addr} {fd : FuncData} (F : FunD K "_law_delays" "_law_delays" (defArgs s__law_delays) (defBody s__law_delays) (defScope s__law_delays) [] [] f fd) (T : Tx K mg)   : FnOk P w K mg base (L2.CX P w) 1 f fd ["hall", "rounds"] (conc K (aLDelays K)) := by
  refine def_ok F sc__law_delays nm__law_delays (fun es G KN KE ⟨_, _, _, _, _, _, _, e, _⟩ => by rw [e] <;> rfl) ?_
  rintro X F0 es G G2 KN KE rfl rfl rfl rfl rfl c hfn nm rz ⟨p0, p1, p2, p3, d, ph, rs, rfl, hp0, hd0, hpl, hrl, hin, q⟩
  show GSs X F0 _ [some (hallV p0 p1 p2 p3), some (d), none, none, none] (G ++ G2) _
  have hp : LstAt X.K (G ++ G2) (.raw (.ref p1)) (dStrs ph) := hp0.mono
  have hd : LstAt X.K (G ++ G2) d (dTs rs) := hd0.mono
  have el : (dStrs ph).length = ph.length := by simp
  refine xgss_cons (xgs_asg c hfn nm (.there (.there .here)) (xge_binop (GTE.freeze ?_)) rfl rfl)
  refine xge_lst ?_
  refine xga_cons (xge_non (xga_nil ?_)) rfl
  refine ⟨Nat.le_of_ble_eq_true rfl, fun l1 => ?_⟩
  refine ⟨_, _, _, rfl, by mi_spec "rem", ?_⟩
  refine xge_callB c nm .here T.mlen bt_len (xga_cons (xge_index (xge_nm c nm .here (xge_int ?_) rfl) (fun b_ _ _ => by cases b_ <;> exact rfl)) rfl) rfl rfl
  mi_spec "opIx 1"
  refine xga_nil ?_
  -- stop: len
  refine rl_len (Or.inl hp) ?_
  -- stop: man [None] * len(hall[1])
  refine rk_rep lst_fr (by omega) (by simp; omega) fun pd => ?_
  rw [show ((dStrs ph).length : Int).toNat = ph.length by simp, due0_zero]
  refine xgss_cons (xgs_forR1 c hfn nm (.there (.there (.there .here))) (.there .here) T.mrange (xga_cons (xge_callB c nm .here T.mlen bt_len (xga_cons (xge_index (xge_nm c nm .here (xge_int ?_) rfl) (fun b_ _ _ => by cases b_ <;> exact rfl)) rfl) rfl rfl) rfl) rfl rfl)
  mi_spec "opIx 1"
  refine xga_nil ?_
  -- stop: len
  refine rl_len (Or.inl hp.cons) ?_
  refine xga_nil ?_
  -- stop: for
  refine ⟨_, rfl, ⟨by omega, by omega⟩, ForR.chg (fun j => gl X.K pd (dOpts (due0 ph j)) :: (G ++ G2)) (fun j ds' => ∃ o1 o2, ds' = [some (hallV p0 p1 p2 p3), some d, some (.raw (.ref pd)), o1, o2]) ⟨_, _, rfl⟩ (Ent.refl _) ?_ ?_⟩
  · rintro j ds' hj ⟨o1, o2, rfl⟩
    rw [Int.zero_add]
    have hj1 : j < ph.length := by simpa using hj
    have dl : (due0 ph j).length = ph.length := by simp [due0]
    rw [due0_succ hj1]
    refine xgss_cons (xgs_if (xgt_compare (xge_index (xge_index (xge_nm c nm .here (xge_int ?_) rfl) (fun b_ _ _ => by cases b_ <;> exact rfl)) (fun b_ _ _ => by cases b_ <;> exact rfl)) (nm_Eq _)))
    mi_spec "opIx 1"
    refine xge_nm c nm (.there (.there (.there .here))) ?_ rfl
    -- stop: man hall[1][task]
    refine rk_ixL hp.cons (str_at hj1) ?_
    refine xge_str ?_
    mi_spec "opEq"
    refine kb ?_
    -- stop: if
    refine br ?_ ?_ <;> intro h3
    · refine xgss_cons (xgs_asgSub (xge_int (xge_nm c nm (.there (.there .here)) (xge_nm c nm (.there (.there (.there .here))) ?_ rfl) rfl)) (fun _ => rfl) rfl rfl rfl)
      -- stop: STOP store
      refine st_own (by mi_spec "foc") (nat_ix (by simp; omega)) ?_
      refine xgss_nil (xgss_nil ?_)
      rw [if_pos h3, show (dOpts (due0 ph j)).set j (D.int 0) = dOpts ((due0 ph j).set j (some 0)) by simp [List.map_set, optD]]
      exact ⟨⟨_, _, rfl⟩, Ent.refl _⟩
    · refine xgss_nil (xgss_nil ?_)
      rw [if_neg h3]
      exact ⟨⟨_, _, rfl⟩, Ent.refl _⟩
  · rintro ds' G' ⟨o1, o2, rfl⟩ en
    refine GTS.ent en ?_
    rw [show ((dStrs ph).length : Int).toNat = ph.length by simp]
    refine xgss_cons (xgs_forR1 c hfn nm (.there (.there (.there (.there .here)))) (.there .here) T.mrange (xga_cons (xge_callB c nm .here T.mlen bt_len (xga_cons (xge_nm c nm (.there .here) (xga_nil ?_) rfl) rfl) rfl rfl) rfl) rfl rfl)
    -- stop: len
    refine rl_len (Or.inl hd.cons) ?_
    refine xga_nil ?_
    -- stop: for
    refine ⟨_, rfl, ⟨by omega, by simp; omega⟩, ForR.chg (fun j => gl X.K pd (dOpts (dueR ph rs j)) :: (G ++ G2)) (fun j ds' => ∃ o1 o2, ds' = [some (hallV p0 p1 p2 p3), some d, some (.raw (.ref pd)), o1, o2]) ⟨_, _, rfl⟩ (Ent.refl _) ?_ ?_⟩
    · rintro j ds' hj ⟨o1, o2, rfl⟩
      rw [Int.zero_add]
      have hj1 : j < rs.length := by simpa using hj
      rw [dueR_succ]
      have dl := @dueR_len ph rs j
      have hmem : rs.getD j [] ∈ rs := by rw [List.getD_eq_getElem?_getD, List.getElem?_eq_getElem (by omega)]; exact List.getElem_mem _
      have hin2 := hin _ hmem
      have hat := ts_at (ts := rs) hj1
      generalize rs.getD j [] = l at hin2 hat
      generalize dueR ph rs j = due at dl
      refine xgss_cons (xgs_forL c hfn (.there (.there (.there .here))) (nm.loc (.there (.there (.there .here))) rfl) (xge_index (xge_nm c nm (.there .here) (xge_nm c nm (.there (.there (.there (.there .here)))) ?_ rfl) rfl) (fun b_ _ _ => by cases b_ <;> exact rfl)) (fun _ => rfl))
      -- stop: man rounds[k]
      refine rk_ixL hd.cons hat ?_
      -- stop: for
      refine ⟨dInts l, ForL.chg (fun i => gl X.K pd (dOpts (setAll due j (l.take i))) :: (G ++ G2)) (fun i ds' => ∃ o1, ds' = [some (hallV p0 p1 p2 p3), some d, some (.raw (.ref pd)), o1, some (.int (j : Int))]) (fun i _ => lst_fr) ⟨_, rfl⟩ (Ent.refl _) ?_ ?_⟩
      · rintro i y ds' hy ⟨o1, rfl⟩
        obtain ⟨t, ht, rfl⟩ := dInts_at hy
        have htl := hin2 t (List.mem_of_getElem? ht)
        have sl := setAll_len (l.take i) due j
        have es : setAll due j (l.take (i + 1)) = (setAll due j (l.take i)).set t (some (j + 1)) := by
          unfold setAll
          rw [List.take_succ, ht, List.foldl_append]
          rfl
        rw [es]
        generalize setAll due j (l.take i) = du at sl
        refine xgss_cons (xgs_asgSub (xge_binop (xge_nm c nm (.there (.there (.there (.there .here)))) (xge_int ?_) rfl)) (fun _ => rfl) rfl rfl rfl)
        mi_spec "opAdd"
        refine xge_nm c nm (.there (.there .here)) (xge_nm c nm (.there (.there (.there .here))) ?_ rfl) rfl
        -- stop: STOP store
        refine st_own (by mi_spec "foc") (nat_ix (by simp; omega)) ?_
        refine xgss_nil ?_
        rw [show (dOpts du).set t (D.int ((j : Int) + 1)) = dOpts (du.set t (some (j + 1))) by simp [List.map_set, optD]]
        exact ⟨⟨_, rfl⟩, Ent.refl _⟩
      · rintro ds' G' ⟨o1, rfl⟩ en
        refine GTS.ent en ?_
        rw [show l.take (dInts l).length = l by rw [show (dInts l).length = l.length by simp, List.take_of_length_le (Nat.le_refl _)]]
        refine xgss_nil ?_
        exact ⟨⟨_, _, rfl⟩, Ent.refl _⟩
    · rintro ds' G' ⟨o1, o2, rfl⟩ en
      refine GTS.ent en ?_
      rw [show ((dTs rs).length : Int).toNat = rs.length by simp]
      refine xgss_cons (xgs_ret (xge_nm c nm (.there (.there .here)) ?_ rfl))
      exact ⟨gl X.K pd (dOpts (dueR ph rs rs.length)) :: G, by mi_spec "entE", q pd⟩
end
section
variable {P : Program} {w : World} {K : PySem.W.Frag} {mg : Str → Option Value} {base : Heap}
abbrev aLCopied (K : PySem.W.Frag) : ASp := fun es G KN _ => ∃ a h, es = [hlV a] ∧ G = gHl K a h ∧ h.Ok ∧ ∀ a' : HallAd, KN (hlV a') (gHl K a' h ++ gHl K a h)
theorem GA_ent {X : Cx} {F0 : Hp} {es : List Expr} {ds : DS} {G G1 : Gs} {K : List D → Gs → Prop} (p : Ent G G1) (h : GA X F0 es ds G1 K) : GA X F0 es ds G K := fun σ F H Q a b c q => h σ F H Q a b (p.sat c) q
theorem ok_lcopied {f : Addr} {fd : FuncData} (F : FunD K "_law_copied" "_law_copied" (defArgs s__law_copied) (defBody s__law_copied) (defScope s__law_copied) [] [] f fd) (T : Tx K mg)   : FnOk P w K mg base (L2.CX P w) 1 f fd ["hall"] (conc K (aLCopied K)) := by
  refine def_ok F sc__law_copied nm__law_copied (fun es G KN KE ⟨_, _, e, _⟩ => by rw [e] <;> rfl) ?_
  rintro X F0 es G G2 KN KE rfl rfl rfl rfl rfl c hfn nm rz ⟨a, h, rfl, rfl, ok, q⟩
  have l1 := ok.l1
  have l2 := ok.l2
  have l3 := ok.l3
  have sm := ok.small
  show GSs X F0 _ [some (hlV a), none] (gHl X.K a h ++ G2) _
  refine xgss_cons (xgs_ret (GTE.freeze ?_))
  refine xge_lst ?_
  refine xga_cons (xge_callTy c nm .here T.mlist bt_list (xga_cons (xge_index (xge_nm c nm .here (xge_int ?_) rfl) (fun b_ _ _ => by cases b_ <;> exact rfl)) rfl) rfl rfl) rfl
  mi_spec "opIx 0"
  refine xga_nil ?_
  mi_spec "rl_list"
  refine fun l1 => ?_
  refine xga_cons (xge_callTy c nm .here T.mlist bt_list (xga_cons (xge_index (xge_nm c nm .here (xge_int ?_) rfl) (fun b_ _ _ => by cases b_ <;> exact rfl)) rfl) rfl rfl) rfl
  mi_spec "opIx 1"
  refine xga_nil ?_
  mi_spec "rl_list"
  refine fun l2 => ?_
  refine xga_cons (xge_lc c (lcOk_by (by decide +kernel)) (src_L (fun _ => rfl)) (by decide) (xgt_lcL c (.there .here) (xge_index (xge_nm c nm .here (xge_int ?_) rfl) (fun b_ _ _ => by cases b_ <;> exact rfl)))) rfl
  mi_spec "opIx 2"
  -- stop: comp [list(row) for row in hall[2]]
  refine ⟨_, lst_own (by mi_spec "foc"), LcL.same (fun j acc => acc = dTs (h.awaited.take j)) (lst_own (by mi_spec "foc")) rfl ?_ ?_⟩
  · rintro j y acc pp hy rfl
    obtain ⟨ts, ht, rfl⟩ : ∃ ts, h.awaited[j]? = some ts ∧ y = .lst (dInts ts) := by
      rw [List.getElem?_map] at hy
      cases e : h.awaited[j]? with
      | none => rw [e] at hy; cases hy
      | some ts => rw [e] at hy; exact ⟨ts, rfl, (Option.some.inj hy).symm⟩
    have hj : j < h.awaited.length := (List.getElem?_eq_some_iff.mp ht).1
    intro s H env fp fnv c'
    have vm := vmOk_of c' (Gn := ["list"]) (vis := [1]) (by decide +kernel)
    refine GTE.freeze ?_
    refine xge_callTy c' vm.gl_ .here T.mlist bt_list (xga_cons (xge_vm c' vm (.there .here) (xga_nil ?_) rfl) rfl) rfl rfl
    mi_spec "rl_list"
    refine fun l5 => ?_
    refine ⟨_, _, _, rfl, by mi_spec "rem", ?_⟩
    refine ⟨_, by mi_spec "entE", by simp; omega, ?_, Ent.refl _⟩
    rw [List.take_succ, ht]
    simp
  · rintro pp acc G' rfl en
    rw [show h.awaited.take (dTs h.awaited).length = h.awaited by rw [show (dTs h.awaited).length = h.awaited.length by simp, List.take_of_length_le (Nat.le_refl _)]]
    refine GA_ent (Ent.cons _ en) ?_
    refine xga_cons (xge_callTy c nm .here T.mlist bt_list (xga_cons (xge_index (xge_nm c nm .here (xge_int ?_) rfl) (fun b_ _ _ => by cases b_ <;> exact rfl)) rfl) rfl rfl) rfl
    mi_spec "opIx 3"
    refine xga_nil ?_
    mi_spec "rl_list"
    refine fun l3 => ?_
    refine xga_nil ?_
    refine ⟨Nat.le_of_ble_eq_true rfl, fun l4 => ?_⟩
    refine ⟨_, _, _, rfl, by mi_spec "rem", ?_⟩
    refine ⟨gHl X.K ⟨l1, l2, pp, l3⟩ h ++ gHl X.K a h, by mi_spec "entE", q ⟨l1, l2, pp, l3⟩⟩
end
section
variable {P : Program} {w : World} {K : PySem.W.Frag} {mg : Str → Option Value} {base : Heap}
/-- the runtime and the law's hall say the same -/
structure Rel (wd : Wd) (r : Rt) (h : Hall) : Prop where
  wok : wd.Ok
  rok : r.Ok
  hok : h.Ok
  reach : r.reach = wd.r
  cells : ∀ c, c ∈ r.S ↔ c ∈ wd.cs
  hands : r.hands = wd.o.getD everyF
  limit : r.limit = wd.l
  len : h.phases.length ≤ wd.l
  ph : r.st.phases = h.phases
  aw : r.st.awaited = h.awaited
  mo : r.st.modes = h.modes
  par : r.st.fam.parents = psOf h.births
  keys : ∀ ks ∈ r.st.held, ks.Nodup ∧ ∀ k ∈ ks, k < h.phases.length
  held : ∀ a b, a < h.phases.length → b < h.phases.length → (b ∈ r.st.held.getD a [] ↔ holdsF wd.o (partsOf (psOf h.births) a b) = true)
  phs : ∀ z ∈ h.phases, PhOk z
  bro : ∀ b ∈ r.st.fam.broods, b.length ≤ h.phases.length
  wn : ∀ o, o < h.phases.length → h.phases.getD o ⟨#[]⟩ = ("waiting" : Str) → overB (h.modes.getD o false) (h.awaited.getD o []) (endB h.phases) = false
abbrev Step : Prop := ∀ wd r h e, Rel wd r h → NextOk wd h (some e) → DeedOk r e ∧ Rel wd (r.deed e) (h.deed e) ∧ r.ans e = h.ans e
theorem deed_tup : ∀ e : Deed, ∃ xs : List D, e.d = .tup xs ∧ 2 ≤ xs.length
  | .bear t => ⟨_, rfl, by simp⟩
  | .fin t => ⟨_, rfl, by simp⟩
  | .wait m t ts => ⟨_, rfl, by simp⟩
theorem ans_plain {h : Hall} {d : D} : ∀ {e : Deed}, h.ans e = .inl d → Plain d
  | .bear t, q => by cases q; exact .inr (.inl ⟨_, rfl⟩)
  | .fin t, q => by cases q
  | .wait m t ts, q => by cases q; exact .inr (.inr (.inl ⟨_, rfl⟩))
theorem ans_len {h : Hall} {ns : List Nat} (ok : h.Ok) : ∀ {e : Deed}, h.ans e = .inr ns → ns.length ≤ 1000
  | .bear t, q => by cases q
  | .fin t, q => by
    cases q
    have l1 := ok.l1
    have sm := ok.small
    have : (h.woken t).length ≤ h.phases.length := Nat.le_trans (List.length_filter_le _ _) (by simp)
    omega
  | .wait m t ts, q => by cases q
abbrev aLPlayed (K : PySem.W.Frag) : ASp := fun es G KN _ => ∃ ps wd ar ah r h, ∃ many : Nat, es = [.raw (.ref ps), wdD wd, .raw (.ref (RtAd.p ar)), hlV ah, .int (many : Int)] ∧ G = gDraw K ps :: (gRt K ar r ++ gHl K ah h) ∧ Rel wd r h ∧ many ≤ 100 ∧ ∀ r' h', Rel wd r' h' → KN (.bl true) (gDraw K ps :: (gRt K ar r' ++ gHl K ah h'))
theorem ok_lplayed {f : Addr} {fd : FuncData} (F : FunD K "_law_played" "_law_played" (defArgs s__law_played) (defBody s__law_played) (defScope s__law_played) [] [] f fd) (T : Tx K mg) (h__law_next_deed : DefAt P w K mg base 4 "_law_next_deed" (aLNext K)) (h__law_same : DefAt P w K mg base 4 "_law_same" (aSame K 2)) (h_Runtime___call__ : SpecAt P w K mg base 7 (He.ga K "Runtime") "__call__" (aRCallD K)) (h__law_effect : DefAt P w K mg base 3 "_law_effect" (aLEffect K)) (stp : Step) : FnOk P w K mg base (L2.CX P w) 8 f fd ["state", "world", "runtime", "hall", "many"] (conc K (aLPlayed K)) := by
  refine def_ok F sc__law_played nm__law_played (fun es G KN KE ⟨_, _, _, _, _, _, _, e, _⟩ => by rw [e] <;> rfl) ?_
  rintro X F0 es G G2 KN KE rfl rfl rfl rfl rfl c hfn nm rz ⟨ps, wd, ar, ah, r, h, many, rfl, rfl, rl, hm, q⟩
  show GSs X F0 _ [some (.raw (.ref ps)), some (wdD wd), some (.raw (.ref ar.p)), some (hlV ah), some (.int (many : Int)), none, none] (gDraw X.K ps :: (gRt X.K ar r ++ gHl X.K ah h) ++ G2) _
  simp only [gRt, List.cons_append, List.nil_append, List.append_assoc]
  refine xgss_cons (xgs_forR1 c hfn nm (.there (.there (.there (.there (.there .here))))) .here T.mrange (xga_cons (xge_nm c nm (.there (.there (.there (.there .here)))) (xga_nil ?_) rfl) rfl) rfl rfl)
  -- stop: for
  refine ⟨_, rfl, ⟨by omega, by omega⟩, fun j ds' G' => ∃ r' h', Rel wd r' h' ∧ (∃ o1 o2, ds' = [some (.raw (.ref ps)), some (wdD wd), some (.raw (.ref ar.p)), some (hlV ah), some (.int (many : Int)), o1, o2]) ∧ Ent G' (gDraw X.K ps :: (gRt X.K ar r' ++ gHl X.K ah h' ++ G2)), ⟨r, h, rl, ⟨_, _, rfl⟩, by mi_spec "entE"⟩, ?_, ?_⟩
  · rintro j ds' G' hj ⟨r', h', rl', ⟨o1, o2, rfl⟩, en⟩
    refine GTS.ent en ?_
    rw [Int.zero_add]
    refine xgss_cons (xgs_asg c hfn nm (.there (.there (.there (.there (.there (.there .here)))))) (xge_call c h__law_next_deed (Nat.le_of_ble_eq_true rfl) nm (.there .here) (xga_cons (xge_nm c nm .here (xga_cons (xge_nm c nm (.there .here) (xga_cons (xge_nm c nm (.there (.there (.there .here))) (xga_cons (xge_nm c nm (.there (.there (.there (.there (.there .here))))) (xga_nil ?_) rfl) rfl) rfl) rfl) rfl) rfl) rfl) rfl) rfl rfl) rfl rfl)
    -- stop: call _law_next_deed
    refine ⟨gDraw X.K ps :: gHl X.K ah h', _, by mi_spec "ent", ps, wd, ah, h', j, rfl, rfl, rl'.wok, rl'.hok, by omega, fun e nx => ?_⟩
    cases e with
    | none =>
      refine xgss_cons (xgs_if (xgt_of_w (xgw_and (xgt_compare (xge_callB c nm (.there (.there .here)) T.mlen bt_len (xga_cons (xge_nm c nm (.there (.there (.there (.there (.there (.there .here)))))) (xga_nil ?_) rfl) rfl) rfl rfl) (nm_Gt _)))))
      -- stop: len
      refine rl_len (xs := []) (Or.inr tup_fr) ?_
      refine xge_int ?_
      mi_spec "opGt"
      refine kb ?_
      -- stop: br xgw_and
      refine brNo (by decide) (brF (xgss_nil (xgss_nil ?_)))
      exact ⟨r', h', rl', ⟨_, _, rfl⟩, by mi_spec "entE"⟩
    | some e =>
      obtain ⟨dk, rl2, ea⟩ := stp wd r' h' e rl' nx
      obtain ⟨xs, ex, hxl⟩ := deed_tup e
      cases e2 : h'.ans e with
      | inl d =>
        refine xgss_cons (xgs_if (xgt_of_w (xgw_and (xgt_compare (xge_callB c nm (.there (.there .here)) T.mlen bt_len (xga_cons (xge_nm c nm (.there (.there (.there (.there (.there (.there .here)))))) (xga_nil ?_) rfl) rfl) rfl rfl) (nm_Gt _)))))
        -- stop: len
        refine rl_len (xs := xs) (Or.inr (by rw [show nextD (some e) = .tup xs from ex]; exact tup_fr)) ?_
        refine xge_int ?_
        mi_spec "opGt"
        refine kb ?_
        -- stop: br xgw_and
        refine brY (by omega) ?_
        refine xgw_and1 (xgt_not (xgt_tru (fun _ => rfl) (xge_call c h__law_same (Nat.le_of_ble_eq_true rfl) nm (.there (.there (.there .here))) (xga_cons (xge_callO c h_Runtime___call__ (Nat.le_of_ble_eq_true rfl) (xge_nm c nm (.there (.there .here)) ?_ rfl) rfl rfl rfl) rfl) rfl rfl)))
        mi_spec "opInsP"
        refine xga_cons (xge_nm c nm (.there (.there (.there (.there (.there (.there .here)))))) (xga_nil ?_) rfl) rfl
        mi_spec "opInsP"
        -- stop: call Runtime
        refine ⟨gRt X.K ar r', _, by mi_spec "ent", ar, r', e, rfl, rfl, rl'.rok, dk, ?_⟩
        rw [ea, e2]
        refine xga_cons (xge_call c h__law_effect (Nat.le_of_ble_eq_true rfl) nm (.there (.there (.there (.there .here)))) (xga_cons (xge_nm c nm (.there (.there (.there .here))) (xga_cons (xge_nm c nm (.there (.there (.there (.there (.there (.there .here)))))) (xga_nil ?_) rfl) rfl) rfl) rfl) rfl rfl) rfl
        -- stop: call _law_effect
        refine ⟨gHl X.K ah h', _, by mi_spec "ent", wd, ah, h', e, rfl, rfl, rl'.hok, nx, ?_⟩
        rw [e2]
        refine xga_nil ?_
        -- stop: call _law_same
        refine callK_all ⟨d, d, rfl, .inl ⟨rfl, ans_plain e2⟩, ?_⟩
        mi_spec "opTru"
        -- stop: if
        refine brQ0 rfl (xgss_nil (xgss_nil ?_))
        exact ⟨_, _, rl2, ⟨_, _, rfl⟩, by mi_spec "entE"⟩
      | inr ns =>
        refine xgss_cons (xgs_if (xgt_of_w (xgw_and (xgt_compare (xge_callB c nm (.there (.there .here)) T.mlen bt_len (xga_cons (xge_nm c nm (.there (.there (.there (.there (.there (.there .here)))))) (xga_nil ?_) rfl) rfl) rfl rfl) (nm_Gt _)))))
        -- stop: len
        refine rl_len (xs := xs) (Or.inr (by rw [show nextD (some e) = .tup xs from ex]; exact tup_fr)) ?_
        refine xge_int ?_
        mi_spec "opGt"
        refine kb ?_
        -- stop: br xgw_and
        refine brY (by omega) ?_
        refine xgw_and1 (xgt_not (xgt_tru (fun _ => rfl) (xge_call c h__law_same (Nat.le_of_ble_eq_true rfl) nm (.there (.there (.there .here))) (xga_cons (xge_callO c h_Runtime___call__ (Nat.le_of_ble_eq_true rfl) (xge_nm c nm (.there (.there .here)) ?_ rfl) rfl rfl rfl) rfl) rfl rfl)))
        mi_spec "opInsP"
        refine xga_cons (xge_nm c nm (.there (.there (.there (.there (.there (.there .here)))))) (xga_nil ?_) rfl) rfl
        mi_spec "opInsP"
        -- stop: call Runtime
        refine ⟨gRt X.K ar r', _, by mi_spec "ent", ar, r', e, rfl, rfl, rl'.rok, dk, ?_⟩
        rw [ea, e2]
        refine fun p1 => ?_
        refine xga_cons (xge_call c h__law_effect (Nat.le_of_ble_eq_true rfl) nm (.there (.there (.there (.there .here)))) (xga_cons (xge_nm c nm (.there (.there (.there .here))) (xga_cons (xge_nm c nm (.there (.there (.there (.there (.there (.there .here)))))) (xga_nil ?_) rfl) rfl) rfl) rfl) rfl rfl) rfl
        -- stop: call _law_effect
        refine ⟨gHl X.K ah h', _, by mi_spec "ent", wd, ah, h', e, rfl, rfl, rl'.hok, nx, ?_⟩
        rw [e2]
        refine fun p2 => ?_
        refine xga_nil ?_
        -- stop: call _law_same
        refine callK_all ⟨_, _, rfl, same_ints (ns := ns) (.inr ⟨_, rfl⟩) (lst_own (by mi_spec "foc")) (lst_own (by mi_spec "foc")) (ans_len rl'.hok e2), ?_⟩
        mi_spec "opTru"
        -- stop: if
        refine brQ0 rfl (xgss_nil (xgss_nil ?_))
        exact ⟨_, _, rl2, ⟨_, _, rfl⟩, by mi_spec "entE"⟩
  · rintro ds' G' ⟨r', h', rl', ⟨o1, o2, rfl⟩, en⟩
    refine GTS.ent en ?_
    refine xgss_cons (xgs_ret (xge_bl ?_))
    exact ⟨gDraw X.K ps :: (gRt X.K ar r' ++ gHl X.K ah h'), by mi_spec "entE", q r' h' rl'⟩
end
section
variable {P : Program} {w : World} {K : PySem.W.Frag} {mg : Str → Option Value} {base : Heap}
/-- what the ends of all tasks give -/
structure Ends (r : Rt) (h : Hall) (k : Nat) : Prop where
  go : ∀ i, i < k → runs (stK r.st i) ≠ []
  stop : runs (stK r.st k) = []
  del : DelOk r.st.phases r.st.awaited r.st.modes
  due : numsN r.st.phases r.st.awaited r.st.modes (r.st.phases.length + 1) = dueR h.phases (roundsH h h.phases.length) (roundsH h h.phases.length).length
  rounds : roundsK r.st k = roundsH h h.phases.length
  ph : (stK r.st k).phases = (hallK h h.phases.length).phases
  aw : (stK r.st k).awaited = (hallK h h.phases.length).awaited
  del2 : DelOk (stK r.st k).phases (stK r.st k).awaited (stK r.st k).modes
  left : numsN (stK r.st k).phases (stK r.st k).awaited (stK r.st k).modes ((stK r.st k).phases.length + 1) = (dueR h.phases (roundsH h h.phases.length) (roundsH h h.phases.length).length).map (Option.map fun _ => 0)
abbrev EndsAll : Prop := ∀ wd r h, Rel wd r h → ∃ k, Ends r h k
abbrev StartRel : Prop := ∀ wd S, Wd.Ok wd → (∀ c, c ∈ S ↔ c ∈ wd.cs) → S.length ≤ 300 → Rel wd ⟨wd.r, S, wd.o.getD everyF, wd.l, St.zero⟩ ⟨[], ["running"], [[]], [false]⟩
theorem same_opts {K : PySem.W.Frag} {G : Gs} {n : Nat} {d e : D} {ns : List (Option Nat)} (il : IsL e) (h1 : LstAt K G d (dOpts ns)) (h2 : LstAt K G e (dOpts ns)) (hl : ns.length ≤ 1000) : SameD K G (n + 1) d e := .inr ⟨_, _, il, h1, h2, rfl, by simpa using hl, fun i x y hx hy => by
  rw [hx] at hy
  cases hy
  have pl : Plain x := by
    rw [List.getElem?_map] at hx
    cases e : ns[i]? with
    | none => rw [e] at hx; cases hx
    | some o =>
      rw [e] at hx
      cases hx
      cases o with
      | none => exact .inl rfl
      | some m => exact .inr (.inl ⟨_, rfl⟩)
  cases n with
  | zero => exact ⟨rfl, pl⟩
  | succ n => exact .inl ⟨rfl, pl⟩⟩
theorem same_tss {K : PySem.W.Frag} {G : Gs} {d e : D} {ns : List (List Nat)} (il : IsL e) (h1 : LstAt K G d (dTs ns)) (h2 : LstAt K G e (dTs ns)) (hl : ns.length ≤ 1000) (hs : ∀ l ∈ ns, l.length ≤ 1000) : SameD K G 2 d e := .inr ⟨_, _, il, h1, h2, rfl, by simpa using hl, fun i x y hx hy => by
  rw [hx] at hy
  cases hy
  rw [List.getElem?_map] at hx
  cases e : ns[i]? with
  | none => rw [e] at hx; cases hx
  | some l =>
    rw [e] at hx
    cases hx
    exact same_ints (n := 0) (.inl ⟨_, rfl⟩) lst_fr lst_fr (hs l (List.mem_of_getElem? e))⟩
abbrev aLaw (K : PySem.W.Frag) : ASp := fun es G KN _ => ∃ d ns, es = [d] ∧ ScrAt K G d (List.map D.int ns) ∧ ns.length ≤ 63 ∧ KN (.bl true) G
theorem ok_law {f : Addr} {fd : FuncData} (F : FunD K "law" "law" (defArgs s_law) (defBody s_law) (defScope s_law) [] [] f fd) (T : Tx K mg) (h__law_start : DefAt P w K mg base 1 "_law_start" (aStart K)) (h__law_world : DefAt P w K mg base 3 "_law_world" (aLWorld K)) (h__law_stage : DefAt P w K mg base 11 "_law_stage" (aLStage K)) (h__law_hall : DefAt P w K mg base 1 "_law_hall" (aLHall K)) (h__law_played : DefAt P w K mg base 8 "_law_played" (aLPlayed K)) (h__law_draw : DefAt P w K mg base 1 "_law_draw" (aDraw K)) (h__law_copied : DefAt P w K mg base 1 "_law_copied" (aLCopied K)) (h__law_rounds : DefAt P w K mg base 3 "_law_rounds" (aLRounds K)) (h__law_delays : DefAt P w K mg base 1 "_law_delays" (aLDelays K)) (h_task_delays : DefAt P w K mg base 3 "task_delays" (aTaskDelays K)) (h__law_same : DefAt P w K mg base 4 "_law_same" (aSame K 2)) (h__law_stands : DefAt P w K mg base 5 "_law_stands" (aLStands K)) (h_end_in_rounds : DefAt P w K mg base 4 "end_in_rounds" (aEndRounds K)) (h_Runtime_running : PropAt P w K mg base 2 (He.ga K "Runtime") "running" (aRunning K)) (stp : Step) (ends : EndsAll) (stt : StartRel) : FnOk P w K mg base (L2.CX P w) 12 f fd ["script"] (conc K (aLaw K)) := by
  refine def_ok F sc_law nm_law (fun es G KN KE ⟨_, _, e, _⟩ => by rw [e] <;> rfl) ?_
  rintro X F0 es G G2 KN KE rfl rfl rfl rfl rfl c hfn nm rz ⟨d, ns, rfl, hd, hl, q⟩
  show GSs X F0 _ [some (d), none, none, none, none, none, none, none, none, none, none] (G ++ G2) _
  have hd' : ScrAt X.K (G ++ G2) d (List.map D.int ns) := hd.mono
  refine xgss_cons (xgs_asg c hfn nm (.there .here) (xge_call c h__law_start (Nat.le_of_ble_eq_true rfl) nm .here (xga_cons (xge_nm c nm .here (xga_nil ?_) rfl) rfl) rfl rfl) rfl rfl)
  -- stop: call _law_start
  refine callK_all ⟨d, ns, rfl, hd', hl, fun ps => ?_⟩
  refine xgss_cons (xgs_asg c hfn nm (.there (.there .here)) (xge_call c h__law_world (Nat.le_of_ble_eq_true rfl) nm (.there .here) (xga_cons (xge_nm c nm (.there .here) (xga_nil ?_) rfl) rfl) rfl rfl) rfl rfl)
  -- stop: call _law_world
  refine ⟨[gDraw X.K ps], _, by mi_spec "ent", ps, rfl, rfl, fun wd wok => ?_⟩
  refine xgss_cons (xgs_asg c hfn nm (.there (.there (.there .here))) (xge_call c h__law_stage (Nat.le_of_ble_eq_true rfl) nm (.there (.there .here)) (xga_cons (xge_nm c nm (.there (.there .here)) (xga_nil ?_) rfl) rfl) rfl rfl) rfl rfl)
  -- stop: call _law_stage
  refine CallK.frame ⟨wd, rfl, rfl, wok, fun ar S hS hSl => ?_⟩
  refine xgss_cons (xgs_asg c hfn nm (.there (.there (.there (.there .here)))) (xge_call0 c h__law_hall (Nat.le_of_ble_eq_true rfl) nm (.there (.there (.there .here))) ?_) rfl rfl)
  -- stop: call _law_hall
  refine CallK.frame ⟨rfl, rfl, fun p0 p1 p2 p3 => ?_⟩
  obtain ⟨ah, e0, e1, e2, e3⟩ : ∃ ah : HallAd, ah.p0 = p0 ∧ ah.p1 = p1 ∧ ah.p2 = p2 ∧ ah.p3 = p3 := ⟨⟨p0, p1, p2, p3⟩, rfl, rfl, rfl, rfl⟩
  subst e0 e1 e2 e3
  have rl0 := stt wd S wok hS hSl
  refine xgss_cons (xgs_if (xgt_not (xgt_tru (fun _ => rfl) (xge_call c h__law_played (Nat.le_of_ble_eq_true rfl) nm (.there (.there (.there (.there .here)))) (xga_cons (xge_nm c nm (.there .here) (xga_cons (xge_nm c nm (.there (.there .here)) (xga_cons (xge_nm c nm (.there (.there (.there .here))) (xga_cons (xge_nm c nm (.there (.there (.there (.there .here)))) (xga_cons (xge_binop (xge_int (xge_call c h__law_draw (Nat.le_of_ble_eq_true rfl) nm (.there (.there (.there (.there (.there .here))))) (xga_cons (xge_nm c nm (.there .here) (xga_cons (xge_int (xga_nil ?_)) rfl) rfl) rfl) rfl rfl))) rfl) rfl) rfl) rfl) rfl) rfl) rfl) rfl) rfl) rfl rfl))))
  -- stop: call _law_draw
  refine ⟨[gDraw X.K ps], _, by mi_spec "ent", ps, 15, rfl, rfl, by decide, by decide, fun v hv => ?_⟩
  mi_spec "opAdd"
  refine xga_nil ?_
  -- stop: call _law_played
  rw [show (6 : Int) + (v : Int) = ((v + 6 : Nat) : Int) by omega]
  refine ⟨gDraw X.K ps :: (gRt X.K ar ⟨wd.r, S, wd.o.getD everyF, wd.l, St.zero⟩ ++ gHl X.K ah ⟨[], ["running"], [[]], [false]⟩), _, by mi_spec "ent", ps, wd, ar, ah, _, _, v + 6, rfl, rfl, rl0, by omega, fun r h rl => ?_⟩
  mi_spec "opTru"
  -- stop: if
  refine brQ0 rfl (xgss_nil ?_)
  have ok := rl.hok
  have l1 := ok.l1
  have sm := ok.small
  obtain ⟨k, en⟩ := ends wd r h rl
  refine xgss_cons (xgs_asg c hfn nm (.there (.there (.there (.there (.there .here))))) (xge_call c h__law_copied (Nat.le_of_ble_eq_true rfl) nm (.there (.there (.there (.there (.there (.there .here)))))) (xga_cons (xge_nm c nm (.there (.there (.there (.there .here)))) (xga_nil ?_) rfl) rfl) rfl rfl) rfl rfl)
  -- stop: call _law_copied
  refine ⟨gHl X.K ah h, _, by mi_spec "ent", ah, h, rfl, rfl, ok, fun a2 => ?_⟩
  refine xgss_cons (xgs_asg c hfn nm (.there (.there (.there (.there (.there (.there .here)))))) (xge_call c h__law_rounds (Nat.le_of_ble_eq_true rfl) nm (.there (.there (.there (.there (.there (.there (.there .here))))))) (xga_cons (xge_nm c nm (.there (.there (.there (.there (.there .here))))) (xga_nil ?_) rfl) rfl) rfl rfl) rfl rfl)
  -- stop: call _law_rounds
  refine ⟨gHl X.K a2 h, _, by mi_spec "ent", a2, h, rfl, rfl, ok, fun pR => ?_⟩
  refine GTS.ent (G1 := gl X.K pR (dTs (roundsH h h.phases.length)) :: (gHl X.K a2 (hallK h h.phases.length) ++ (gHl X.K ah h ++ (gDraw X.K ps :: (gRt X.K ar r ++ (G ++ G2)))))) (Ent.refl _) ?_
  refine xgss_cons (xgs_asg c hfn nm (.there (.there (.there (.there (.there (.there (.there .here))))))) (xge_call c h__law_delays (Nat.le_of_ble_eq_true rfl) nm (.there (.there (.there (.there (.there (.there (.there (.there .here)))))))) (xga_cons (xge_nm c nm (.there (.there (.there (.there .here)))) (xga_cons (xge_nm c nm (.there (.there (.there (.there (.there (.there .here)))))) (xga_nil ?_) rfl) rfl) rfl) rfl) rfl rfl) rfl rfl)
  -- stop: call _law_delays
  have hin : ∀ l ∈ roundsH h h.phases.length, ∀ t ∈ l, t < h.phases.length := fun l hl t ht => by
    obtain ⟨i, _, rfl⟩ := List.mem_map.mp (List.mem_filter.mp hl).1
    have := (phL_mem.mp ht).1
    rwa [hallK_len] at this
  have rlen := @roundsH_len h h.phases.length
  refine callK_all ⟨ah.p0, ah.p1, ah.p2, ah.p3, _, h.phases, roundsH h h.phases.length, rfl, lst_own (by mi_spec "foc"), lst_own (by mi_spec "foc"), by omega, by omega, hin, fun pd => ?_⟩
  refine xgss_cons (xgs_asg c hfn nm (.there (.there (.there (.there (.there (.there (.there (.there .here)))))))) (xge_call c h_task_delays (Nat.le_of_ble_eq_true rfl) nm (.there (.there (.there (.there (.there (.there (.there (.there (.there .here))))))))) (xga_cons (xge_nm c nm (.there (.there (.there .here))) (xga_nil ?_) rfl) rfl) rfl rfl) rfl rfl)
  -- stop: call task_delays
  refine ⟨gRtx X.K ar r, _, by mi_spec "ent", ar, r, rfl, rfl, en.del, fun pt => ?_⟩
  rw [en.due]
  refine xgss_cons (xgs_if (xgt_of_w (xgw_or (xgt_not (xgt_tru (fun _ => rfl) (xge_call c h__law_same (Nat.le_of_ble_eq_true rfl) nm (.there (.there (.there (.there (.there (.there (.there (.there (.there (.there .here)))))))))) (xga_cons (xge_nm c nm (.there (.there (.there (.there (.there (.there (.there (.there .here)))))))) (xga_cons (xge_nm c nm (.there (.there (.there (.there (.there (.there (.there .here))))))) (xga_nil ?_) rfl) rfl) rfl) rfl) rfl rfl))))))
  -- stop: call _law_same
  have dlen := @dueR_len h.phases (roundsH h h.phases.length) (roundsH h h.phases.length).length
  refine callK_all ⟨_, _, rfl, same_opts (ns := dueR h.phases (roundsH h h.phases.length) (roundsH h h.phases.length).length) (.inr ⟨_, rfl⟩) (lst_own (by mi_spec "foc")) (lst_own (by mi_spec "foc")) (by omega), ?_⟩
  mi_spec "opTru"
  -- stop: br xgw_or
  refine brQ0 rfl ?_
  refine xgw_or1 (xgt_not (xgt_tru (fun _ => rfl) (xge_call c h__law_stands (Nat.le_of_ble_eq_true rfl) nm (.there (.there (.there (.there (.there (.there (.there (.there (.there (.there (.there .here))))))))))) (xga_cons (xge_nm c nm (.there (.there (.there .here))) (xga_cons (xge_nm c nm (.there (.there (.there (.there .here)))) (xga_nil ?_) rfl) rfl) rfl) rfl) rfl rfl)))
  -- stop: call _law_stands
  refine ⟨gRt X.K ar r ++ gHl X.K ah h, _, by mi_spec "ent", ar, ah, r, h, rfl, rfl, ok, rl.ph, rl.aw, ?_⟩
  mi_spec "opTru"
  -- stop: if
  refine brQ0 rfl (xgss_nil ?_)
  obtain ⟨DU, hDU⟩ : ∃ x, dueR h.phases (roundsH h h.phases.length) (roundsH h h.phases.length).length = x := ⟨_, rfl⟩
  have edue := en.due
  have eleft := en.left
  rw [hDU] at dlen edue eleft ⊢
  refine GTS.ent (G1 := gl X.K pt (dOpts DU) :: gl X.K pd (dOpts DU) :: gl X.K pR (dTs (roundsH h h.phases.length)) :: (gHl X.K a2 (hallK h h.phases.length) ++ (gHl X.K ah h ++ (gDraw X.K ps :: (gRt X.K ar r ++ (G ++ G2)))))) (by mi_spec "entE") ?_
  refine xgss_cons (xgs_expr (xge_bm PySem.F.plainAttrs_list PySem.F.slot_list_append PySem.F.type_list_append mt_append (xge_nm c nm (.there (.there (.there (.there (.there (.there (.there (.there .here)))))))) ?_ rfl) rfl rfl rfl rfl rfl) rfl)
  mi_spec "opTy"
  refine xga_cons (xge_int (xga_nil ?_)) rfl
  mi_spec "rm_append"
  · simp; omega
  obtain ⟨x0, xs0, e0⟩ : ∃ x xs, dOpts DU ++ [D.int 0] = x :: xs := by
    cases h9 : dOpts DU ++ [D.int 0] with
    | nil => simp at h9
    | cons x xs => exact ⟨x, xs, rfl⟩
  rw [e0]
  refine xgss_cons (xgs_asgSub (xge_non (xge_nm c nm (.there (.there (.there (.there (.there (.there (.there (.there .here)))))))) (xge_int ?_) rfl)) (fun _ => rfl) rfl rfl rfl)
  mi_spec "opSt 0"
  refine xgss_cons (xgs_if (xgt_not (xgt_tru (fun _ => rfl) (xge_call c h__law_same (Nat.le_of_ble_eq_true rfl) nm (.there (.there (.there (.there (.there (.there (.there (.there (.there (.there .here)))))))))) (xga_cons (xge_call c h_task_delays (Nat.le_of_ble_eq_true rfl) nm (.there (.there (.there (.there (.there (.there (.there (.there (.there .here))))))))) (xga_cons (xge_nm c nm (.there (.there (.there .here))) (xga_nil ?_) rfl) rfl) rfl rfl) rfl) rfl rfl))))
  -- stop: call task_delays
  refine ⟨gRtx X.K ar r, _, by mi_spec "ent", ar, r, rfl, rfl, en.del, fun pt2 => ?_⟩
  refine xga_cons (xge_nm c nm (.there (.there (.there (.there (.there (.there (.there .here))))))) (xga_nil ?_) rfl) rfl
  -- stop: call _law_same
  rw [edue]
  refine callK_all ⟨_, _, rfl, same_opts (ns := DU) (.inr ⟨_, rfl⟩) (lst_own (by mi_spec "foc")) (lst_own (by mi_spec "foc")) (by omega), ?_⟩
  mi_spec "opTru"
  -- stop: if
  refine brQ0 rfl (xgss_nil ?_)
  refine GTS.ent (G1 := gl X.K pd (dOpts DU) :: gl X.K pR (dTs (roundsH h h.phases.length)) :: (gHl X.K a2 (hallK h h.phases.length) ++ (gHl X.K ah h ++ (gDraw X.K ps :: (gRt X.K ar r ++ (G ++ G2)))))) (by mi_spec "entE") ?_
  refine xgss_cons (xgs_if (xgt_of_w (xgw_or (xgt_not (xgt_tru (fun _ => rfl) (xge_call c h__law_same (Nat.le_of_ble_eq_true rfl) nm (.there (.there (.there (.there (.there (.there (.there (.there (.there (.there .here)))))))))) (xga_cons (xge_call c h_end_in_rounds (Nat.le_of_ble_eq_true rfl) nm (.there (.there (.there (.there (.there (.there (.there (.there (.there (.there (.there (.there .here)))))))))))) (xga_cons (xge_nm c nm (.there (.there (.there .here))) (xga_nil ?_) rfl) rfl) rfl rfl) rfl) rfl rfl))))))
  -- stop: call end_in_rounds
  refine ⟨gRtx X.K ar r, _, by mi_spec "ent", ar, r, rfl, rfl, rl.rok.st, fun k' g' s' p5 => ?_⟩
  have ek : k' = k := by
    rcases Nat.lt_trichotomy k' k with h1 | h1 | h1
    · exact absurd s' (en.go k' h1)
    · exact h1
    · exact absurd en.stop (g' k h1)
  subst ek
  rw [en.rounds]
  refine xga_cons (xge_nm c nm (.there (.there (.there (.there (.there (.there .here)))))) (xga_nil ?_) rfl) rfl
  -- stop: call _law_same
  have hrl : ∀ l ∈ roundsH h h.phases.length, l.length ≤ 1000 := fun l hl => by
    obtain ⟨i, _, rfl⟩ := List.mem_map.mp (List.mem_filter.mp hl).1
    have := @phL_len (hallK h i).phases "running" (hallK h i).phases.length
    have e2 := hallK_len h i
    unfold runH
    omega
  refine callK_all ⟨_, _, rfl, same_tss (ns := roundsH h h.phases.length) (.inr ⟨_, rfl⟩) (lst_own (by mi_spec "foc")) (lst_own (by mi_spec "foc")) (by omega) hrl, ?_⟩
  mi_spec "opTru"
  -- stop: br xgw_or
  refine brQ0 rfl ?_
  refine xgw_or1 (xgt_not (xgt_tru (fun _ => rfl) (xge_call c h__law_stands (Nat.le_of_ble_eq_true rfl) nm (.there (.there (.there (.there (.there (.there (.there (.there (.there (.there (.there .here))))))))))) (xga_cons (xge_nm c nm (.there (.there (.there .here))) (xga_cons (xge_nm c nm (.there (.there (.there (.there (.there .here))))) (xga_nil ?_) rfl) rfl) rfl) rfl) rfl rfl)))
  -- stop: call _law_stands
  have r2ok : (stK r.st k').Ok := stK_ok rl.rok.st k'
  refine ⟨gRt X.K ar (r.withSt (stK r.st k')) ++ gHl X.K a2 (hallK h h.phases.length), _, by rw [gRtx_with, gRt_with]; mi_spec "ent", ar, a2, r.withSt (stK r.st k'), hallK h h.phases.length, rfl, rfl, hallK_ok ok _, en.ph, en.aw, ?_⟩
  mi_spec "opTru"
  -- stop: if
  refine brQ0 rfl (xgss_nil ?_)
  obtain ⟨r2, hr2⟩ : ∃ r2, r2 = r.withSt (stK r.st k') := ⟨_, rfl⟩
  have est : r2.st = stK r.st k' := by rw [hr2]; rfl
  refine GTS.ent (G1 := gl X.K pd (dOpts DU) :: (gRt X.K ar r2 ++ (gHl X.K a2 (hallK h h.phases.length) ++ (G ++ G2)))) (by rw [hr2]; mi_spec "entE") ?_
  refine xgss_cons (xgs_if (xgt_of_w (xgw_or (xgt_not (xgt_tru (fun _ => rfl) (xge_call c h__law_same (Nat.le_of_ble_eq_true rfl) nm (.there (.there (.there (.there (.there (.there (.there (.there (.there (.there .here)))))))))) (xga_cons (xge_prop c T.c_Runtime h_Runtime_running (Nat.le_of_ble_eq_true rfl) (xge_nm c nm (.there (.there (.there .here))) ?_ rfl) rfl) rfl) rfl rfl))))))
  mi_spec "opInsP"
  -- stop: prop Runtime.running
  refine ⟨gRtx X.K ar r2, _, by mi_spec "ent", ar, r2, rfl, rfl, by rw [est]; exact en.del2.sm, fun pq => ?_⟩
  rw [show phL r2.st.phases "running" r2.st.phases.length = [] by rw [est]; exact en.stop]
  refine xga_cons (GTE.freeze ?_) st_list
  refine xge_lst ?_
  refine xga_nil ?_
  refine ⟨Nat.le_of_ble_eq_true rfl, fun p => ?_⟩
  refine ⟨_, _, _, rfl, by mi_spec "rem", ?_⟩
  refine xga_nil ?_
  -- stop: call _law_same
  refine callK_all ⟨_, _, rfl, same_ints (ns := []) (.inl ⟨_, rfl⟩) (lst_own (by mi_spec "foc")) lst_fr (by simp), ?_⟩
  mi_spec "opTru"
  -- stop: br xgw_or
  refine brQ0 rfl ?_
  refine xgw_or1 (xgt_not (xgt_tru (fun _ => rfl) (xge_call c h__law_same (Nat.le_of_ble_eq_true rfl) nm (.there (.there (.there (.there (.there (.there (.there (.there (.there (.there .here)))))))))) (xga_cons (xge_call c h_end_in_rounds (Nat.le_of_ble_eq_true rfl) nm (.there (.there (.there (.there (.there (.there (.there (.there (.there (.there (.there (.there .here)))))))))))) (xga_cons (xge_nm c nm (.there (.there (.there .here))) (xga_nil ?_) rfl) rfl) rfl rfl) rfl) rfl rfl)))
  -- stop: call end_in_rounds
  refine ⟨gRtx X.K ar r2, _, by mi_spec "ent", ar, r2, rfl, rfl, by rw [est]; exact r2ok, fun k2 g2 s2 p6 => ?_⟩
  have ek2 : k2 = 0 := by
    rcases Nat.eq_zero_or_pos k2 with h1 | h1
    · exact h1
    · refine absurd ?_ (g2 0 h1)
      show runs r2.st = []
      rw [est]
      exact en.stop
  subst ek2
  rw [show roundsK r2.st 0 = [] from rfl, show r2.withSt (stK r2.st 0) = r2 from rfl]
  refine xga_cons (GTE.freeze ?_) st_list
  refine xge_lst ?_
  refine xga_nil ?_
  refine ⟨Nat.le_of_ble_eq_true rfl, fun p => ?_⟩
  refine ⟨_, _, _, rfl, by mi_spec "rem", ?_⟩
  refine xga_nil ?_
  -- stop: call _law_same
  refine callK_all ⟨_, _, rfl, same_tss (ns := []) (.inl ⟨_, rfl⟩) (lst_own (by mi_spec "foc")) lst_fr (by simp) (fun l hl => by cases hl), ?_⟩
  mi_spec "opTru"
  -- stop: if
  refine brQ0 rfl (xgss_nil ?_)
  refine GTS.ent (G1 := gl X.K pd (dOpts DU) :: (gRt X.K ar r2 ++ (gHl X.K a2 (hallK h h.phases.length) ++ (G ++ G2)))) (by mi_spec "entE") ?_
  refine xgss_cons (xgs_setLc c (.there (.there (.there (.there (.there (.there (.there (.there (.there .here))))))))) (by decide +kernel) rfl rfl (by decide +kernel) (lcOk_by (by decide +kernel)) (src_L (fun _ => rfl)) (by decide) (xgt_lcL c (.there (.there (.there (.there (.there (.there (.there (.there (.there (.there .here)))))))))) (xge_nm c nm (.there (.there (.there (.there (.there (.there (.there .here))))))) ?_ rfl)))
  -- stop: comp [None if number is None else 0 for number in due]
  refine ⟨dOpts DU, lst_own (by mi_spec "foc"), LcL.same (fun j acc => acc = dOpts ((DU.take j).map (Option.map fun _ => 0))) (lst_own (by mi_spec "foc")) rfl ?_ ?_⟩
  · rintro j y acc pp hy rfl
    obtain ⟨o, ho, ey⟩ := opts_nth hy
    have hj : j < DU.length := (List.getElem?_eq_some_iff.mp ho).1
    intro s H env fp fnv c'
    have vm := vmOk_of c' (Gn := []) (vis := [10]) (by decide +kernel)
    cases o with
    | none =>
      have e : y = D.non := ey
      subst e
      refine xge_if (xgt_compare (xge_vm c' vm (.there (.there (.there (.there (.there (.there (.there (.there (.there (.there .here)))))))))) (xge_non ?_) rfl) (nm_Is _))
      mi_spec "opIs"
      refine kb ?_
      -- stop: ifexp
      refine brT ?_
      refine xge_non ?_
      refine ⟨_, Ent.refl _, by simp; omega, ?_, Ent.refl _⟩
      rw [List.take_succ, ho]
      simp [optD]
    | some n =>
      have e : y = D.int (n : Int) := ey
      subst e
      refine xge_if (xgt_compare (xge_vm c' vm (.there (.there (.there (.there (.there (.there (.there (.there (.there (.there .here)))))))))) (xge_non ?_) rfl) (nm_Is _))
      mi_spec "opIs"
      refine kb ?_
      -- stop: ifexp
      refine brF ?_
      refine xge_int ?_
      refine ⟨_, Ent.refl _, by simp; omega, ?_, Ent.refl _⟩
      rw [List.take_succ, ho]
      simp [optD]
  · rintro pl acc G' rfl en9
    rw [show DU.take (dOpts DU).length = DU by rw [show (dOpts DU).length = DU.length by simp, List.take_of_length_le (Nat.le_refl _)]]
    refine GTS.ent (Ent.cons _ en9) ?_
    refine xgss_cons (xgs_ret (xge_and (xge_call c h__law_same (Nat.le_of_ble_eq_true rfl) nm (.there (.there (.there (.there (.there (.there (.there (.there (.there (.there .here)))))))))) (xga_cons (xge_call c h_task_delays (Nat.le_of_ble_eq_true rfl) nm (.there (.there (.there (.there (.there (.there (.there (.there (.there .here))))))))) (xga_cons (xge_nm c nm (.there (.there (.there .here))) (xga_nil ?_) rfl) rfl) rfl rfl) rfl) rfl rfl)))
    -- stop: call task_delays
    refine ⟨gRtx X.K ar r2, _, by mi_spec "ent", ar, r2, rfl, rfl, by rw [est]; exact en.del2, fun pz => ?_⟩
    refine xga_cons (xge_nm c nm (.there (.there (.there (.there (.there (.there (.there (.there (.there .here))))))))) (xga_nil ?_) rfl) rfl
    -- stop: call _law_same
    rw [est, eleft]
    refine callK_all ⟨_, _, rfl, same_opts (ns := DU.map (Option.map fun _ => 0)) (.inr ⟨_, rfl⟩) (lst_own (by mi_spec "foc")) (lst_own (by mi_spec "foc")) (by simp; omega), ?_⟩
    refine ⟨_, rfl, ?_⟩
    -- stop: br xge_and
    refine brT ?_
    refine xge_one (xge_call c h__law_stands (Nat.le_of_ble_eq_true rfl) nm (.there (.there (.there (.there (.there (.there (.there (.there (.there (.there (.there .here))))))))))) (xga_cons (xge_nm c nm (.there (.there (.there .here))) (xga_cons (xge_nm c nm (.there (.there (.there (.there (.there .here))))) (xga_nil ?_) rfl) rfl) rfl) rfl) rfl rfl)
    -- stop: call _law_stands
    refine ⟨gRt X.K ar r2 ++ gHl X.K a2 (hallK h h.phases.length), _, by mi_spec "ent", ar, a2, r2, hallK h h.phases.length, rfl, rfl, hallK_ok ok _, by rw [est]; exact en.ph, by rw [est]; exact en.aw, ?_⟩
    exact ⟨G, by mi_spec "entE", q⟩
end
/-! M3: what a birth does to the kin and to the held sets. -/
theorem held_every (c : Cell) : heldF everyF c = decide (0 < c.1 + c.2.1) := by
  unfold heldF
  simp only [everyF]
  by_cases h0 : c.1 + c.2.1 = 0
  · rw [if_pos h0, eq_comm, decide_eq_false_iff_not]; omega
  · rw [if_neg h0, decide_eq_true (by omega : 0 < c.1 + c.2.1)]
    split
    · simp
    · split
      · simp
      · split <;> simp
theorem holds_get (o : Option Flags) (c : Cell) : holdsF o c = heldF (o.getD everyF) c := by
  cases o with
  | none => exact (held_every c).symm
  | some f => rfl
theorem getD_app_lt {α : Type} {xs ys : List α} {d : α} {i : Nat} (h : i < xs.length) : (xs ++ ys).getD i d = xs.getD i d := by
  rw [List.getD_eq_getElem?_getD, List.getD_eq_getElem?_getD, List.getElem?_append_left h]
theorem getD_app_eq {α : Type} {xs : List α} {d x : α} : (xs ++ [x]).getD xs.length d = x := by
  rw [List.getD_eq_getElem?_getD, List.getElem?_append_right (Nat.le_refl _), Nat.sub_self]
  rfl
theorem psOf_app {bs : List Nat} {p : Nat} : psOf (bs ++ [p]) = psOf bs ++ [some p] := by simp [psOf]
theorem psOf_len {bs : List Nat} : (psOf bs).length = bs.length + 1 := by simp [psOf]
theorem elder_app {bs : List Nat} {p : Nat} (el : Elder bs) (hp : p ≤ bs.length) : Elder (bs ++ [p]) := fun i hi => by
  by_cases h : i < bs.length
  · rw [getD_app_lt h]; exact el i h
  · have : i = bs.length := by simp at hi; omega
    rw [this, getD_app_eq]; exact hp
theorem line_le {bs : List Nat} (el : Elder bs) : ∀ t, ∀ x ∈ lineOf (psOf bs) t, x ≤ t := by
  intro t
  induction t using Nat.strongRecOn with
  | _ t ih =>
    intro x hx
    cases e : (psOf bs).getD t none with
    | none => rw [line_none e] at hx; have := List.mem_singleton.mp hx; omega
    | some p =>
      have hp := ps_lt el _ _ e
      rw [line_some (ps_lt el) e] at hx
      rcases List.mem_cons.mp hx with h | h
      · omega
      · have := ih p hp x h; omega
theorem line_old {bs : List Nat} {p : Nat} (el : Elder bs) (hp : p ≤ bs.length) : ∀ t, t ≤ bs.length → lineOf (psOf (bs ++ [p])) t = lineOf (psOf bs) t := by
  intro t
  induction t using Nat.strongRecOn with
  | _ t ih =>
    intro ht
    have e1 : (psOf (bs ++ [p])).getD t none = (psOf bs).getD t none := by rw [psOf_app, getD_app_lt (by rw [psOf_len]; omega)]
    cases e : (psOf bs).getD t none with
    | none => rw [line_none e, line_none (by rw [e1]; exact e)]
    | some q =>
      have hq := ps_lt el _ _ e
      rw [line_some (ps_lt el) e, line_some (ps_lt (elder_app el hp)) (by rw [e1]; exact e), ih q hq (by omega)]
theorem line_new {bs : List Nat} {p : Nat} (el : Elder bs) (hp : p ≤ bs.length) : lineOf (psOf (bs ++ [p])) (bs.length + 1) = (bs.length + 1) :: lineOf (psOf bs) p := by
  have e : (psOf (bs ++ [p])).getD (bs.length + 1) none = some p := by
    rw [psOf_app, ← psOf_len, getD_app_eq]
  rw [line_some (ps_lt (elder_app el hp)) e, line_old el hp p hp]
theorem parts_old {bs : List Nat} {p a b : Nat} (el : Elder bs) (hp : p ≤ bs.length) (ha : a ≤ bs.length) (hb : b ≤ bs.length) : partsOf (psOf (bs ++ [p])) a b = partsOf (psOf bs) a b := by
  unfold partsOf
  rw [line_old el hp a ha, line_old el hp b hb]
def sideNew (u d : Nat) (s : Str) : Str := if d = 0 then "line" else if u = 0 then "elder" else s
theorem parts_first {bs : List Nat} {p b : Nat} (el : Elder bs) (hp : p ≤ bs.length) (hb : b ≤ bs.length) : partsOf (psOf (bs ++ [p])) (bs.length + 1) b = ((partsOf (psOf bs) p b).1 + 1, (partsOf (psOf bs) p b).2.1, sideNew (partsOf (psOf bs) p b).1 (partsOf (psOf bs) p b).2.1 (partsOf (psOf bs) p b).2.2) := by
  unfold partsOf
  dsimp only
  rw [line_new el hp, line_old el hp b hb]
  have hM := line_le el b
  generalize lineOf (psOf bs) p = L
  generalize lineOf (psOf bs) b = M at hM
  have hc : M.contains (bs.length + 1) = false := by
    rw [Bool.eq_false_iff]
    intro h
    have := hM _ (List.contains_iff_mem.mp h)
    omega
  rw [List.findIdx_cons, hc]
  simp only [cond_false, List.getD_cons_succ]
  generalize L.findIdx (fun x => M.contains x) = u
  generalize hd : M.idxOf (L.getD u 0) = d
  have hlast : 0 < d → M.getD (d - 1) 0 ≤ b := fun h => by
    by_cases h2 : d - 1 < M.length
    · rw [List.getD_eq_getElem?_getD, List.getElem?_eq_getElem h2]
      exact hM _ (List.getElem_mem h2)
    · rw [List.getD_eq_getElem?_getD, List.getElem?_eq_none (by omega)]
      exact Nat.zero_le _
  unfold sideNew
  by_cases h0 : d = 0
  · rw [if_pos (Or.inr h0), if_pos h0]
  · rw [if_neg (by omega), if_neg h0]
    by_cases h1 : u = 0
    · subst h1
      rw [if_pos rfl, if_pos]
      have := hlast (by omega)
      show M.getD (d - 1) 0 < ((bs.length + 1) :: L).getD 0 0
      show _ < bs.length + 1
      omega
    · rw [if_neg h1, if_neg (show ¬ (u = 0 ∨ d = 0) by omega)]
      obtain ⟨u', rfl⟩ : ∃ u', u = u' + 1 := ⟨u - 1, by omega⟩
      rfl
def sideLast (u d : Nat) (s : Str) : Str := if u = 0 then "line" else if d = 0 then "younger" else s
theorem parts_last {bs : List Nat} {p a : Nat} (el : Elder bs) (hp : p ≤ bs.length) (ha : a ≤ bs.length) : partsOf (psOf (bs ++ [p])) a (bs.length + 1) = ((partsOf (psOf bs) a p).1, (partsOf (psOf bs) a p).2.1 + 1, sideLast (partsOf (psOf bs) a p).1 (partsOf (psOf bs) a p).2.1 (partsOf (psOf bs) a p).2.2) := by
  have hmeet : ∃ x ∈ lineOf (psOf bs) a, (lineOf (psOf bs) p).contains x = true := ⟨0, meet el a ha, List.contains_iff_mem.mpr (meet el p hp)⟩
  unfold partsOf
  dsimp only
  rw [line_new el hp, line_old el hp a ha]
  have hL := line_le el a
  generalize lineOf (psOf bs) p = M at hmeet ⊢
  generalize lineOf (psOf bs) a = L at hL hmeet ⊢
  have hf : L.findIdx (fun x => ((bs.length + 1) :: M).contains x) = L.findIdx (fun x => M.contains x) := by
    have : ∀ l : List Nat, (∀ x ∈ l, x ≤ a) → l.findIdx (fun x => ((bs.length + 1) :: M).contains x) = l.findIdx (fun x => M.contains x) := by
      intro l
      induction l with
      | nil => exact fun _ => rfl
      | cons x l ih =>
        intro h
        have hx := h x (List.mem_cons_self ..)
        have e : ((bs.length + 1) :: M).contains x = M.contains x := by
          rw [List.contains_cons, show (x == bs.length + 1) = false by rw [beq_eq_false_iff_ne]; omega, Bool.false_or]
        rw [List.findIdx_cons, List.findIdx_cons, e, ih fun y hy => h y (List.mem_cons_of_mem _ hy)]
    exact this L hL
  have hu : L.findIdx (fun x => M.contains x) < L.length := List.findIdx_lt_length_of_exists hmeet
  rw [hf]
  generalize L.findIdx (fun x => M.contains x) = u at hu
  have hxu : L.getD u 0 ≤ a := by
    rw [List.getD_eq_getElem?_getD, List.getElem?_eq_getElem hu]
    exact hL _ (List.getElem_mem hu)
  have hi : ((bs.length + 1) :: M).idxOf (L.getD u 0) = M.idxOf (L.getD u 0) + 1 := by
    rw [List.idxOf_cons, show (bs.length + 1 == L.getD u 0) = false by rw [beq_eq_false_iff_ne]; omega]
    rfl
  simp only [hi]
  generalize M.idxOf (L.getD u 0) = d
  unfold sideLast
  by_cases h0 : u = 0
  · rw [if_pos (Or.inl h0), if_pos h0]
  · rw [if_neg (by omega), if_neg h0]
    have hx1 : L.getD (u - 1) 0 ≤ a := by
      rw [List.getD_eq_getElem?_getD, List.getElem?_eq_getElem (by omega)]
      exact hL _ (List.getElem_mem _)
    by_cases h1 : d = 0
    · subst h1
      rw [if_pos rfl, if_neg]
      show ¬ (bs.length + 1 < L.getD (u - 1) 0)
      omega
    · rw [if_neg h1, if_neg (show ¬ (u = 0 ∨ d = 0) by omega)]
      obtain ⟨d', rfl⟩ : ∃ d', d = d' + 1 := ⟨d - 1, by omega⟩
      rfl
/-! M4: the held sets behind a birth. -/
theorem line_cons {bs : List Nat} (el : Elder bs) (t : Nat) : ∃ l, lineOf (psOf bs) t = t :: l := by
  cases e : (psOf bs).getD t none with
  | none => exact ⟨[], line_none e⟩
  | some p => exact ⟨_, line_some (ps_lt el) e⟩
theorem parts_self {bs : List Nat} (el : Elder bs) (a : Nat) : (partsOf (psOf bs) a a).1 = 0 ∧ (partsOf (psOf bs) a a).2.1 = 0 := by
  obtain ⟨l, hl⟩ := line_cons el a
  unfold partsOf
  simp only [hl]
  have e : (a :: l).findIdx (fun x => (a :: l).contains x) = 0 := by
    rw [List.findIdx_cons]
    simp
  rw [e]
  refine ⟨rfl, ?_⟩
  show (a :: l).idxOf a = 0
  rw [List.idxOf_cons]
  simp
theorem parts_eq {bs : List Nat} (el : Elder bs) {a b : Nat} (hu : (partsOf (psOf bs) a b).1 = 0) (hd : (partsOf (psOf bs) a b).2.1 = 0) : a = b := by
  obtain ⟨l, hl⟩ := line_cons el a
  obtain ⟨m, hm⟩ := line_cons el b
  unfold partsOf at hu hd
  simp only [hl, hm] at hu hd
  rw [hu] at hd
  have hd2 : (b :: m).idxOf a = 0 := hd
  rw [List.idxOf_cons] at hd2
  cases e : (b == a) with
  | true => exact (eq_of_beq e).symm
  | false => rw [e] at hd2; simp at hd2
/-- what a newborn holds -/
theorem held_first (f : Flags) (u d : Nat) (s : Str) : heldF f (u + 1, d, sideNew u d s) = ((decide (u = 0 ∧ d = 0) && f.greets) || (f.inherits && heldF f (u, d, s))) := by
  obtain ⟨k, g, i, t⟩ := f
  unfold heldF sideNew
  rcases Nat.eq_zero_or_pos u with hu | hu <;> rcases Nat.eq_zero_or_pos d with hd | hd
  · subst hu hd; simp
  · subst hu
    have : d ≠ 0 := by omega
    simp [this]
    cases k <;> cases i <;> simp
  · subst hd
    have : u ≠ 0 := by omega
    simp [this]
    cases g <;> cases i <;> simp
  · have h1 : u ≠ 0 := by omega
    have h2 : d ≠ 0 := by omega
    simp [h1, h2]
    split <;> cases k <;> cases g <;> cases i <;> cases t <;> simp
/-- who holds a newborn -/
theorem held_last (f : Flags) (u d : Nat) (s : Str) : heldF f (u, d + 1, sideLast u d s) = ((decide (u = 0 ∧ d = 0) && f.keeps) || (f.told && heldF f (u, d, s))) := by
  obtain ⟨k, g, i, t⟩ := f
  unfold heldF sideLast
  rcases Nat.eq_zero_or_pos u with hu | hu <;> rcases Nat.eq_zero_or_pos d with hd | hd
  · subst hu hd; simp
  · subst hu
    have : d ≠ 0 := by omega
    simp [this]
    cases k <;> cases t <;> simp
  · subst hd
    have : u ≠ 0 := by omega
    have e : ("younger" : Str) ≠ ("elder" : Str) := by decide
    simp [this, e]
    cases g <;> cases t <;> simp
  · have h1 : u ≠ 0 := by omega
    have h2 : d ≠ 0 := by omega
    simp [h1, h2]
    split <;> cases k <;> cases g <;> cases i <;> cases t <;> simp
/-! sets -/
theorem mem_addK {ks : List Nat} {t x : Nat} : x ∈ addK ks t ↔ x ∈ ks ∨ x = t := by
  unfold addK
  split
  · rename_i h
    exact ⟨fun q => .inl q, fun q => q.elim id fun q => q ▸ h⟩
  · rw [List.mem_append, List.mem_singleton]
theorem mem_setK {h : List (List Nat)} {i t j x : Nat} : x ∈ (setK h i t).getD j [] ↔ x ∈ h.getD j [] ∨ (j = i ∧ i < h.length ∧ x = t) := by
  unfold setK
  by_cases hj : j = i
  · subst hj
    by_cases hl : j < h.length
    · rw [getD_set_eq hl, mem_addK]
      simp [hl]
    · rw [List.set_eq_of_length_le (by omega)]
      simp [hl]
  · rw [getD_set_ne (fun e => hj e.symm)]
    simp [hj]
theorem mem_if {c : Bool} {h1 h0 : List (List Nat)} {j x : Nat} {p : Prop} (h : x ∈ h1.getD j [] ↔ x ∈ h0.getD j [] ∨ p) : x ∈ (if c = true then h1 else h0).getD j [] ↔ x ∈ h0.getD j [] ∨ (c = true ∧ p) := by
  cases c
  · simp
  · simpa using h
theorem mem_fold1 {c j x : Nat} : ∀ (l : List Nat) (h : List (List Nat)), x ∈ (l.foldl (fun h t => setK h c t) h).getD j [] ↔ x ∈ h.getD j [] ∨ (j = c ∧ c < h.length ∧ x ∈ l)
  | [], h => by simp
  | t :: l, h => by
    rw [List.foldl_cons, mem_fold1 l, mem_setK, setK_len, List.mem_cons]
    constructor
    · rintro ((q | ⟨a, b, q⟩) | ⟨a, b, q⟩)
      · exact .inl q
      · exact .inr ⟨a, b, .inl q⟩
      · exact .inr ⟨a, b, .inr q⟩
    · rintro (q | ⟨a, b, q | q⟩)
      · exact .inl (.inl q)
      · exact .inl (.inr ⟨a, b, q⟩)
      · exact .inr ⟨a, b, q⟩
theorem mem_fold2 {c j x : Nat} : ∀ (l : List Nat) (h : List (List Nat)), x ∈ (l.foldl (fun h t => setK h t c) h).getD j [] ↔ x ∈ h.getD j [] ∨ (j ∈ l ∧ j < h.length ∧ x = c)
  | [], h => by simp
  | t :: l, h => by
    rw [List.foldl_cons, mem_fold2 l, mem_setK, setK_len, List.mem_cons]
    constructor
    · rintro ((q | ⟨a, b, q⟩) | ⟨a, b, q⟩)
      · exact .inl q
      · exact .inr ⟨.inl a, a ▸ b, q⟩
      · exact .inr ⟨.inr a, b, q⟩
    · rintro (q | ⟨a | a, b, q⟩)
      · exact .inl (.inl q)
      · exact .inl (.inr ⟨a, a ▸ b, q⟩)
      · exact .inr ⟨a, b, q⟩
theorem len_fold1 {c : Nat} : ∀ (l : List Nat) (h : List (List Nat)), (l.foldl (fun h t => setK h c t) h).length = h.length
  | [], h => rfl
  | t :: l, h => by rw [List.foldl_cons, len_fold1 l, setK_len]
theorem len_fold2 {c : Nat} : ∀ (l : List Nat) (h : List (List Nat)), (l.foldl (fun h t => setK h t c) h).length = h.length
  | [], h => rfl
  | t :: l, h => by rw [List.foldl_cons, len_fold2 l, setK_len]
theorem len_if {c : Bool} {h1 h0 : List (List Nat)} (h : h1.length = h0.length) : (if c = true then h1 else h0).length = h0.length := by
  cases c
  · rfl
  · exact h
theorem heldAdd_len {held : List (List Nat)} {p c : Nat} {f : Flags} : (heldAdd held p c f).length = held.length + 1 := by
  unfold heldAdd
  dsimp only
  rw [len_if (len_fold2 _ _), len_if (len_fold1 _ _), len_if setK_len, len_if setK_len]
  simp
theorem mem_heldAdd {held : List (List Nat)} {p j x : Nat} {f : Flags} (hp : p < held.length) (hj : j ≤ held.length) :
    x ∈ (heldAdd held p held.length f).getD j [] ↔ (x ∈ held.getD j [] ∨ (f.keeps = true ∧ j = p ∧ x = held.length) ∨ (f.greets = true ∧ j = held.length ∧ x = p) ∨ (f.inherits = true ∧ j = held.length ∧ x ∈ held.getD p []) ∨ (f.told = true ∧ p ∈ held.getD j [] ∧ x = held.length)) := by
  unfold heldAdd
  dsimp only
  rw [mem_if (mem_fold2 _ _), mem_if (mem_fold1 _ _), mem_if mem_setK, mem_if mem_setK]
  have l0 : (held ++ [[]]).length = held.length + 1 := by simp
  have l1 : (if f.keeps = true then setK (held ++ [[]]) p held.length else held ++ [[]]).length = held.length + 1 := (len_if setK_len).trans l0
  have l2 : (if f.greets = true then setK (if f.keeps = true then setK (held ++ [[]]) p held.length else held ++ [[]]) held.length p else if f.keeps = true then setK (held ++ [[]]) p held.length else held ++ [[]]).length = held.length + 1 := (len_if setK_len).trans l1
  rw [len_if (len_fold1 _ _)]
  simp only [l2, l1, l0, List.length_append, List.length_singleton, List.mem_filter, List.mem_range, decide_eq_true_iff]
  have e0 : x ∈ (held ++ [[]]).getD j [] ↔ x ∈ held.getD j [] := by
    by_cases h : j < held.length
    · rw [getD_app_lt h]
    · have : j = held.length := by omega
      subst this
      rw [getD_app_eq, List.getD_eq_getElem?_getD, List.getElem?_eq_none (Nat.le_refl _)]
      rfl
  have e1 : p ∈ held.getD j [] → j < held.length := fun q => by
    by_cases h : j < held.length
    · exact h
    · rw [List.getD_eq_getElem?_getD, List.getElem?_eq_none (by omega)] at q
      cases q
  rw [e0]
  constructor
  · rintro ((((q | ⟨a, b, c, d⟩) | ⟨a, b, c, d⟩) | ⟨a, b, c, d⟩) | ⟨a, ⟨b, c⟩, d, e⟩)
    · exact .inl q
    · exact .inr (.inl ⟨a, b, d⟩)
    · exact .inr (.inr (.inl ⟨a, b, d⟩))
    · exact .inr (.inr (.inr (.inl ⟨a, b, d⟩)))
    · exact .inr (.inr (.inr (.inr ⟨a, c, e⟩)))
  · rintro (q | ⟨a, b, d⟩ | ⟨a, b, d⟩ | ⟨a, b, d⟩ | ⟨a, c, e⟩)
    · exact .inl (.inl (.inl (.inl q)))
    · exact .inl (.inl (.inl (.inr ⟨a, b, by omega, d⟩)))
    · exact .inl (.inl (.inr ⟨a, b, by omega, d⟩))
    · exact .inl (.inr ⟨a, b, by omega, d⟩)
    · exact .inr ⟨a, ⟨e1 c, c⟩, by omega, e⟩
/-! the keys -/
def KeysOk (n : Nat) (h : List (List Nat)) : Prop := ∀ ks ∈ h, ks.Nodup ∧ ∀ k ∈ ks, k < n
theorem addK_nodup {ks : List Nat} {t : Nat} (h : ks.Nodup) : (addK ks t).Nodup := by
  unfold addK
  split
  · exact h
  · rename_i hn
    refine List.nodup_append.mpr ⟨h, by simp, fun a ha b hb => ?_⟩
    rw [List.mem_singleton.mp hb]
    exact fun e => hn (e ▸ ha)
theorem getD_keys {n : Nat} {h : List (List Nat)} (k : KeysOk n h) (i : Nat) : (h.getD i []).Nodup ∧ ∀ x ∈ h.getD i [], x < n := by
  by_cases hi : i < h.length
  · rw [getD_nth hi]; exact k _ (List.getElem_mem hi)
  · rw [List.getD_eq_getElem?_getD, List.getElem?_eq_none (by omega)]
    exact ⟨List.nodup_nil, fun x hx => by cases hx⟩
theorem setK_keys {n : Nat} {h : List (List Nat)} {i t : Nat} (k : KeysOk n h) (ht : t < n) : KeysOk n (setK h i t) := fun ks hk => by
  unfold setK at hk
  rcases List.mem_or_eq_of_mem_set hk with hk | hk
  · exact k ks hk
  · rw [hk]
    obtain ⟨h1, h2⟩ := getD_keys k i
    refine ⟨addK_nodup h1, fun x hx => ?_⟩
    rcases mem_addK.mp hx with hx | hx
    · exact h2 x hx
    · omega
theorem fold1_keys {n c : Nat} : ∀ (l : List Nat) (h : List (List Nat)), KeysOk n h → (∀ t ∈ l, t < n) → KeysOk n (l.foldl (fun h t => setK h c t) h)
  | [], h, k, _ => k
  | t :: l, h, k, hl => fold1_keys l _ (setK_keys k (hl t (List.mem_cons_self ..))) fun x hx => hl x (List.mem_cons_of_mem _ hx)
theorem fold2_keys {n c : Nat} (hc : c < n) : ∀ (l : List Nat) (h : List (List Nat)), KeysOk n h → KeysOk n (l.foldl (fun h t => setK h t c) h)
  | [], h, k => k
  | t :: l, h, k => fold2_keys hc l _ (setK_keys k hc)
theorem if_keys {n : Nat} {c : Bool} {h1 h0 : List (List Nat)} (a : KeysOk n h1) (b : KeysOk n h0) : KeysOk n (if c = true then h1 else h0) := by
  cases c
  · exact b
  · exact a
theorem heldAdd_keys {held : List (List Nat)} {p : Nat} {f : Flags} (k : KeysOk held.length held) (hp : p < held.length) : KeysOk (held.length + 1) (heldAdd held p held.length f) := by
  have k1 : KeysOk (held.length + 1) (held ++ [[]]) := fun ks hk => by
    rcases List.mem_append.mp hk with hk | hk
    · exact ⟨(k ks hk).1, fun x hx => Nat.lt_succ_of_lt ((k ks hk).2 x hx)⟩
    · rw [List.mem_singleton.mp hk]
      exact ⟨List.nodup_nil, fun x hx => by cases hx⟩
  have k2 : ∀ t ∈ held.getD p [], t < held.length + 1 := fun t ht => Nat.lt_succ_of_lt ((getD_keys k p).2 t ht)
  unfold heldAdd
  dsimp only
  have a1 := if_keys (c := f.keeps) (setK_keys (i := p) k1 (Nat.lt_succ_self _)) k1
  have a2 := if_keys (c := f.greets) (setK_keys (i := held.length) a1 (show p < held.length + 1 by omega)) a1
  have a3 := if_keys (c := f.inherits) (fold1_keys (c := held.length) _ _ a2 k2) a2
  exact if_keys (fold2_keys (Nat.lt_succ_self _) _ _ a3) a3
theorem keys_len {n : Nat} {h : List (List Nat)} (k : KeysOk n h) : ∀ ks ∈ h, ks.length ≤ n := fun ks hk => by
  obtain ⟨h1, h2⟩ := k ks hk
  have := List.Nodup.length_le_of_subset h1 (l₂ := List.range n) fun x hx => List.mem_range.mpr (h2 x hx)
  rwa [List.length_range] at this
/-- the held sets and the kin keep step -/
theorem held_step {held : List (List Nat)} {bs : List Nat} {p : Nat} {f : Flags} (el : Elder bs) (hl : held.length = bs.length + 1) (hp : p ≤ bs.length) (k : KeysOk held.length held)
    (hh : ∀ a b, a ≤ bs.length → b ≤ bs.length → (b ∈ held.getD a [] ↔ heldF f (partsOf (psOf bs) a b) = true)) :
    ∀ a b, a ≤ bs.length + 1 → b ≤ bs.length + 1 → (b ∈ (heldAdd held p held.length f).getD a [] ↔ heldF f (partsOf (psOf (bs ++ [p])) a b) = true) := by
  intro a b ha hb
  rw [mem_heldAdd (by omega) (by omega)]
  have no : ∀ j, held.length ∉ held.getD j [] := fun j q => by
    have := (getD_keys k j).2 _ q
    omega
  by_cases h1 : a ≤ bs.length
  · by_cases h2 : b ≤ bs.length
    · rw [parts_old el hp h1 h2, ← hh a b h1 h2]
      constructor
      · rintro (q | ⟨_, _, e⟩ | ⟨_, e, _⟩ | ⟨_, e, _⟩ | ⟨_, _, e⟩)
        · exact q
        all_goals omega
      · exact fun q => .inl q
    · have e : b = bs.length + 1 := by omega
      subst e
      rw [parts_last el hp h1, held_last, Bool.or_eq_true, Bool.and_eq_true, Bool.and_eq_true, decide_eq_true_iff]
      have hap : ((partsOf (psOf bs) a p).1 = 0 ∧ (partsOf (psOf bs) a p).2.1 = 0) ↔ a = p := ⟨fun q => parts_eq el q.1 q.2, fun q => q ▸ parts_self el a⟩
      rw [hap]
      rw [show heldF f ((partsOf (psOf bs) a p).1, (partsOf (psOf bs) a p).2.1, (partsOf (psOf bs) a p).2.2) = heldF f (partsOf (psOf bs) a p) from rfl, ← hh a p h1 hp, ← hl]
      constructor
      · rintro (q | ⟨c, e, _⟩ | ⟨_, e, _⟩ | ⟨_, e, _⟩ | ⟨c, e, _⟩)
        · exact absurd q (no a)
        · exact .inl ⟨e, c⟩
        · omega
        · omega
        · exact .inr ⟨c, e⟩
      · rintro (⟨e, c⟩ | ⟨c, e⟩)
        · exact .inr (.inl ⟨c, e, rfl⟩)
        · exact .inr (.inr (.inr (.inr ⟨c, e, rfl⟩)))
  · have e : a = bs.length + 1 := by omega
    subst e
    have hn : held.getD (bs.length + 1) [] = [] := by rw [List.getD_eq_getElem?_getD, List.getElem?_eq_none (by omega)]; rfl
    rw [hn]
    by_cases h2 : b ≤ bs.length
    · rw [parts_first el hp h2, held_first, Bool.or_eq_true, Bool.and_eq_true, Bool.and_eq_true, decide_eq_true_iff]
      have hap : ((partsOf (psOf bs) p b).1 = 0 ∧ (partsOf (psOf bs) p b).2.1 = 0) ↔ p = b := ⟨fun q => parts_eq el q.1 q.2, fun q => q ▸ parts_self el p⟩
      rw [hap]
      rw [show heldF f ((partsOf (psOf bs) p b).1, (partsOf (psOf bs) p b).2.1, (partsOf (psOf bs) p b).2.2) = heldF f (partsOf (psOf bs) p b) from rfl, ← hh p b hp h2, ← hl]
      constructor
      · rintro (q | ⟨_, e, _⟩ | ⟨c, _, e⟩ | ⟨c, _, e⟩ | ⟨_, e, _⟩)
        · cases q
        · omega
        · exact .inl ⟨e.symm, c⟩
        · exact .inr ⟨c, e⟩
        · cases e
      · rintro (⟨e, c⟩ | ⟨c, e⟩)
        · exact .inr (.inr (.inl ⟨c, rfl, e.symm⟩))
        · exact .inr (.inr (.inr (.inl ⟨c, rfl, e⟩)))
    · have e : b = bs.length + 1 := by omega
      subst e
      obtain ⟨c1, c2⟩ := parts_self (elder_app el hp) (bs.length + 1)
      have hz : heldF f (partsOf (psOf (bs ++ [p])) (bs.length + 1) (bs.length + 1)) = false := by
        unfold heldF
        rw [c1, c2]
        rfl
      rw [hz]
      constructor
      · rintro (q | ⟨_, e, _⟩ | ⟨_, _, e⟩ | ⟨_, _, e⟩ | ⟨_, e, _⟩)
        · cases q
        · omega
        · omega
        · rw [← hl] at e
          exact absurd e (no p)
        · cases e
      · exact fun q => by cases q
/-! M5: runtime and hall keep step: births. -/
theorem fam_bear_ok {f : Fam} {p n : Nat} (ok : f.Ok) (hb : ∀ b ∈ f.broods, b.length ≤ n) (hn : n + 1 ≤ 600) (h6 : f.tasks.length < 600) : (f.bear p).Ok ∧ ∀ b ∈ (f.bear p).broods, b.length ≤ n + 1 := by
  have key : ∀ b ∈ (f.bear p).broods, b.length ≤ n + 1 := fun b hm => by
    unfold Fam.bear at hm
    rcases List.mem_append.mp hm with hm | hm
    · rcases List.mem_or_eq_of_mem_set hm with hm | hm
      · exact Nat.le_succ_of_le (hb b hm)
      · rw [hm, List.length_append]
        have : (f.broods.getD p []).length ≤ n := by
          by_cases hp : p < f.broods.length
          · rw [getD_nth hp]; exact hb _ (List.getElem_mem hp)
          · rw [List.getD_eq_getElem?_getD, List.getElem?_eq_none (by omega)]; exact Nat.zero_le _
        simp
        exact this
    · rw [List.mem_singleton.mp hm]
      exact Nat.zero_le _
  refine ⟨⟨?_, ?_, ?_, ?_, ?_, ?_, fun b hm => Nat.le_trans (key b hm) hn⟩, key⟩
  · have := ok.l1; simp [Fam.bear, this]
  · have := ok.l2; simp [Fam.bear, this]
  · have := ok.l3; simp [Fam.bear, this]
  · have := ok.l4; simp [Fam.bear, this]
  · simp [Fam.bear]; omega
  · simp [Fam.bear]
theorem fam_bear_tree {f : Fam} {p : Nat} (ok : f.Ok) (tr : f.Tree) (hp : p < f.tasks.length) : (f.bear p).Tree := ⟨fun t ht => by
  have l1 := ok.l1
  have l3 := ok.l3
  have ht' : t < f.tasks.length + 1 := by simpa [Fam.bear] using ht
  by_cases h : t < f.tasks.length
  · rcases tr.par t h with ⟨a, b, c⟩ | ⟨q, a, b, c⟩
    · refine .inl ⟨a, ?_, ?_⟩
      · show (f.parents ++ [some p]).getD t none = none
        rw [getD_app_lt (by omega)]; exact b
      · show (f.depths ++ [f.depths.getD p 0 + 1]).getD t 0 = 0
        rw [getD_app_lt (by omega)]; exact c
    · refine .inr ⟨q, a, ?_, ?_⟩
      · show (f.parents ++ [some p]).getD t none = some q
        rw [getD_app_lt (by omega)]; exact b
      · show (f.depths ++ [f.depths.getD p 0 + 1]).getD t 0 = (f.depths ++ [f.depths.getD p 0 + 1]).getD q 0 + 1
        rw [getD_app_lt (by omega), getD_app_lt (by omega)]; exact c
  · have e : t = f.tasks.length := by omega
    subst e
    refine .inr ⟨p, hp, ?_, ?_⟩
    · show (f.parents ++ [some p]).getD f.tasks.length none = some p
      rw [← l1, getD_app_eq]
    · show (f.depths ++ [f.depths.getD p 0 + 1]).getD f.tasks.length 0 = (f.depths ++ [f.depths.getD p 0 + 1]).getD p 0 + 1
      rw [getD_app_lt (i := p) (by omega)]
      rw [← l3, getD_app_eq]⟩
theorem add_ok {s : St} {p n : Nat} {f : Flags} (ok : s.Ok) (hp : p < s.fam.tasks.length) (hb : ∀ b ∈ s.fam.broods, b.length ≤ n) (hn : n + 1 ≤ 600) (h6 : s.fam.tasks.length < 600) (k : KeysOk s.held.length s.held) : (s.add p f).Ok := by
  have l1 := ok.l1
  have l2 := ok.l2
  have l3 := ok.l3
  have l4 := ok.l4
  have e : (s.fam.bear p).tasks.length = s.fam.tasks.length + 1 := by simp [Fam.bear]
  refine ⟨(fam_bear_ok ok.fam hb hn h6).1, fam_bear_tree ok.fam ok.tree hp, ?_, ?_, ?_, ?_, ?_, ?_⟩
  · show (s.phases ++ [_]).length = (s.fam.bear p).tasks.length
    rw [e]; simp [l1]
  · show (s.awaited ++ [_]).length = (s.fam.bear p).tasks.length
    rw [e]; simp [l2]
  · show (s.modes ++ [_]).length = (s.fam.bear p).tasks.length
    rw [e]; simp [l3]
  · show (heldAdd s.held p s.fam.tasks.length f).length = (s.fam.bear p).tasks.length
    rw [e, heldAdd_len, l4]
  · intro ts h
    rcases List.mem_append.mp (show ts ∈ s.awaited ++ [[]] from h) with h | h
    · obtain ⟨a, b⟩ := ok.tgt ts h
      refine ⟨a, fun i hi => ?_⟩
      show i < (s.phases ++ [_]).length
      have := b i hi
      simp
      omega
    · rw [List.mem_singleton.mp h]
      exact ⟨Nat.zero_le _, fun i hi => by cases hi⟩
  · show ∀ ks ∈ heldAdd s.held p s.fam.tasks.length f, ks.length ≤ 600
    rw [← l4]
    intro ks hk
    have := keys_len (heldAdd_keys k (by omega) : KeysOk (s.held.length + 1) (heldAdd s.held p s.held.length f)) ks hk
    omega
theorem bear_okH {h : Hall} {p : Nat} (ok : h.Ok) (hp : p < h.phases.length) (hs : h.births.length < 100) : (h.bear p).Ok := by
  have l1 := ok.l1
  have l2 := ok.l2
  have l3 := ok.l3
  refine ⟨by simp [Hall.bear, l1], by simp [Hall.bear, l2], by simp [Hall.bear, l3], by simp [Hall.bear]; omega, ?_, ?_⟩
  · exact elder_app ok.par (by omega)
  · intro ts h1
    rcases List.mem_append.mp (show ts ∈ h.awaited ++ [[]] from h1) with h1 | h1
    · obtain ⟨a, b⟩ := ok.tgt ts h1
      refine ⟨a, fun i hi => ?_⟩
      have := b i hi
      simp [Hall.bear]
      omega
    · rw [List.mem_singleton.mp h1]
      exact ⟨Nat.zero_le _, fun i hi => by cases hi⟩
theorem endB_app {ph : List Str} {z : Str} : endB (ph ++ [z]) = endB ph ++ [decide (z = ("ended" : Str))] := by simp [endB]
theorem endB_len {ph : List Str} : (endB ph).length = ph.length := by simp [endB]
theorem endB_at {ph : List Str} {i : Nat} (h : i < ph.length) : (endB ph).getD i false = decide (phAt ph i = ("ended" : Str)) := by
  unfold phAt
  rw [getD_nth (by rw [endB_len]; exact h), getD_nth h]
  simp [endB]
/-- overB looks at the targets alone -/
theorem over_congr {m : Bool} {ts : List Nat} {a b : List Bool} (h : ∀ i ∈ ts, a.getD i false = b.getD i false) : overB m ts a = overB m ts b := by
  unfold overB
  cases m
  · simp only [Bool.false_eq_true, if_false]
    rw [Bool.eq_iff_iff, List.all_eq_true, List.all_eq_true]
    exact ⟨fun q i hi => (h i hi) ▸ q i hi, fun q i hi => (h i hi).symm ▸ q i hi⟩
  · simp only [if_true]
    rw [Bool.eq_iff_iff, List.any_eq_true, List.any_eq_true]
    exact ⟨fun ⟨i, hi, q⟩ => ⟨i, hi, (h i hi) ▸ q⟩, fun ⟨i, hi, q⟩ => ⟨i, hi, (h i hi).symm ▸ q⟩⟩
theorem over_mono {m : Bool} {ts : List Nat} {a b : List Bool} (h : ∀ i ∈ ts, a.getD i false = true → b.getD i false = true) : overB m ts a = true → overB m ts b = true := by
  unfold overB
  cases m
  · simp only [Bool.false_eq_true, if_false]
    rw [List.all_eq_true, List.all_eq_true]
    exact fun q i hi => h i hi (q i hi)
  · simp only [if_true]
    rw [List.any_eq_true, List.any_eq_true]
    exact fun ⟨i, hi, q⟩ => ⟨i, hi, h i hi q⟩
theorem aw_tgt {aw : List (List Nat)} {n : Nat} (h : ∀ ts ∈ aw, ts.length ≤ 100 ∧ ∀ i ∈ ts, i < n) (o : Nat) : ∀ i ∈ aw.getD o [], i < n := by
  intro i hi
  by_cases ho : o < aw.length
  · rw [getD_nth ho] at hi; exact (h _ (List.getElem_mem ho)).2 i hi
  · rw [List.getD_eq_getElem?_getD, List.getElem?_eq_none (by omega)] at hi
    cases hi
theorem rel_lens {wd : Wd} {r : Rt} {h : Hall} (rl : Rel wd r h) : r.st.fam.tasks.length = h.phases.length ∧ r.st.held.length = h.phases.length ∧ r.st.phases.length = h.phases.length ∧ h.births.length + 1 = h.phases.length ∧ h.phases.length ≤ 12 := by
  have a := rl.rok.st.l1
  have b := rl.rok.st.l4
  have c := congrArg List.length rl.ph
  have d := rl.hok.l1
  have e := rl.len
  have f := rl.wok.l2
  omega
theorem rel_bear {wd : Wd} {r : Rt} {h : Hall} {t : Nat} (rl : Rel wd r h) (ht : t < h.phases.length) (hl : h.phases.length < wd.l) : Rel wd (r.deed (.bear t)) (h.deed (.bear t)) := by
  obtain ⟨e1, e2, e3, e4, e5⟩ := rel_lens rl
  have l2 := rl.hok.l2
  have l3 := rl.hok.l3
  have k : KeysOk r.st.held.length r.st.held := fun ks hk => by
    rw [e2]; exact rl.keys ks hk
  have eb : (h.births ++ [t]).length + 1 = h.phases.length + 1 := by simp; omega
  have hpl : (h.deed (.bear t)).phases.length = h.phases.length + 1 := by show (h.phases ++ [_]).length = _; simp
  have eheld : (r.deed (.bear t)).st.held = heldAdd r.st.held t r.st.held.length r.hands := by
    show heldAdd r.st.held t r.st.fam.tasks.length r.hands = _
    rw [e1, e2]
  refine { wok := rl.wok, rok := ⟨rl.rok.rule, add_ok (n := h.phases.length) rl.rok.st (by omega) rl.bro (by omega) (by omega) k, rl.rok.lim⟩, hok := bear_okH rl.hok ht (by omega), reach := rl.reach, cells := rl.cells, hands := rl.hands, limit := rl.limit, len := by rw [hpl]; omega, ph := ?_, aw := ?_, mo := ?_, par := ?_, keys := ?_, held := ?_, phs := ?_, bro := ?_, wn := ?_ }
  · show r.st.phases ++ [_] = h.phases ++ [_]
    rw [rl.ph]
  · show r.st.awaited ++ [_] = h.awaited ++ [_]
    rw [rl.aw]
  · show r.st.modes ++ [_] = h.modes ++ [_]
    rw [rl.mo]
  · show r.st.fam.parents ++ [some t] = psOf (h.births ++ [t])
    rw [rl.par, psOf_app]
  · rw [eheld, hpl]
    intro ks hk
    have := heldAdd_keys k (show t < r.st.held.length by omega) ks hk
    rwa [e2] at this
  · rw [eheld, hpl]
    intro a b ha hb
    have hs := held_step (f := r.hands) (p := t) rl.hok.par (by omega) (by omega) k (fun a b ha hb => by
      rw [rl.held a b (by omega) (by omega), holds_get, rl.hands]) a b (by omega) (by omega)
    rw [hs, holds_get, rl.hands]
    exact Iff.rfl
  · intro z hz
    rcases List.mem_append.mp (show z ∈ h.phases ++ [_] from hz) with hz | hz
    · exact rl.phs z hz
    · rw [List.mem_singleton.mp hz]; exact .inr (.inl rfl)
  · rw [hpl]
    exact (fam_bear_ok rl.rok.st.fam rl.bro (by omega) (by omega)).2
  · rw [hpl]
    intro o ho hw
    show overB ((h.modes ++ [false]).getD o false) ((h.awaited ++ [[]]).getD o []) (endB (h.phases ++ [("running" : Str)])) = false
    have hw' : (h.phases ++ [("running" : Str)]).getD o ⟨#[]⟩ = ("waiting" : Str) := hw
    by_cases h1 : o < h.phases.length
    · rw [getD_app_lt h1] at hw'
      rw [getD_app_lt (by omega), getD_app_lt (by omega)]
      refine (over_congr fun i hi => ?_).trans (rl.wn o h1 hw')
      rw [endB_app, getD_app_lt (by rw [endB_len]; exact aw_tgt rl.hok.tgt o i hi)]
    · have : o = h.phases.length := by omega
      subst this
      rw [getD_app_eq] at hw'
      exact absurd hw' (by decide)
/-! M6: runtime and hall keep step: ends, waits; the whole step; the start. -/
/-- a hall without its births -/
def Hall.strip (h : Hall) : Hall := ⟨[], h.phases, h.awaited, h.modes⟩
theorem wakeAll_strip : ∀ (l : List Nat) (h : Hall), (l.foldl wake h).strip = l.foldl wake h.strip
  | [], h => rfl
  | x :: l, h => wakeAll_strip l (wake h x)
theorem woken_strip {h : Hall} {t : Nat} : h.strip.woken t = h.woken t := rfl
theorem fin_strip {h : Hall} {t : Nat} : (h.fin t).strip = h.strip.fin t := wakeAll_strip _ _
theorem fin_endB {h : Hall} {t : Nat} (ht : t < h.phases.length) : endB (h.fin t).phases = endB (h.phases.set t ("ended" : Str)) := by
  have el := (@fin_lens h t).1
  refine List.ext_getElem (by rw [endB_len, endB_len, el, List.length_set]) fun i h1 h2 => ?_
  rw [endB_len, el] at h1
  have a := endB_at (ph := (h.fin t).phases) (i := i) (by rw [el]; exact h1)
  have b := endB_at (ph := h.phases.set t ("ended" : Str)) (i := i) (by rw [List.length_set]; exact h1)
  rw [getD_nth (by rw [endB_len, el]; exact h1)] at a
  rw [getD_nth (by rw [endB_len, List.length_set]; exact h1)] at b
  rw [a, b, fin_at ht h1]
  by_cases e : i = t
  · subst e
    rw [if_pos rfl, show phAt (h.phases.set i ("ended" : Str)) i = "ended" from getD_set_eq ht]
  · rw [if_neg e]
    have e2 : phAt (h.phases.set t ("ended" : Str)) i = phAt h.phases i := getD_set_ne fun q => e q.symm
    by_cases hm : i ∈ h.woken t
    · rw [if_pos hm, (mem_woken.mp hm).2.1]
      decide
    · rw [if_neg hm, e2]
theorem fin_wait {h : Hall} {t o : Nat} (ht : t < h.phases.length) (ho : o < h.phases.length) (hw : phAt (h.fin t).phases o = ("waiting" : Str)) :
    o ≠ t ∧ o ∉ h.woken t ∧ phAt h.phases o = ("waiting" : Str) ∧ (h.fin t).awaited.getD o [] = h.awaited.getD o [] ∧ (h.fin t).modes.getD o false = h.modes.getD o false ∧ overB (h.modes.getD o false) (h.awaited.getD o []) (endB (h.fin t).phases) = false := by
  rw [fin_at ht ho] at hw
  by_cases e : o = t
  · rw [if_pos e] at hw; exact absurd hw (by decide)
  · rw [if_neg e] at hw
    by_cases hm : o ∈ h.woken t
    · rw [if_pos hm] at hw; exact absurd hw (by decide)
    · rw [if_neg hm] at hw
      obtain ⟨a, b, _⟩ := wake_other (h.woken t) ⟨h.births, h.phases.set t "ended", h.awaited, h.modes⟩ o hm
      refine ⟨e, hm, hw, a, b, ?_⟩
      rw [fin_endB ht]
      cases q : overB (h.modes.getD o false) (h.awaited.getD o []) (endB (h.phases.set t ("ended" : Str))) with
      | false => rfl
      | true =>
        refine absurd (mem_woken.mpr ⟨ho, ?_, q⟩) hm
        rw [← hw]
        exact getD_set_ne fun q => e q.symm
theorem mem_phAt {ph : List Str} {z : Str} (h : z ∈ ph) : ∃ i, i < ph.length ∧ phAt ph i = z := by
  obtain ⟨i, hi, e⟩ := List.mem_iff_getElem.mp h
  exact ⟨i, hi, by unfold phAt; rw [getD_nth hi]; exact e⟩
theorem phAt_mem {ph : List Str} {i : Nat} (h : i < ph.length) : phAt ph i ∈ ph := by
  unfold phAt; rw [getD_nth h]; exact List.getElem_mem h
theorem fin_phs {h : Hall} {t : Nat} (ht : t < h.phases.length) (k : ∀ z ∈ h.phases, PhOk z) : ∀ z ∈ (h.fin t).phases, PhOk z := fun z hz => by
  obtain ⟨i, hi, e⟩ := mem_phAt hz
  rw [(@fin_lens h t).1] at hi
  rw [← e, fin_at ht hi]
  split
  · exact .inl rfl
  · split
    · exact .inr (.inl rfl)
    · exact k _ (phAt_mem hi)
theorem rt_hall {wd : Wd} {r : Rt} {h : Hall} (rl : Rel wd r h) : r.st.hall = h.strip := by
  show (⟨[], r.st.phases, r.st.awaited, r.st.modes⟩ : Hall) = ⟨[], h.phases, h.awaited, h.modes⟩
  rw [rl.ph, rl.aw, rl.mo]
theorem rel_fin {wd : Wd} {r : Rt} {h : Hall} {t : Nat} (rl : Rel wd r h) (ht : t < h.phases.length) : Rel wd (r.deed (.fin t)) (h.deed (.fin t)) := by
  have e0 := rt_hall rl
  have e1 : r.st.hall.fin t = (h.fin t).strip := by rw [e0, fin_strip]
  have el := (@fin_lens h t).1
  have hpl : (h.deed (.fin t)).phases.length = h.phases.length := el
  refine { wok := rl.wok, rok := ⟨rl.rok.rule, St.fin_ok rl.rok.st, rl.rok.lim⟩, hok := fin_okH rl.hok, reach := rl.reach, cells := rl.cells, hands := rl.hands, limit := rl.limit, len := by rw [hpl]; exact rl.len, ph := ?_, aw := ?_, mo := ?_, par := ?_, keys := ?_, held := ?_, phs := ?_, bro := ?_, wn := ?_ }
  · show (r.st.hall.fin t).phases = (h.fin t).phases
    rw [e1]; rfl
  · show (r.st.hall.fin t).awaited = (h.fin t).awaited
    rw [e1]; rfl
  · show (r.st.hall.fin t).modes = (h.fin t).modes
    rw [e1]; rfl
  · show r.st.fam.parents = psOf (h.fin t).births
    rw [fin_births]; exact rl.par
  · rw [hpl]; exact rl.keys
  · rw [hpl]
    show ∀ a b, a < h.phases.length → b < h.phases.length → (b ∈ r.st.held.getD a [] ↔ holdsF wd.o (partsOf (psOf (h.fin t).births) a b) = true)
    rw [fin_births]; exact rl.held
  · exact fin_phs ht rl.phs
  · rw [hpl]; exact rl.bro
  · rw [hpl]
    intro o ho hw
    obtain ⟨_, _, _, a, b, c⟩ := fin_wait ht ho hw
    show overB ((h.fin t).modes.getD o false) ((h.fin t).awaited.getD o []) (endB (h.fin t).phases) = false
    rw [a, b]
    exact c
theorem good_mem {wd : Wd} {h : Hall} {t i : Nat} (hi : i ∈ goodN wd h t) : i < h.phases.length ∧ capC wd.r (partsOf (psOf h.births) t i) ∈ wd.cs ∧ holdsF wd.o (partsOf (psOf h.births) t i) = true := by
  obtain ⟨a, b⟩ := List.mem_filter.mp hi
  obtain ⟨c, d⟩ := Bool.and_eq_true_iff.mp (show (decide (capC wd.r (partsOf (psOf h.births) t i) ∈ wd.cs) && holdsF wd.o (partsOf (psOf h.births) t i)) = true from b)
  exact ⟨List.mem_range.mp a, of_decide_eq_true c, d⟩
theorem tgt_set {aw : List (List Nat)} {t n : Nat} {ts : List Nat} (k : ∀ x ∈ aw, x.length ≤ 100 ∧ ∀ i ∈ x, i < n) (h1 : ts.length ≤ 100) (h2 : ∀ i ∈ ts, i < n) : ∀ x ∈ aw.set t ts, x.length ≤ 100 ∧ ∀ i ∈ x, i < n := fun x hx => by
  rcases List.mem_or_eq_of_mem_set hx with hx | hx
  · exact k x hx
  · rw [hx]; exact ⟨h1, h2⟩
theorem endB_wait {ph : List Str} {t : Nat} (ht : t < ph.length) (hr : phAt ph t = ("running" : Str)) : endB (ph.set t ("waiting" : Str)) = endB ph := by
  refine List.ext_getElem (by simp [endB_len]) fun i h1 h2 => ?_
  rw [endB_len] at h2
  have a := endB_at (ph := ph.set t ("waiting" : Str)) (i := i) (by simpa using h2)
  have b := endB_at (ph := ph) (i := i) h2
  rw [getD_nth (by rw [endB_len]; simpa using h2)] at a
  rw [getD_nth (by rw [endB_len]; exact h2)] at b
  rw [a, b]
  by_cases e : i = t
  · subst e
    rw [show phAt (ph.set i ("waiting" : Str)) i = "waiting" from getD_set_eq ht, hr]
    decide
  · rw [show phAt (ph.set t ("waiting" : Str)) i = phAt ph i from getD_set_ne fun q => e q.symm]
theorem rel_wait {wd : Wd} {r : Rt} {h : Hall} {m : Bool} {t : Nat} {ts : List Nat} (rl : Rel wd r h) (ht : t < h.phases.length) (hr : phAt h.phases t = ("running" : Str)) (hl : ts.length ≤ 3) (hg : ∀ i ∈ ts, i < h.phases.length) : Rel wd (r.deed (.wait m t ts)) (h.deed (.wait m t ts)) := by
  obtain ⟨e1, e2, e3, e4, e5⟩ := rel_lens rl
  show Rel wd (r.withSt (r.st.wait t m ts)) (h.begin t ts m)
  unfold St.wait Hall.begin
  rw [show endB r.st.phases = h.done by rw [rl.ph]; rfl]
  by_cases ho : overB m ts h.done = true
  · rw [if_pos ho, if_pos ho]
    exact rl
  · rw [if_neg ho, if_neg ho]
    have l2 := rl.hok.l2
    have l3 := rl.hok.l3
    have s1 := rl.rok.st.l1
    have s2 := rl.rok.st.l2
    have s3 := rl.rok.st.l3
    have hpl : (h.phases.set t ("waiting" : Str)).length = h.phases.length := by simp
    have so : St.Ok ⟨r.st.fam, r.st.phases.set t "waiting", r.st.awaited.set t ts, r.st.modes.set t m, r.st.held⟩ := by
      refine ⟨rl.rok.st.fam, rl.rok.st.tree, by simpa using s1, by simpa using s2, by simpa using s3, rl.rok.st.l4, ?_, rl.rok.st.hb⟩
      show ∀ x ∈ r.st.awaited.set t ts, x.length ≤ 100 ∧ ∀ i ∈ x, i < (r.st.phases.set t ("waiting" : Str)).length
      rw [List.length_set]
      exact tgt_set rl.rok.st.tgt (by omega) fun i hi => by rw [e3]; exact hg i hi
    refine { wok := rl.wok, rok := ⟨rl.rok.rule, so, rl.rok.lim⟩, hok := ?_, reach := rl.reach, cells := rl.cells, hands := rl.hands, limit := rl.limit, len := by rw [hpl]; exact rl.len, ph := ?_, aw := ?_, mo := ?_, par := rl.par, keys := ?_, held := ?_, phs := ?_, bro := ?_, wn := ?_ }
    · refine ⟨by rw [hpl]; exact rl.hok.l1, by rw [List.length_set]; exact l2, by rw [List.length_set]; exact l3, rl.hok.small, rl.hok.par, ?_⟩
      rw [hpl]
      exact tgt_set rl.hok.tgt (by omega) hg
    · show r.st.phases.set t "waiting" = h.phases.set t "waiting"
      rw [rl.ph]
    · show r.st.awaited.set t ts = h.awaited.set t ts
      rw [rl.aw]
    · show r.st.modes.set t m = h.modes.set t m
      rw [rl.mo]
    · rw [hpl]; exact rl.keys
    · rw [hpl]; exact rl.held
    · intro z hz
      rcases List.mem_or_eq_of_mem_set hz with hz | hz
      · exact rl.phs z hz
      · rw [hz]; exact .inr (.inr rfl)
    · rw [hpl]; exact rl.bro
    · rw [hpl]
      intro o h1 h2
      show overB ((h.modes.set t m).getD o false) ((h.awaited.set t ts).getD o []) (endB (h.phases.set t ("waiting" : Str))) = false
      rw [endB_wait ht hr]
      by_cases e : o = t
      · subst e
        rw [getD_set_eq (by omega), getD_set_eq (by omega)]
        exact Bool.eq_false_iff.mpr ho
      · rw [getD_set_ne (fun q => e q.symm), getD_set_ne (fun q => e q.symm)]
        refine rl.wn o h1 ?_
        rw [← h2]
        exact (getD_set_ne fun q => e q.symm).symm
theorem step : Step := by
  intro wd r h e rl nx
  obtain ⟨e1, e2, e3, e4, e5⟩ := rel_lens rl
  cases e with
  | bear t =>
    obtain ⟨a, b, c⟩ := nx
    refine ⟨⟨by omega, by rw [rl.ph]; exact b, by rw [rl.limit]; omega⟩, rel_bear rl a c, ?_⟩
    show (Sum.inl (D.int (r.st.fam.tasks.length : Int)) : D ⊕ List Nat) = .inl (.int ((h.births.length + 1 : Nat) : Int))
    rw [e1, e4]
  | fin t =>
    obtain ⟨a, b⟩ := nx
    refine ⟨⟨by omega, by rw [rl.ph]; exact b⟩, rel_fin rl a, ?_⟩
    show (Sum.inr (r.st.hall.woken t) : D ⊕ List Nat) = .inr (h.woken t)
    rw [rt_hall rl, woken_strip]
  | wait m t ts =>
    obtain ⟨a, b, c, d, f⟩ := nx
    have hg : ∀ i ∈ ts, i < h.phases.length := fun i hi => (good_mem (f i hi)).1
    refine ⟨⟨by omega, ⟨by rw [rl.ph]; exact b, c, by omega, fun i hi => by rw [e1]; exact hg i hi, fun i hi => ?_, fun i hi => ?_⟩⟩, rel_wait rl a b d hg, ?_⟩
    · exact (rl.held t i a (hg i hi)).mpr (good_mem (f i hi)).2.2
    · rw [rl.cells, rl.reach, rl.par]
      exact (good_mem (f i hi)).2.1
    · show (Sum.inl (D.bl (overB m ts (endB r.st.phases))) : D ⊕ List Nat) = .inl (.bl (overB m ts h.done))
      rw [rl.ph]; rfl
theorem startRel : StartRel := by
  intro wd S wok hS hl
  have one : ∀ t : Nat, t < 1 → t = 0 := fun t h => by omega
  refine { wok := wok, rok := ⟨⟨wok.r1, wok.r4, fun c hc => wok.c c ((hS c).mp hc), by show S.length ≤ 900; omega⟩, ⟨⟨rfl, rfl, rfl, rfl, Nat.le_of_ble_eq_true rfl, Nat.le_of_ble_eq_true rfl, fun b hb => ?_⟩, ⟨fun t ht => ?_⟩, rfl, rfl, rfl, rfl, fun ts h => ?_, fun ks h => ?_⟩, by show wd.l ≤ 600; have := wok.l2; omega⟩, hok := ⟨rfl, rfl, rfl, Nat.zero_le _, (fun i hi => absurd hi (Nat.not_lt_zero _)), fun ts h => ?_⟩, reach := rfl, cells := hS, hands := rfl, limit := rfl, len := by show 1 ≤ wd.l; have := wok.l1; omega, ph := rfl, aw := rfl, mo := rfl, par := rfl, keys := ?_, held := ?_, phs := ?_, bro := ?_, wn := ?_ }
  · rw [List.mem_singleton.mp (show b ∈ [([] : List Nat)] from hb)]; exact Nat.zero_le _
  · have e := one t ht
    subst e
    exact .inl ⟨rfl, rfl, rfl⟩
  · rw [List.mem_singleton.mp (show ts ∈ [([] : List Nat)] from h)]; exact ⟨Nat.zero_le _, fun i hi => by cases hi⟩
  · rw [List.mem_singleton.mp (show ks ∈ [([] : List Nat)] from h)]; exact Nat.zero_le _
  · rw [List.mem_singleton.mp (show ts ∈ [([] : List Nat)] from h)]; exact ⟨Nat.zero_le _, fun i hi => by cases hi⟩
  · intro ks h
    rw [List.mem_singleton.mp (show ks ∈ [([] : List Nat)] from h)]
    exact ⟨List.nodup_nil, fun i hi => by cases hi⟩
  · intro a b ha hb
    have e := one a ha
    have f := one b hb
    subst e f
    constructor
    · exact fun h => by cases (show 0 ∈ ([] : List Nat) from h)
    · intro h
      rw [holds_get] at h
      exact Bool.noConfusion (show false = true from h)
  · intro z hz
    rw [List.mem_singleton.mp hz]
    exact .inr (.inl rfl)
  · intro b hb
    rw [List.mem_singleton.mp (show b ∈ [([] : List Nat)] from hb)]
    exact Nat.zero_le _
  · intro o ho hw
    have e := one o ho
    subst e
    exact absurd (show ("running" : Str) = "waiting" from hw) (by decide)
/-! M7: rounds of ends, delays. -/
abbrev ovr (s : St) (ph : List Str) (o : Nat) : Bool := overB (s.modes.getD o false) (s.awaited.getD o []) (endB ph)
/-- what holds of a state t that ends have made of s; A: who may run besides -/
structure Kept (s t : St) (A : Nat → Prop) : Prop where
  n : t.phases.length = s.phases.length
  w : ∀ o, o < s.phases.length → phAt t.phases o = ("waiting" : Str) → phAt s.phases o = ("waiting" : Str) ∧ t.awaited.getD o [] = s.awaited.getD o [] ∧ t.modes.getD o false = s.modes.getD o false ∧ ovr s t.phases o = false
  r : ∀ o, o < s.phases.length → phAt t.phases o = ("running" : Str) → A o ∨ (phAt s.phases o = ("waiting" : Str) ∧ ovr s t.phases o = true)
  p : ∀ z ∈ t.phases, PhOk z
theorem end_mono {s : St} {x i : Nat} (hx : x < s.phases.length) (h : (endB s.phases).getD i false = true) : (endB (s.fin x).phases).getD i false = true := by
  by_cases hi : i < s.phases.length
  · rw [endB_at hi, decide_eq_true_iff] at h
    rw [endB_at (by rw [St.fin_len]; exact hi), decide_eq_true_iff, St.fin_at hx hi]
    split
    · rfl
    · rename_i e
      split
      · rename_i hm
        have := (mem_woken.mp hm).2.1
        rw [show phAt (s.hall.phases.set x ("ended" : Str)) i = phAt s.phases i from getD_set_ne fun q => e q.symm, h] at this
        exact absurd this (by decide)
      · exact h
  · rw [List.getD_eq_getElem?_getD, List.getElem?_eq_none (by rw [endB_len]; omega)] at h
    cases h
theorem Kept.fin {s t : St} {A : Nat → Prop} {x : Nat} (k : Kept s t A) (hx : x < s.phases.length) : Kept s (t.fin x) A := by
  have hn := k.n
  have hx' : x < t.hall.phases.length := by show x < t.phases.length; omega
  refine ⟨St.fin_len.trans hn, fun o ho hw => ?_, fun o ho hr => ?_, fin_phs hx' k.p⟩
  · obtain ⟨_, _, a, b, c, d⟩ := fin_wait hx' (show o < t.phases.length by omega) hw
    obtain ⟨e1, e2, e3, e4⟩ := k.w o ho a
    refine ⟨e1, (show (t.hall.fin x).awaited.getD o [] = _ from b).trans e2, (show (t.hall.fin x).modes.getD o false = _ from c).trans e3, ?_⟩
    have d2 : overB (t.modes.getD o false) (t.awaited.getD o []) (endB (t.fin x).phases) = false := d
    rw [e2, e3] at d2
    exact d2
  · rw [St.fin_at (by omega) (by omega)] at hr
    by_cases e : o = x
    · rw [if_pos e] at hr
      exact absurd hr (by decide)
    · rw [if_neg e] at hr
      by_cases hm : o ∈ t.hall.woken x
      · obtain ⟨_, h2, h3⟩ := mem_woken.mp hm
        rw [show phAt (t.hall.phases.set x ("ended" : Str)) o = phAt t.phases o from getD_set_ne fun q => e q.symm] at h2
        obtain ⟨e1, e2, e3, e4⟩ := k.w o ho h2
        refine .inr ⟨e1, ?_⟩
        rw [← fin_endB hx'] at h3
        have h4 : overB (t.modes.getD o false) (t.awaited.getD o []) (endB (t.fin x).phases) = true := h3
        rw [e2, e3] at h4
        exact h4
      · rw [if_neg hm] at hr
        rcases k.r o ho hr with a | ⟨a, b⟩
        · exact .inl a
        · exact .inr ⟨a, over_mono (fun i _ h => end_mono (by omega) h) b⟩
theorem Kept.endAll {s : St} {A : Nat → Prop} : ∀ (l : List Nat) (t : St), Kept s t A → (∀ x ∈ l, x < s.phases.length) → Kept s (endAll t l) A
  | [], t, k, _ => k
  | x :: l, t, k, hl => Kept.endAll l (t.fin x) (k.fin (hl x (List.mem_cons_self ..))) fun y hy => hl y (List.mem_cons_of_mem _ hy)
/-- the states that delays are told of -/
structure Calm (s : St) : Prop where
  phs : ∀ z ∈ s.phases, PhOk z
  wn : ∀ o, o < s.phases.length → phAt s.phases o = ("waiting" : Str) → ovr s s.phases o = false
theorem runs_mem {s : St} {o : Nat} : o ∈ runs s ↔ o < s.phases.length ∧ phAt s.phases o = ("running" : Str) := mem_phL
theorem ended_succ {s : St} {j o : Nat} (ho : o < s.phases.length) : phAt (stK s (j + 1)).phases o = ("ended" : Str) ↔ o ∈ runs (stK s j) ∨ phAt (stK s j).phases o = ("ended" : Str) :=
  endAll_ended (runs (stK s j)) (stK s j) phL_nodup (fun x hx => runs_mem.mp hx) o (by rw [stK_len]; exact ho)
/-- behind j rounds -/
theorem kept_K {s : St} (c : Calm s) : ∀ j, Kept s (stK s j) fun _ => j = 0
  | 0 => ⟨rfl, fun o ho hw => ⟨hw, rfl, rfl, c.wn o ho hw⟩, fun o ho hr => .inl rfl, c.phs⟩
  | j + 1 => by
    have k := kept_K c j
    have k2 : Kept s (stK s j) fun o => o ∈ runs (stK s j) := ⟨k.n, k.w, fun o ho hr => .inl (runs_mem.mpr ⟨by rw [k.n]; exact ho, hr⟩), k.p⟩
    have k3 := Kept.endAll (runs (stK s j)) (stK s j) k2 fun x hx => by rw [← k.n]; exact (runs_mem.mp hx).1
    refine ⟨k3.n, k3.w, fun o ho hr => ?_, k3.p⟩
    rcases k3.r o ho hr with a | a
    · have e := (ended_succ (j := j) ho).mpr (.inl a)
      rw [show phAt (stK s (j + 1)).phases o = "running" from hr] at e
      exact absurd e (by decide)
    · exact .inr a
/-- the round in which a task ends, as far as j rounds tell -/
def dd (s : St) : Nat → Nat → Option Nat
  | 0, i => if phAt s.phases i = ("ended" : Str) then some 0 else none
  | j + 1, i => if i ∈ runs (stK s j) then some (j + 1) else dd s j i
theorem dd_le {s : St} : ∀ {j i m}, dd s j i = some m → m ≤ j
  | 0, i, m, h => by
    unfold dd at h
    split at h
    · cases h; exact Nat.le_refl _
    · cases h
  | j + 1, i, m, h => by
    unfold dd at h
    split at h
    · cases h; exact Nat.le_refl _
    · exact Nat.le_succ_of_le (dd_le h)
theorem dd_some {s : St} : ∀ {j i}, i < s.phases.length → ((dd s j i).isSome = decide (phAt (stK s j).phases i = ("ended" : Str)))
  | 0, i, hi => by
    unfold dd
    by_cases h : phAt s.phases i = ("ended" : Str)
    · rw [if_pos h, show phAt (stK s 0).phases i = "ended" from h]; rfl
    · rw [if_neg h, eq_comm]; exact decide_eq_false h
  | j + 1, i, hi => by
    have ih := @dd_some s j i hi
    have e := @ended_succ s j i hi
    unfold dd
    by_cases h : i ∈ runs (stK s j)
    · rw [if_pos h, eq_comm]
      exact decide_eq_true (e.mpr (.inl h))
    · rw [if_neg h, ih, decide_eq_decide, e]
      exact ⟨.inr, fun q => q.resolve_left h⟩
theorem dd_stop {s : St} {k : Nat} (h : ∀ j, k ≤ j → runs (stK s j) = []) : ∀ d i, dd s (k + d) i = dd s k i
  | 0, i => rfl
  | d + 1, i => by
    show (if i ∈ runs (stK s (k + d)) then some ((k + d) + 1) else dd s (k + d) i) = dd s k i
    rw [h (k + d) (by omega), if_neg (by simp)]
    exact dd_stop h d i
theorem map_get {f : Nat → Option Nat} {n i : Nat} (hi : i < n) : ((List.range n).map f).getD i none = f i := by
  rw [List.getD_eq_getElem?_getD, List.getElem?_map, List.getElem?_range hi]; rfl
theorem map_leN {f : Nat → Option Nat} {n c : Nat} {ph : List Str} (hn : ph.length = n) (h : ∀ i, i < n → leN c (f i) = decide (phAt ph i = ("ended" : Str))) : ((List.range n).map f).map (leN c) = endB ph := by
  refine List.ext_getElem (by simp [endB_len, hn]) fun i h1 h2 => ?_
  rw [endB_len, hn] at h2
  have b := endB_at (ph := ph) (i := i) (by omega)
  rw [getD_nth (by rw [endB_len]; omega)] at b
  rw [b, ← h i h2]
  simp
theorem nums_dd {s : St} (c : Calm s) : ∀ m, numsN s.phases s.awaited s.modes (m + 1) = (List.range s.phases.length).map (dd s (m + 1))
  | 0 => by
    have e0 : numsN s.phases s.awaited s.modes 0 = (List.range s.phases.length).map (dd s 1) := by
      refine List.ext_getElem (by simp [numsN]) fun i h1 h2 => ?_
      have hi : i < s.phases.length := by simpa using h2
      have hp := c.phs _ (phAt_mem hi)
      have hg : phAt s.phases i = s.phases[i] := getD_nth hi
      simp only [numsN, List.getElem_map, List.getElem_range]
      rw [← hg]
      unfold dd firstN dd
      have hr : i ∈ runs (stK s 0) ↔ phAt s.phases i = ("running" : Str) := ⟨fun q => (runs_mem.mp q).2, fun q => runs_mem.mpr ⟨hi, q⟩⟩
      simp only [hr]
      rcases hp with e | e | e <;> rw [e] <;> decide
    rw [numsN, e0]
    unfold stepN
    rw [show ((List.range s.phases.length).map (dd s 1)).length = s.phases.length by simp]
    refine List.map_congr_left fun i hi => ?_
    have hi' := List.mem_range.mp hi
    unfold newN
    rw [map_get hi']
    have hl : ((List.range s.phases.length).map (dd s 1)).map (leN 0) = endB s.phases := map_leN rfl fun i hi => by
      unfold dd
      by_cases h : i ∈ runs (stK s 0)
      · rw [if_pos h, show phAt s.phases i = "running" from (runs_mem.mp h).2]; decide
      · rw [if_neg h]
        unfold dd
        by_cases h2 : phAt s.phases i = ("ended" : Str)
        · rw [if_pos h2, h2]; decide
        · rw [if_neg h2, eq_comm]; exact decide_eq_false h2
    rw [hl]
    rw [if_neg]
    intro h
    obtain ⟨h1, h2⟩ := Bool.and_eq_true_iff.mp h
    have h3 : phAt s.phases i = ("waiting" : Str) := by
      unfold dd at h1
      have hp := c.phs _ (phAt_mem hi')
      split at h1
      · cases h1
      · rename_i hn
        unfold dd at h1
        split at h1
        · cases h1
        · rename_i he
          rcases hp with e | e | e
          · exact absurd e he
          · exact absurd (runs_mem.mpr ⟨hi', e⟩) hn
          · exact e
    have h4 : ovr s s.phases i = true := h2
    rw [c.wn i hi' h3] at h4
    cases h4
  | m + 1 => by
    rw [numsN, nums_dd c m]
    unfold stepN
    rw [show ((List.range s.phases.length).map (dd s (m + 1))).length = s.phases.length by simp]
    have hl : ((List.range s.phases.length).map (dd s (m + 1))).map (leN (m + 1)) = endB (stK s (m + 1)).phases := map_leN (stK_len s _) fun i hi => by
      rw [← dd_some hi]
      cases e : dd s (m + 1) i with
      | none => rfl
      | some x =>
        show decide (x ≤ m + 1) = true
        exact decide_eq_true (dd_le e)
    refine List.map_congr_left fun i hi => ?_
    have hi' := List.mem_range.mp hi
    unfold newN
    rw [map_get hi', hl]
    have ks := kept_K c (m + 1)
    have hs := @dd_some s (m + 1) i hi'
    show (if (dd s (m + 1) i).isNone && ovr s (stK s (m + 1)).phases i then some (m + 1 + 1) else dd s (m + 1) i) = (if i ∈ runs (stK s (m + 1)) then some (m + 1 + 1) else dd s (m + 1) i)
    by_cases h : i ∈ runs (stK s (m + 1))
    · rw [if_pos h]
      have hr := (runs_mem.mp h).2
      rw [hr, decide_eq_false (by decide)] at hs
      have hn : (dd s (m + 1) i).isNone = true := by
        cases e : dd s (m + 1) i with
        | none => rfl
        | some x => rw [e] at hs; cases hs
      rcases ks.r i hi' hr with q | ⟨_, q⟩
      · cases q
      · rw [hn, q]; rfl
    · rw [if_neg h, if_neg]
      intro q
      obtain ⟨h1, h2⟩ := Bool.and_eq_true_iff.mp q
      have hne : ¬ phAt (stK s (m + 1)).phases i = ("ended" : Str) := fun e => by
        rw [e, decide_eq_true rfl] at hs
        cases e2 : dd s (m + 1) i with
        | none => rw [e2] at hs; cases hs
        | some x => rw [e2] at h1; cases h1
      rcases ks.p _ (phAt_mem (by rw [stK_len]; exact hi')) with e | e | e
      · exact hne e
      · exact h (runs_mem.mpr ⟨by rw [stK_len]; exact hi', e⟩)
      · rw [(ks.w i hi' e).2.2.2] at h2
        cases h2
/-! the law's own delays -/
theorem setAll_get {k : Nat} : ∀ (l : List Nat) (d : List (Option Nat)) (i : Nat), i < d.length → (setAll d k l).getD i none = if i ∈ l then some (k + 1) else d.getD i none
  | [], d, i, hi => by simp [setAll]
  | x :: l, d, i, hi => by
    show (setAll (d.set x (some (k + 1))) k l).getD i none = _
    rw [setAll_get l _ i (by simpa using hi)]
    by_cases h : i ∈ l
    · rw [if_pos h, if_pos (List.mem_cons_of_mem _ h)]
    · rw [if_neg h]
      by_cases e : i = x
      · subst e
        rw [if_pos (List.mem_cons_self ..), getD_set_eq hi]
      · rw [if_neg (by simp [e, h]), getD_set_ne (fun q => e q.symm)]
theorem due_dd {s : St} {rs : List (List Nat)} : ∀ j, (∀ k, k < j → rs.getD k [] = runs (stK s k)) → dueR s.phases rs j = (List.range s.phases.length).map (dd s j)
  | 0, _ => by
    unfold dueR due0
    refine List.map_congr_left fun i hi => ?_
    have := List.mem_range.mp hi
    unfold dd
    by_cases e : phAt s.phases i = ("ended" : Str)
    · rw [if_pos ⟨this, e⟩, if_pos e]
    · rw [if_neg (fun q => e q.2), if_neg e]
  | j + 1, h => by
    rw [dueR_succ, due_dd j fun k hk => h k (by omega), h j (by omega)]
    refine List.ext_getElem (by rw [setAll_len]; simp) fun i h1 h2 => ?_
    have hi : i < s.phases.length := by simpa using h2
    have e := setAll_get (k := j) (runs (stK s j)) ((List.range s.phases.length).map (dd s j)) i (by simpa using hi)
    rw [getD_nth h1, map_get hi] at e
    rw [e]
    simp only [List.getElem_map, List.getElem_range]
    rfl
/-! the rounds stop -/
theorem rounds_stop (s : St) : ∃ k, k ≤ s.phases.length ∧ (∀ i, i < k → runs (stK s i) ≠ []) ∧ runs (stK s k) = [] := by
  have key : ∀ m, (∃ k, k ≤ m ∧ (∀ i, i < k → runs (stK s i) ≠ []) ∧ runs (stK s k) = []) ∨ ((∀ i, i ≤ m → runs (stK s i) ≠ []) ∧ m ≤ cntE (stK s m).phases) := by
    intro m
    induction m with
    | zero =>
      by_cases h : runs (stK s 0) = []
      · exact .inl ⟨0, Nat.le_refl _, fun i hi => absurd hi (Nat.not_lt_zero _), h⟩
      · exact .inr ⟨fun i hi => by rw [show i = 0 by omega]; exact h, Nat.zero_le _⟩
    | succ m ih =>
      rcases ih with ⟨k, a, b, c⟩ | ⟨a, b⟩
      · exact .inl ⟨k, by omega, b, c⟩
      · by_cases h : runs (stK s (m + 1)) = []
        · exact .inl ⟨m + 1, Nat.le_refl _, fun i hi => a i (by omega), h⟩
        · refine .inr ⟨fun i hi => ?_, ?_⟩
          · by_cases e : i = m + 1
            · rw [e]; exact h
            · exact a i (by omega)
          · have := round_cnt (s := stK s m) (a m (Nat.le_refl _))
            exact Nat.lt_of_le_of_lt b this
  rcases key s.phases.length with ⟨k, a, b, c⟩ | ⟨a, b⟩
  · exact ⟨k, a, b, c⟩
  · have h1 := round_cnt (s := stK s s.phases.length) (a _ (Nat.le_refl _))
    have h2 := cntE_le (stK s (s.phases.length + 1)).phases
    rw [stK_len] at h2
    exact absurd h2 (by
      have : cntE (stK s s.phases.length).phases < cntE (stK s (s.phases.length + 1)).phases := h1
      omega)
theorem stK_stop {s : St} {k : Nat} (h : runs (stK s k) = []) : ∀ d, stK s (k + d) = stK s k
  | 0 => rfl
  | d + 1 => by
    show endAll (stK s (k + d)) (runs (stK s (k + d))) = _
    rw [stK_stop h d, h]
    rfl
theorem stop_all {s : St} {k : Nat} (h : runs (stK s k) = []) : ∀ j, k ≤ j → runs (stK s j) = [] := fun j hj => by
  rw [show j = k + (j - k) by omega, stK_stop h, h]
theorem calm_K {s : St} (c : Calm s) (j : Nat) : Calm (stK s j) := by
  have k := kept_K c j
  refine ⟨k.p, fun o ho hw => ?_⟩
  rw [k.n] at ho
  obtain ⟨_, a, b, d⟩ := k.w o ho hw
  show overB ((stK s j).modes.getD o false) ((stK s j).awaited.getD o []) (endB (stK s j).phases) = false
  rw [a, b]
  exact d
theorem del_ok {s : St} (ok : s.Ok) (c : Calm s) (sm : s.phases.length ≤ 600) : DelOk s.phases s.awaited s.modes := ⟨ok.l2.trans ok.l1.symm, ok.l3.trans ok.l1.symm, sm, c.phs, fun ts h => (ok.tgt ts h).2⟩
/-! the hall's rounds -/
theorem endAll_hall : ∀ (l : List Nat) (s : St) (h : Hall), s.hall = h.strip → (endAll s l).hall = (endH h l).strip
  | [], s, h, e => e
  | x :: l, s, h, e => endAll_hall l (s.fin x) (h.fin x) (by
    have e1 : s.hall.fin x = (h.fin x).strip := by rw [e, fin_strip]
    show (⟨[], (s.hall.fin x).phases, (s.hall.fin x).awaited, (s.hall.fin x).modes⟩ : Hall) = _
    rw [e1]
    rfl)
theorem stK_hall {s : St} {h : Hall} (e : s.hall = h.strip) : ∀ j, (stK s j).hall = (hallK h j).strip
  | 0 => e
  | j + 1 => by
    have ih := stK_hall e j
    have ep : (stK s j).phases = (hallK h j).phases := congrArg Hall.phases ih
    show (endAll (stK s j) (runs (stK s j))).hall = (endH (hallK h j) (runH (hallK h j))).strip
    rw [show runs (stK s j) = runH (hallK h j) by unfold runs runH; rw [ep]]
    exact endAll_hall _ _ _ ih
theorem runs_hall {s : St} {h : Hall} (e : s.hall = h.strip) (j : Nat) : runs (stK s j) = runH (hallK h j) := by
  have ep : (stK s j).phases = (hallK h j).phases := congrArg Hall.phases (stK_hall e j)
  unfold runs runH
  rw [ep]
theorem rounds_eq {s : St} {h : Hall} (e : s.hall = h.strip) {k : Nat} (go : ∀ i, i < k → runs (stK s i) ≠ []) (stop : runs (stK s k) = []) : ∀ m, k ≤ m → roundsH h m = roundsK s k := by
  have h1 : ∀ m, m ≤ k → roundsH h m = roundsK s m := by
    intro m
    induction m with
    | zero => exact fun _ => rfl
    | succ m ih =>
      intro hm
      rw [roundsH_succ, ih (by omega), ← runs_hall e, if_pos (List.length_pos_iff.mpr (go m (by omega)))]
      unfold roundsK
      rw [List.range_succ, List.map_append]
      rfl
  intro m hm
  induction m with
  | zero => rw [show k = 0 by omega]; rfl
  | succ m ih =>
    by_cases h2 : k = m + 1
    · subst h2; exact h1 _ (Nat.le_refl _)
    · rw [roundsH_succ, ih (by omega), ← runs_hall e, stop_all stop m (by omega), if_neg (by simp), List.append_nil]
theorem endsAll : EndsAll := by
  intro wd r h rl
  obtain ⟨e1, e2, e3, e4, e5⟩ := rel_lens rl
  have eh := rt_hall rl
  obtain ⟨k, hk, go, stop⟩ := rounds_stop r.st
  have c : Calm r.st := ⟨by rw [rl.ph]; exact rl.phs, fun o ho hw => by
    have := rl.wn o (by omega) (by rw [← rl.ph]; exact hw)
    show overB (r.st.modes.getD o false) (r.st.awaited.getD o []) (endB r.st.phases) = false
    rw [rl.mo, rl.aw, rl.ph]
    exact this⟩
  have okk := stK_ok rl.rok.st k
  have ck := calm_K c k
  have er := rounds_eq eh go stop h.phases.length (by omega)
  have ek : hallK h h.phases.length = hallK h h.phases.length := rfl
  have en : (stK r.st h.phases.length).hall = (hallK h h.phases.length).strip := stK_hall eh _
  have es : stK r.st h.phases.length = stK r.st k := by
    rw [show h.phases.length = k + (h.phases.length - k) by omega, stK_stop stop]
  rw [es] at en
  have hrs : (roundsH h h.phases.length).length = k := by rw [er]; simp [roundsK]
  have hget : ∀ j, j < k → (roundsH h h.phases.length).getD j [] = runs (stK r.st j) := fun j hj => by
    rw [er]
    unfold roundsK
    rw [List.getD_eq_getElem?_getD, List.getElem?_map, List.getElem?_range hj]
    rfl
  have hdue : dueR h.phases (roundsH h h.phases.length) (roundsH h h.phases.length).length = (List.range r.st.phases.length).map (dd r.st k) := by
    rw [hrs, ← rl.ph]
    exact due_dd k (by rw [rl.ph]; exact hget)
  refine ⟨k, { go := go, stop := stop, del := del_ok rl.rok.st c (by omega), due := ?_, rounds := er.symm, ph := congrArg Hall.phases en, aw := congrArg Hall.awaited en, del2 := del_ok okk ck (by rw [stK_len]; omega), left := ?_ }⟩
  · rw [nums_dd c, hdue]
    refine List.map_congr_left fun i _ => ?_
    rw [show r.st.phases.length + 1 = k + (r.st.phases.length + 1 - k) by omega]
    exact dd_stop (stop_all stop) _ i
  · rw [nums_dd ck, hdue, List.map_map, stK_len]
    refine List.map_congr_left fun i hi => ?_
    have hi' := List.mem_range.mp hi
    have st0 : runs (stK (stK r.st k) 0) = [] := stop
    have hz := dd_stop (s := stK r.st k) (k := 0) (stop_all st0) (r.st.phases.length + 1) i
    rw [Nat.zero_add] at hz
    rw [hz]
    have hs := @dd_some r.st k i hi'
    show (if phAt (stK r.st k).phases i = ("ended" : Str) then some 0 else none) = (dd r.st k i).map fun _ => 0
    cases e : dd r.st k i with
    | none =>
      rw [e] at hs
      rw [if_neg (of_decide_eq_false hs.symm)]
      rfl
    | some x =>
      rw [e] at hs
      rw [if_pos (of_decide_eq_true hs.symm)]
      rfl
theorem tx {w : World} {K : PySem.W.Frag} {h : Heap} {mg : Str → Option Value} (X : K.In h) (G : h.Ns mainGlobals mg) (c : SaysY yfa yfn yts w K) : Tx K mg where
  mlen := He.free_ok X G (x := "len") (c.fact 76 rfl)
  mrange := He.free_ok X G (x := "range") (c.fact 77 rfl)
  mlist := He.free_ok X G (x := "list") (c.fact 78 rfl)
  mtuple := He.free_ok X G (x := "tuple") (c.fact 79 rfl)
  mint := He.free_ok X G (x := "int") (c.fact 80 rfl)
  mbool := He.free_ok X G (x := "bool") (c.fact 81 rfl)
  mstr := He.free_ok X G (x := "str") (c.fact 82 rfl)
  mmin := He.free_ok X G (x := "min") (c.fact 83 rfl)
  misinstance := He.free_ok X G (x := "isinstance") (c.fact 84 rfl)
  g_Kin := He.glo_ok X G (x := "Kin") (c.fact 85 rfl)
  c_Kin := He.cls_ok (x := "Kin") (c.fact 86 rfl)
  na_Kin_up := He.noat_ok (x := "Kin") (f := "up") (c.fact 87 rfl)
  na_Kin_down := He.noat_ok (x := "Kin") (f := "down") (c.fact 88 rfl)
  na_Kin_side := He.noat_ok (x := "Kin") (f := "side") (c.fact 89 rfl)
  na_Kin_far := He.noat_ok (x := "Kin") (f := "far") (c.fact 90 rfl)
  na_Kin_rank := He.noat_ok (x := "Kin") (f := "rank") (c.fact 91 rfl)
  con_Kin_MOST := fCon_ok (C := "Kin") (f := "MOST") (i := 999) (c.fact 92 rfl) (by decide)
  own_Kin := fOwn_ok (C := "Kin") (c.fact 93 rfl)
  kit_Kin := fKit_ok (C := "Kin") (c.fact 94 rfl)
  bini_Kin_Mod := fBin_ok (C := "Kin") (op := .Mod) (c.fact 95 rfl)
  t_SIDES := ⟨He.glo_ok X G (x := "SIDES") (c.fact 96 rfl), (fTup_ok (x := "SIDES") (zs := ["line", "elder", "younger"]) (c.fact 97 rfl)).1, (fTup_ok (x := "SIDES") (zs := ["line", "elder", "younger"]) (c.fact 97 rfl)).2⟩
  i_LEAST_REACH := He.int_ok X G (x := "LEAST_REACH") (i := 1) (c.fact 98 rfl)
  i_MOST_REACH := He.int_ok X G (x := "MOST_REACH") (i := 4) (c.fact 99 rfl)
  g_Rule := He.glo_ok X G (x := "Rule") (c.fact 100 rfl)
  c_Rule := He.cls_ok (x := "Rule") (c.fact 101 rfl)
  na_Rule__reach := He.noat_ok (x := "Rule") (f := "_reach") (c.fact 102 rfl)
  na_Rule__let := He.noat_ok (x := "Rule") (f := "_let") (c.fact 103 rfl)
  na_Rule__rows := He.noat_ok (x := "Rule") (f := "_rows") (c.fact 104 rfl)
  noseq_Rule := (c.fact 105 rfl)
  g_Hands := He.glo_ok X G (x := "Hands") (c.fact 106 rfl)
  c_Hands := He.cls_ok (x := "Hands") (c.fact 107 rfl)
  na_Hands_keeps := He.noat_ok (x := "Hands") (f := "keeps") (c.fact 108 rfl)
  na_Hands_greets := He.noat_ok (x := "Hands") (f := "greets") (c.fact 109 rfl)
  na_Hands_inherits := He.noat_ok (x := "Hands") (f := "inherits") (c.fact 110 rfl)
  na_Hands_told := He.noat_ok (x := "Hands") (f := "told") (c.fact 111 rfl)
  g_Family := He.glo_ok X G (x := "Family") (c.fact 112 rfl)
  c_Family := He.cls_ok (x := "Family") (c.fact 113 rfl)
  na_Family__tasks := He.noat_ok (x := "Family") (f := "_tasks") (c.fact 114 rfl)
  na_Family__parents := He.noat_ok (x := "Family") (f := "_parents") (c.fact 115 rfl)
  na_Family__places := He.noat_ok (x := "Family") (f := "_places") (c.fact 116 rfl)
  na_Family__depths := He.noat_ok (x := "Family") (f := "_depths") (c.fact 117 rfl)
  na_Family__broods := He.noat_ok (x := "Family") (f := "_broods") (c.fact 118 rfl)
  con_Family_MOST := fCon_ok (C := "Family") (f := "MOST") (i := 600) (c.fact 119 rfl) (by decide)
  cval_Family_MOST := fVal_ok (C := "Family") (f := "MOST") (i := 600) (c.fact 120 rfl) (c.fact 121 rfl)
  g_State := He.glo_ok X G (x := "State") (c.fact 122 rfl)
  c_State := He.cls_ok (x := "State") (c.fact 123 rfl)
  na_State_family := He.noat_ok (x := "State") (f := "family") (c.fact 124 rfl)
  na_State_phases := He.noat_ok (x := "State") (f := "phases") (c.fact 125 rfl)
  na_State_awaited := He.noat_ok (x := "State") (f := "awaited") (c.fact 126 rfl)
  na_State_modes := He.noat_ok (x := "State") (f := "modes") (c.fact 127 rfl)
  na_State_held := He.noat_ok (x := "State") (f := "held") (c.fact 128 rfl)
  g_Runtime := He.glo_ok X G (x := "Runtime") (c.fact 129 rfl)
  c_Runtime := He.cls_ok (x := "Runtime") (c.fact 130 rfl)
  na_Runtime__rule := He.noat_ok (x := "Runtime") (f := "_rule") (c.fact 131 rfl)
  na_Runtime__hands := He.noat_ok (x := "Runtime") (f := "_hands") (c.fact 132 rfl)
  na_Runtime__limit := He.noat_ok (x := "Runtime") (f := "_limit") (c.fact 133 rfl)
  na_Runtime_state := He.noat_ok (x := "Runtime") (f := "state") (c.fact 134 rfl)
theorem lawAt {w : World} {K : PySem.W.Frag} {h : Heap} {mg : Str → Option Value} {P : Program} {base : Heap} {fd_law : FuncData} (X : K.In h) (G : h.Ns mainGlobals mg) (c : SaysY yfa yfn yts w K) (F_law : FunD K "law" "law" (defArgs s_law) (defBody s_law) (defScope s_law) [] [] (He.ga K "law") fd_law) : FnOk P w K mg base (L2.CX P w) 12 (He.ga K "law") fd_law ["script"] (conc K (aLaw K)) := by
-- law: fn 74, glo 75
  have T : Tx K mg := tx X G c
  have hF : FirstOk K w mg := ⟨He.glo_ok X G (x := "FIRST") (c.fact 135 rfl), c.tab 0 rfl, fNs_ok (x := "FIRST") (k := "ended") (i := 0) (c.fact 136 rfl), fNs_ok (x := "FIRST") (k := "running") (i := 1) (c.fact 137 rfl), He.eqO_ok (c.fact 138 rfl)⟩
  obtain ⟨fd_capped, F_capped⟩ : ∃ fd, FunD K "capped" "capped" (defArgs s_capped) (defBody s_capped) (defScope s_capped) [] [] (He.ga K "capped") fd := c.def_ 4 (d := y_capped) rfl
  have h_capped : DefAt P w K mg base 1 "capped" aCapped := ⟨_, _, _, He.glo_ok X G (x := "capped") (c.fact 4 rfl), F_capped.kp, ok_capped (P := P) (w := w) (base := base) F_capped, (F_capped.bindsN fun _ _ _ _ _ _ us hl => match us, hl with | [_, _], _ => rfl)⟩
  obtain ⟨fd_fits_side, F_fits_side⟩ : ∃ fd, FunD K "fits_side" "fits_side" (defArgs s_fits_side) (defBody s_fits_side) (defScope s_fits_side) [] [] (He.ga K "fits_side") fd := c.def_ 5 (d := y_fits_side) rfl
  have h_fits_side : DefAt P w K mg base 1 "fits_side" aFits := ⟨_, _, _, He.glo_ok X G (x := "fits_side") (c.fact 5 rfl), F_fits_side.kp, ok_fits (P := P) (w := w) (base := base) F_fits_side, (F_fits_side.bindsN fun _ _ _ _ _ _ us hl => match us, hl with | [_, _, _], _ => rfl)⟩
  obtain ⟨fd_is_over, F_is_over⟩ : ∃ fd, FunD K "is_over" "is_over" (defArgs s_is_over) (defBody s_is_over) (defScope s_is_over) [] [] (He.ga K "is_over") fd := c.def_ 0 (d := y_is_over) rfl
  have h_is_over : DefAt P w K mg base 1 "is_over" (aOver K) := ⟨_, _, _, He.glo_ok X G (x := "is_over") (c.fact 0 rfl), F_is_over.kp, ok_over (P := P) (w := w) (base := base) F_is_over, (F_is_over.bindsN fun _ _ _ _ _ _ us hl => match us, hl with | [_, _, _], _ => rfl)⟩
  obtain ⟨fd__law_over, F__law_over⟩ : ∃ fd, FunD K "_law_over" "_law_over" (defArgs s__law_over) (defBody s__law_over) (defScope s__law_over) [] [] (He.ga K "_law_over") fd := c.def_ 60 (d := y__law_over) rfl
  have h__law_over : DefAt P w K mg base 1 "_law_over" (aLOver K) := ⟨_, _, _, He.glo_ok X G (x := "_law_over") (c.fact 61 rfl), F__law_over.kp, ok_lover (P := P) (w := w) (base := base) F__law_over, (F__law_over.bindsN fun _ _ _ _ _ _ us hl => match us, hl with | [_, _, _], _ => rfl)⟩
  obtain ⟨fd__law_running, F__law_running⟩ : ∃ fd, FunD K "_law_running" "_law_running" (defArgs s__law_running) (defBody s__law_running) (defScope s__law_running) [] [] (He.ga K "_law_running") fd := c.def_ 63 (d := y__law_running) rfl
  have h__law_running : DefAt P w K mg base 1 "_law_running" (aLRun K) := ⟨_, _, _, He.glo_ok X G (x := "_law_running") (c.fact 64 rfl), F__law_running.kp, ok_lrun (P := P) (w := w) (base := base) F__law_running T.mrange T.mlen, (F__law_running.bindsN fun _ _ _ _ _ _ us hl => match us, hl with | [_], _ => rfl)⟩
  obtain ⟨fd__law_bears, F__law_bears⟩ : ∃ fd, FunD K "_law_bears" "_law_bears" (defArgs s__law_bears) (defBody s__law_bears) (defScope s__law_bears) [] [] (He.ga K "_law_bears") fd := c.def_ 59 (d := y__law_bears) rfl
  have h__law_bears : DefAt P w K mg base 1 "_law_bears" (aLBears K) := ⟨_, _, _, He.glo_ok X G (x := "_law_bears") (c.fact 60 rfl), F__law_bears.kp, ok_lbears (P := P) (w := w) (base := base) F__law_bears T.mlen, (F__law_bears.bindsN fun _ _ _ _ _ _ us hl => match us, hl with | [_, _], _ => rfl)⟩
  obtain ⟨fd__law_begins, F__law_begins⟩ : ∃ fd, FunD K "_law_begins" "_law_begins" (defArgs s__law_begins) (defBody s__law_begins) (defScope s__law_begins) [] [] (He.ga K "_law_begins") fd := c.def_ 61 (d := y__law_begins) rfl
  have h__law_begins : DefAt P w K mg base 2 "_law_begins" (aLBegins K) := ⟨_, _, _, He.glo_ok X G (x := "_law_begins") (c.fact 62 rfl), F__law_begins.kp, ok_lbegins (P := P) (w := w) (base := base) F__law_begins T.mlist h__law_over, (F__law_begins.bindsN fun _ _ _ _ _ _ us hl => match us, hl with | [_, _, _, _], _ => rfl)⟩
  obtain ⟨fd__law_ending, F__law_ending⟩ : ∃ fd, FunD K "_law_ending" "_law_ending" (defArgs s__law_ending) (defBody s__law_ending) (defScope s__law_ending) [] [] (He.ga K "_law_ending") fd := c.def_ 62 (d := y__law_ending) rfl
  have h__law_ending : DefAt P w K mg base 2 "_law_ending" (aLEnding K) := ⟨_, _, _, He.glo_ok X G (x := "_law_ending") (c.fact 63 rfl), F__law_ending.kp, ok_lending (P := P) (w := w) (base := base) F__law_ending T.mrange T.mlen h__law_over, (F__law_ending.bindsN fun _ _ _ _ _ _ us hl => match us, hl with | [_, _], _ => rfl)⟩
  obtain ⟨fd_Kin___init__, F_Kin___init__⟩ : ∃ fd, FunD K "__init__" "Kin.__init__" (defArgs s_Kin___init__) (defBody s_Kin___init__) (defScope s_Kin___init__) [] [] (He.ma K (He.ga K "Kin") "__init__") fd := c.def_ 6 (d := y_Kin___init__) rfl
  have h_Kin : MakeAt P w K mg base 2 "Kin" (He.ga K "Kin") (aKin K) := ⟨_, _, _, He.glo_ok X G (x := "Kin") (c.fact 85 rfl), He.mkr_ok (x := "Kin") (c.fact 6 rfl), ok_kin (P := P) (w := w) (base := base) F_Kin___init__ T h_fits_side, (F_Kin___init__.bindsN fun _ _ _ _ _ _ us hl => match us, hl with | [_, _, _, _], _ => rfl)⟩
  obtain ⟨fd_Kin_measure, F_Kin_measure⟩ : ∃ fd, FunD K "measure" "Kin.measure" (defArgs s_Kin_measure) (defBody s_Kin_measure) (defScope s_Kin_measure) [] [] (He.ma K (He.ga K "Kin") "measure") fd := c.def_ 10 (d := y_Kin_measure) rfl
  have h_Kin_measure : MethAt P w K mg base 1 (He.ga K "Kin") "measure" (aMeasure K) := ⟨_, _, _, He.meth_ok (x := "Kin") (m := "measure") (c.fact 10 rfl), ok_measure (P := P) (w := w) (base := base) F_Kin_measure T, (F_Kin_measure.bindsN fun _ _ _ _ _ _ us hl => match us, hl with | [_], _ => rfl)⟩
  obtain ⟨fd_Kin___lt__, F_Kin___lt__⟩ : ∃ fd, FunD K "__lt__" "Kin.__lt__" (defArgs s_Kin___lt__) (defBody s_Kin___lt__) (defScope s_Kin___lt__) [] [] (He.ma K (He.ga K "Kin") "__lt__") fd := c.def_ 7 (d := y_Kin___lt__) rfl
  have h_Kin___lt__ : SpecAt P w K mg base 2 (He.ga K "Kin") "__lt__" (aKinLt K) := MethAt.spec (He.meth_ok (x := "Kin") (m := "__lt__") (c.fact 7 rfl)) (fnIn_of F_Kin___lt__) (ok_kinlt (P := P) (w := w) (base := base) F_Kin___lt__ T h_Kin_measure) (F_Kin___lt__.bindsN fun _ _ _ _ _ _ us hl => match us, hl with | [_, _], _ => rfl)
  obtain ⟨fd_Kin___mod__, F_Kin___mod__⟩ : ∃ fd, FunD K "__mod__" "Kin.__mod__" (defArgs s_Kin___mod__) (defBody s_Kin___mod__) (defScope s_Kin___mod__) [] [] (He.ma K (He.ga K "Kin") "__mod__") fd := c.def_ 8 (d := y_Kin___mod__) rfl
  have h_Kin___mod__ : SpecAt P w K mg base 4 (He.ga K "Kin") "__mod__" (aKinMod K) := MethAt.spec (He.meth_ok (x := "Kin") (m := "__mod__") (c.fact 8 rfl)) (fnIn_of F_Kin___mod__) (ok_kinmod (P := P) (w := w) (base := base) F_Kin___mod__ T h_capped h_Kin) (F_Kin___mod__.bindsN fun _ _ _ _ _ _ us hl => match us, hl with | [_, _], _ => rfl)
  obtain ⟨fd_Kin_is_self, F_Kin_is_self⟩ : ∃ fd, FunD K "is_self" "Kin.is_self" (defArgs s_Kin_is_self) (defBody s_Kin_is_self) (defScope s_Kin_is_self) [] [] (propG K "Kin" "is_self") fd := c.def_ 9 (d := y_Kin_is_self) rfl
  have h_Kin_is_self : PropAt P w K mg base 1 (He.ga K "Kin") "is_self" (aIsSelf K) := ⟨_, _, _, _, fProp_ok (C := "Kin") (f := "is_self") (c.fact 9 rfl), ok_isself (P := P) (w := w) (base := base) F_Kin_is_self T, (F_Kin_is_self.bindsN fun _ _ _ _ _ _ us hl => match us, hl with | [_], _ => rfl)⟩
  obtain ⟨fd_demand_reach, F_demand_reach⟩ : ∃ fd, FunD K "demand_reach" "demand_reach" (defArgs s_demand_reach) (defBody s_demand_reach) (defScope s_demand_reach) [] [] (He.ga K "demand_reach") fd := c.def_ 11 (d := y_demand_reach) rfl
  have h_demand_reach : DefAt P w K mg base 1 "demand_reach" aReach := ⟨_, _, _, He.glo_ok X G (x := "demand_reach") (c.fact 11 rfl), F_demand_reach.kp, ok_reach (P := P) (w := w) (base := base) F_demand_reach T, (F_demand_reach.bindsN fun _ _ _ _ _ _ us hl => match us, hl with | [_], _ => rfl)⟩
  obtain ⟨fd_all_cells, F_all_cells⟩ : ∃ fd, FunD K "all_cells" "all_cells" (defArgs s_all_cells) (defBody s_all_cells) (defScope s_all_cells) [] [] (He.ga K "all_cells") fd := c.def_ 12 (d := y_all_cells) rfl
  have h_all_cells : DefAt P w K mg base 4 "all_cells" (aCells K) := ⟨_, _, _, He.glo_ok X G (x := "all_cells") (c.fact 12 rfl), F_all_cells.kp, ok_cells (P := P) (w := w) (base := base) F_all_cells T h_demand_reach h_Kin, (F_all_cells.bindsN fun _ _ _ _ _ _ us hl => match us, hl with | [_], _ => rfl)⟩
  obtain ⟨fd_let_parts, F_let_parts⟩ : ∃ fd, FunD K "let_parts" "let_parts" (defArgs s_let_parts) (defBody s_let_parts) (defScope s_let_parts) [] [] (He.ga K "let_parts") fd := c.def_ 13 (d := y_let_parts) rfl
  have h_let_parts : DefAt P w K mg base 5 "let_parts" (aLetParts K) := ⟨_, _, _, He.glo_ok X G (x := "let_parts") (c.fact 13 rfl), F_let_parts.kp, ok_letparts (P := P) (w := w) (base := base) F_let_parts T h_Kin_is_self h_Kin___mod__, (F_let_parts.bindsN fun _ _ _ _ _ _ us hl => match us, hl with | [_, _], _ => rfl)⟩
  obtain ⟨fd_Rule_lets, F_Rule_lets⟩ : ∃ fd, FunD K "lets" "Rule.lets" (defArgs s_Rule_lets) (defBody s_Rule_lets) (defScope s_Rule_lets) [] [] (He.ma K (He.ga K "Rule") "lets") fd := c.def_ 15 (d := y_Rule_lets) rfl
  have h_Rule_lets : MethAt P w K mg base 2 (He.ga K "Rule") "lets" (aLets K) := ⟨_, _, _, He.meth_ok (x := "Rule") (m := "lets") (c.fact 15 rfl), ok_lets (P := P) (w := w) (base := base) F_Rule_lets T h_capped, (F_Rule_lets.bindsN fun _ _ _ _ _ _ us hl => match us, hl with | [_, _, _, _], _ => rfl)⟩
  obtain ⟨fd_Rule___init__, F_Rule___init__⟩ : ∃ fd, FunD K "__init__" "Rule.__init__" (defArgs s_Rule___init__) (defBody s_Rule___init__) (defScope s_Rule___init__) [] [] (He.ma K (He.ga K "Rule") "__init__") fd := c.def_ 14 (d := y_Rule___init__) rfl
  have h_Rule : MakeR P w K mg base 6 "Rule" (He.ga K "Rule") (starA 2 (aRule K)) := ⟨_, He.glo_ok X G (x := "Rule") (c.fact 100 rfl), He.mkr_ok (x := "Rule") (c.fact 14 rfl), ok_rule (P := P) (w := w) (base := base) F_Rule___init__ T h_demand_reach h_let_parts h_all_cells h_Rule_lets⟩
  obtain ⟨fd_Rule___getitem__, F_Rule___getitem__⟩ : ∃ fd, FunD K "__getitem__" "Rule.__getitem__" (defArgs s_Rule___getitem__) (defBody s_Rule___getitem__) (defScope s_Rule___getitem__) [] [] (He.ma K (He.ga K "Rule") "__getitem__") fd := c.def_ 19 (d := y_Rule___getitem__) rfl
  have h_Rule___getitem__ : SpecAt P w K mg base 3 (He.ga K "Rule") "__getitem__" (aGetItem K) := MethAt.spec (He.meth_ok (x := "Rule") (m := "__getitem__") (c.fact 19 rfl)) (fnIn_of F_Rule___getitem__) (ok_getitem (P := P) (w := w) (base := base) F_Rule___getitem__ T h_Rule_lets) (F_Rule___getitem__.bindsN fun _ _ _ _ _ _ us hl => match us, hl with | [_, _], _ => rfl)
  obtain ⟨fd_Rule_put, F_Rule_put⟩ : ∃ fd, FunD K "put" "Rule.put" (defArgs s_Rule_put) (defBody s_Rule_put) (defScope s_Rule_put) [] [] (He.ma K (He.ga K "Rule") "put") fd := c.def_ 16 (d := y_Rule_put) rfl
  have h_Rule_put : MethAt P w K mg base 5 (He.ga K "Rule") "put" (aPut K) := ⟨_, _, _, He.meth_ok (x := "Rule") (m := "put") (c.fact 16 rfl), ok_put (P := P) (w := w) (base := base) F_Rule_put T h_Rule___getitem__ h_Kin___lt__, (F_Rule_put.bindsN fun _ _ _ _ _ _ us hl => match us, hl with | [_, _], _ => rfl)⟩
  obtain ⟨fd_Rule_twin, F_Rule_twin⟩ : ∃ fd, FunD K "twin" "Rule.twin" (defArgs s_Rule_twin) (defBody s_Rule_twin) (defScope s_Rule_twin) [] [] (He.ma K (He.ga K "Rule") "twin") fd := c.def_ 17 (d := y_Rule_twin) rfl
  have h_Rule_twin : MethAt P w K mg base 8 (He.ga K "Rule") "twin" (aRTwin K) := ⟨_, _, _, He.meth_ok (x := "Rule") (m := "twin") (c.fact 17 rfl), ok_rtwin (P := P) (w := w) (base := base) F_Rule_twin T h_Rule, (F_Rule_twin.bindsN fun _ _ _ _ _ _ us hl => match us, hl with | [_], _ => rfl)⟩
  obtain ⟨fd_Hands___init__, F_Hands___init__⟩ : ∃ fd, FunD K "__init__" "Hands.__init__" (defArgs s_Hands___init__) (defBody s_Hands___init__) (defScope s_Hands___init__) [] [("keeps", .bl true), ("greets", .bl false), ("inherits", .bl true), ("told", .bl false)] (He.ma K (He.ga K "Hands") "__init__") fd := c.def_ 21 (d := y_Hands___init__) rfl
  obtain ⟨_, kb_Hands⟩ := F_Hands___init__.kbinds0 (ps := ["self", "keeps", "greets", "inherits", "told"]) 1 ["keeps", "greets", "inherits", "told"] [] (fun us _ ws => us ++ ws) (by simp) (by simp) (fun r1 _ r2 => r1.append r2) (fun D doc pm an cdv ct us mv ws h1 h2 h3 => match us, h1, mv, h2, ws, h3 with | [_], _, [], _, [_, _, _, _], _ => rfl)
  have h_Hands : MakeAtK P w K mg base 1 (He.ga K "Hands") 0 ["keeps", "greets", "inherits", "told"] (aHands K) := ⟨_, _, _, _, He.mkr_ok (x := "Hands") (c.fact 21 rfl), ok_hands (P := P) (w := w) (base := base) F_Hands___init__ T, kb_Hands⟩
  obtain ⟨fd_Hands_every, F_Hands_every⟩ : ∃ fd, FunD K "every" "Hands.every" (defArgs s_Hands_every) (defBody s_Hands_every) (defScope s_Hands_every) [] [] (clsG K "Hands" "every") fd := c.def_ 22 (d := y_Hands_every) rfl
  have h_Hands_every : ∃ mc pp g, ClX.CRead K (He.ga K "Hands") mc ∧ ClX.CMet K (He.ga K "Hands") mc "every" pp g ∧ FnR P w K mg base (L2.CX P w) 3 g (conc K (aEvery K)) := ⟨_, _, _, fRead_ok (C := "Hands") (c.fact 23 rfl), fCMet_ok (C := "Hands") (f := "every") (c.fact 22 rfl), FnR.imp ((ok_every (P := P) (w := w) (base := base) F_Hands_every T h_Hands).raw (F_Hands_every.bindsN fun _ _ _ _ _ _ us hl => match us, hl with | [_], _ => rfl) .nil) fun vs H Q E h => by rw [List.append_nil]; exact h⟩
  obtain ⟨fd_Family___init__, F_Family___init__⟩ : ∃ fd, FunD K "__init__" "Family.__init__" (defArgs s_Family___init__) (defBody s_Family___init__) (defScope s_Family___init__) [] [] (He.ma K (He.ga K "Family") "__init__") fd := c.def_ 23 (d := y_Family___init__) rfl
  have h_Family : MakeAt P w K mg base 1 "Family" (He.ga K "Family") (aFam K) := ⟨_, _, _, He.glo_ok X G (x := "Family") (c.fact 112 rfl), He.mkr_ok (x := "Family") (c.fact 24 rfl), ok_fam (P := P) (w := w) (base := base) F_Family___init__ T, (F_Family___init__.bindsN fun _ _ _ _ _ _ us hl => match us, hl with | [_], _ => rfl)⟩
  obtain ⟨fd_Family_demand, F_Family_demand⟩ : ∃ fd, FunD K "demand" "Family.demand" (defArgs s_Family_demand) (defBody s_Family_demand) (defScope s_Family_demand) [] [] (He.ma K (He.ga K "Family") "demand") fd := c.def_ 24 (d := y_Family_demand) rfl
  have h_Family_demand : MethAt P w K mg base 1 (He.ga K "Family") "demand" (aFDemand K) := ⟨_, _, _, He.meth_ok (x := "Family") (m := "demand") (c.fact 25 rfl), ok_fdemand (P := P) (w := w) (base := base) F_Family_demand T, (F_Family_demand.bindsN fun _ _ _ _ _ _ us hl => match us, hl with | [_, _], _ => rfl)⟩
  obtain ⟨fd_Family_bear, F_Family_bear⟩ : ∃ fd, FunD K "bear" "Family.bear" (defArgs s_Family_bear) (defBody s_Family_bear) (defScope s_Family_bear) [] [] (He.ma K (He.ga K "Family") "bear") fd := c.def_ 25 (d := y_Family_bear) rfl
  have h_Family_bear : MethAt P w K mg base 2 (He.ga K "Family") "bear" (aFBear K) := ⟨_, _, _, He.meth_ok (x := "Family") (m := "bear") (c.fact 26 rfl), ok_fbear (P := P) (w := w) (base := base) F_Family_bear T h_Family_demand, (F_Family_bear.bindsN fun _ _ _ _ _ _ us hl => match us, hl with | [_, _], _ => rfl)⟩
  obtain ⟨fd_Family_kinship, F_Family_kinship⟩ : ∃ fd, FunD K "kinship" "Family.kinship" (defArgs s_Family_kinship) (defBody s_Family_kinship) (defScope s_Family_kinship) [] [] (He.ma K (He.ga K "Family") "kinship") fd := c.def_ 26 (d := y_Family_kinship) rfl
  have h_Family_kinship : MethAt P w K mg base 4 (He.ga K "Family") "kinship" (aKinship K) := ⟨_, _, _, He.meth_ok (x := "Family") (m := "kinship") (c.fact 27 rfl), ok_kinship (P := P) (w := w) (base := base) F_Family_kinship T h_Family_demand h_Kin, (F_Family_kinship.bindsN fun _ _ _ _ _ _ us hl => match us, hl with | [_, _, _], _ => rfl)⟩
  obtain ⟨fd_Rule___call__, F_Rule___call__⟩ : ∃ fd, FunD K "__call__" "Rule.__call__" (defArgs s_Rule___call__) (defBody s_Rule___call__) (defScope s_Rule___call__) [] [] (He.ma K (He.ga K "Rule") "__call__") fd := c.def_ 18 (d := y_Rule___call__) rfl
  have h_Rule___call__ : SpecAt P w K mg base 5 (He.ga K "Rule") "__call__" (aRCall K) := MethAt.spec (He.meth_ok (x := "Rule") (m := "__call__") (c.fact 18 rfl)) (fnIn_of F_Rule___call__) (ok_rcall (P := P) (w := w) (base := base) F_Rule___call__ T h_Rule___getitem__ h_Family_kinship) (F_Rule___call__.bindsN fun _ _ _ _ _ _ us hl => match us, hl with | [_, _, _, _], _ => rfl)
  obtain ⟨fd_State___init__, F_State___init__⟩ : ∃ fd, FunD K "__init__" "State.__init__" (defArgs s_State___init__) (defBody s_State___init__) (defScope s_State___init__) [] [] (He.ma K (He.ga K "State") "__init__") fd := c.def_ 27 (d := y_State___init__) rfl
  have h_State : MakeAt P w K mg base 3 "State" (He.ga K "State") (aState K) := ⟨_, _, _, He.glo_ok X G (x := "State") (c.fact 122 rfl), He.mkr_ok (x := "State") (c.fact 28 rfl), ok_state (P := P) (w := w) (base := base) F_State___init__ T h_Family, (F_State___init__.bindsN fun _ _ _ _ _ _ us hl => match us, hl with | [_], _ => rfl)⟩
  obtain ⟨fd_State_add, F_State_add⟩ : ∃ fd, FunD K "add" "State.add" (defArgs s_State_add) (defBody s_State_add) (defScope s_State_add) [] [] (He.ma K (He.ga K "State") "add") fd := c.def_ 28 (d := y_State_add) rfl
  have h_State_add : MethAt P w K mg base 3 (He.ga K "State") "add" (aAdd K) := ⟨_, _, _, He.meth_ok (x := "State") (m := "add") (c.fact 29 rfl), ok_add (P := P) (w := w) (base := base) F_State_add T h_Family_bear, (F_State_add.bindsN fun _ _ _ _ _ _ us hl => match us, hl with | [_, _, _], _ => rfl)⟩
  obtain ⟨fd_Runtime___init__, F_Runtime___init__⟩ : ∃ fd, FunD K "__init__" "Runtime.__init__" (defArgs s_Runtime___init__) (defBody s_Runtime___init__) (defScope s_Runtime___init__) [] [("hands", .non), ("limit", .int 100)] (He.ma K (He.ga K "Runtime") "__init__") fd := c.def_ 29 (d := y_Runtime___init__) rfl
  obtain ⟨_, kb_Runtime⟩ := F_Runtime___init__.kbinds0 (ps := ["self", "rule", "hands", "limit"]) 2 ["hands", "limit"] [] (fun us _ ws => us ++ ws) (by simp) (by simp) (fun r1 _ r2 => r1.append r2) (fun D doc pm an cdv ct us mv ws h1 h2 h3 => match us, h1, mv, h2, ws, h3 with | [_, _], _, [], _, [_, _], _ => rfl)
  have h_Runtime : MakeAtK P w K mg base 9 (He.ga K "Runtime") 1 ["hands", "limit"] (aRt K) := ⟨_, _, _, _, He.mkr_ok (x := "Runtime") (c.fact 30 rfl), ok_rt (P := P) (w := w) (base := base) F_Runtime___init__ T h_Rule_twin h_Hands_every h_State, kb_Runtime⟩
  obtain ⟨fd_Runtime___len__, F_Runtime___len__⟩ : ∃ fd, FunD K "__len__" "Runtime.__len__" (defArgs s_Runtime___len__) (defBody s_Runtime___len__) (defScope s_Runtime___len__) [] [] (He.ma K (He.ga K "Runtime") "__len__") fd := c.def_ 30 (d := y_Runtime___len__) rfl
  have h_Runtime___len__ : SpecAt P w K mg base 1 (He.ga K "Runtime") "__len__" (aRLen K) := MethAt.spec (He.meth_ok (x := "Runtime") (m := "__len__") (c.fact 31 rfl)) (fnIn_of F_Runtime___len__) (ok_rlen (P := P) (w := w) (base := base) F_Runtime___len__ T) (F_Runtime___len__.bindsN fun _ _ _ _ _ _ us hl => match us, hl with | [_], _ => rfl)
  obtain ⟨fd_Runtime_demand, F_Runtime_demand⟩ : ∃ fd, FunD K "demand" "Runtime.demand" (defArgs s_Runtime_demand) (defBody s_Runtime_demand) (defScope s_Runtime_demand) [] [] (He.ma K (He.ga K "Runtime") "demand") fd := c.def_ 31 (d := y_Runtime_demand) rfl
  have h_Runtime_demand : MethAt P w K mg base 1 (He.ga K "Runtime") "demand" (aRDemand K) := ⟨_, _, _, He.meth_ok (x := "Runtime") (m := "demand") (c.fact 32 rfl), ok_rdemand (P := P) (w := w) (base := base) F_Runtime_demand T, (F_Runtime_demand.bindsN fun _ _ _ _ _ _ us hl => match us, hl with | [_, _], _ => rfl)⟩
  obtain ⟨fd_Runtime_demand_running, F_Runtime_demand_running⟩ : ∃ fd, FunD K "demand_running" "Runtime.demand_running" (defArgs s_Runtime_demand_running) (defBody s_Runtime_demand_running) (defScope s_Runtime_demand_running) [] [] (He.ma K (He.ga K "Runtime") "demand_running") fd := c.def_ 32 (d := y_Runtime_demand_running) rfl
  have h_Runtime_demand_running : MethAt P w K mg base 1 (He.ga K "Runtime") "demand_running" (aRDRun K) := ⟨_, _, _, He.meth_ok (x := "Runtime") (m := "demand_running") (c.fact 33 rfl), ok_rdrun (P := P) (w := w) (base := base) F_Runtime_demand_running T, (F_Runtime_demand_running.bindsN fun _ _ _ _ _ _ us hl => match us, hl with | [_, _], _ => rfl)⟩
  obtain ⟨fd_Runtime_in_phase, F_Runtime_in_phase⟩ : ∃ fd, FunD K "in_phase" "Runtime.in_phase" (defArgs s_Runtime_in_phase) (defBody s_Runtime_in_phase) (defScope s_Runtime_in_phase) [] [] (He.ma K (He.ga K "Runtime") "in_phase") fd := c.def_ 33 (d := y_Runtime_in_phase) rfl
  have h_Runtime_in_phase : MethAt P w K mg base 1 (He.ga K "Runtime") "in_phase" (aInPhase K) := ⟨_, _, _, He.meth_ok (x := "Runtime") (m := "in_phase") (c.fact 34 rfl), ok_inphase (P := P) (w := w) (base := base) F_Runtime_in_phase T, (F_Runtime_in_phase.bindsN fun _ _ _ _ _ _ us hl => match us, hl with | [_, _], _ => rfl)⟩
  obtain ⟨fd_Runtime_running, F_Runtime_running⟩ : ∃ fd, FunD K "running" "Runtime.running" (defArgs s_Runtime_running) (defBody s_Runtime_running) (defScope s_Runtime_running) [] [] (propG K "Runtime" "running") fd := c.def_ 34 (d := y_Runtime_running) rfl
  have h_Runtime_running : PropAt P w K mg base 2 (He.ga K "Runtime") "running" (aRunning K) := ⟨_, _, _, _, fProp_ok (C := "Runtime") (f := "running") (c.fact 35 rfl), ok_running (P := P) (w := w) (base := base) F_Runtime_running T h_Runtime_in_phase, (F_Runtime_running.bindsN fun _ _ _ _ _ _ us hl => match us, hl with | [_], _ => rfl)⟩
  obtain ⟨fd_Runtime_phase, F_Runtime_phase⟩ : ∃ fd, FunD K "phase" "Runtime.phase" (defArgs s_Runtime_phase) (defBody s_Runtime_phase) (defScope s_Runtime_phase) [] [] (He.ma K (He.ga K "Runtime") "phase") fd := c.def_ 35 (d := y_Runtime_phase) rfl
  have h_Runtime_phase : MethAt P w K mg base 2 (He.ga K "Runtime") "phase" (aRPhase K) := ⟨_, _, _, He.meth_ok (x := "Runtime") (m := "phase") (c.fact 36 rfl), ok_rphase (P := P) (w := w) (base := base) F_Runtime_phase T h_Runtime_demand, (F_Runtime_phase.bindsN fun _ _ _ _ _ _ us hl => match us, hl with | [_, _], _ => rfl)⟩
  obtain ⟨fd_Runtime_targets, F_Runtime_targets⟩ : ∃ fd, FunD K "targets" "Runtime.targets" (defArgs s_Runtime_targets) (defBody s_Runtime_targets) (defScope s_Runtime_targets) [] [] (He.ma K (He.ga K "Runtime") "targets") fd := c.def_ 36 (d := y_Runtime_targets) rfl
  have h_Runtime_targets : MethAt P w K mg base 2 (He.ga K "Runtime") "targets" (aRTargets K) := ⟨_, _, _, He.meth_ok (x := "Runtime") (m := "targets") (c.fact 37 rfl), ok_rtargets (P := P) (w := w) (base := base) F_Runtime_targets T h_Runtime_demand, (F_Runtime_targets.bindsN fun _ _ _ _ _ _ us hl => match us, hl with | [_, _], _ => rfl)⟩
  obtain ⟨fd_Runtime_bear, F_Runtime_bear⟩ : ∃ fd, FunD K "bear" "Runtime.bear" (defArgs s_Runtime_bear) (defBody s_Runtime_bear) (defScope s_Runtime_bear) [] [] (He.ma K (He.ga K "Runtime") "bear") fd := c.def_ 37 (d := y_Runtime_bear) rfl
  have h_Runtime_bear : MethAt P w K mg base 4 (He.ga K "Runtime") "bear" (aRBear K) := ⟨_, _, _, He.meth_ok (x := "Runtime") (m := "bear") (c.fact 38 rfl), ok_rbear (P := P) (w := w) (base := base) F_Runtime_bear T h_Runtime_demand h_Runtime_demand_running h_State_add, (F_Runtime_bear.bindsN fun _ _ _ _ _ _ us hl => match us, hl with | [_, _], _ => rfl)⟩
  obtain ⟨fd_Runtime_wait, F_Runtime_wait⟩ : ∃ fd, FunD K "wait" "Runtime.wait" (defArgs s_Runtime_wait) (defBody s_Runtime_wait) (defScope s_Runtime_wait) [] [("any_of", .bl false)] (He.ma K (He.ga K "Runtime") "wait") fd := c.def_ 38 (d := y_Runtime_wait) rfl
  have h_Runtime_wait : ∃ g, BMeth K (He.ga K "Runtime") "wait" g ∧ FnSK P w K mg base 6 g 2 ["any_of"] (aRWait K) := ⟨_, fB_ok (C := "Runtime") (m := "wait") (c.fact 39 rfl) (by decide), ok_rwait (P := P) (w := w) (base := base) F_Runtime_wait T h_Runtime_demand h_Runtime_demand_running h_Rule___call__ h_is_over⟩
  obtain ⟨fd_Runtime_end, F_Runtime_end⟩ : ∃ fd, FunD K "end" "Runtime.end" (defArgs s_Runtime_end) (defBody s_Runtime_end) (defScope s_Runtime_end) [] [] (He.ma K (He.ga K "Runtime") "end") fd := c.def_ 39 (d := y_Runtime_end) rfl
  have h_Runtime_end : MethAt P w K mg base 3 (He.ga K "Runtime") "end" (aREnd K) := ⟨_, _, _, He.meth_ok (x := "Runtime") (m := "end") (c.fact 40 rfl), ok_rend (P := P) (w := w) (base := base) F_Runtime_end T h_Runtime_demand h_Runtime_demand_running h_Runtime_in_phase h_is_over, (F_Runtime_end.bindsN fun _ _ _ _ _ _ us hl => match us, hl with | [_, _], _ => rfl)⟩
  obtain ⟨fd_Runtime___call__, F_Runtime___call__⟩ : ∃ fd, FunD K "__call__" "Runtime.__call__" (defArgs s_Runtime___call__) (defBody s_Runtime___call__) (defScope s_Runtime___call__) [] [] (He.ma K (He.ga K "Runtime") "__call__") fd := c.def_ 40 (d := y_Runtime___call__) rfl
  have h_Runtime___call__ : SpecAt P w K mg base 7 (He.ga K "Runtime") "__call__" (aRCallD K) := MethAt.spec (He.meth_ok (x := "Runtime") (m := "__call__") (c.fact 41 rfl)) (fnIn_of F_Runtime___call__) (ok_rcalld (P := P) (w := w) (base := base) F_Runtime___call__ T h_Runtime_bear h_Runtime_end h_Runtime_wait) (F_Runtime___call__.bindsN fun _ _ _ _ _ _ us hl => match us, hl with | [_, _], _ => rfl)
  obtain ⟨fd_delays, F_delays⟩ : ∃ fd, FunD K "delays" "delays" (defArgs s_delays) (defBody s_delays) (defScope s_delays) [] [] (He.ga K "delays") fd := c.def_ 1 (d := y_delays) rfl
  have h_delays : DefAt P w K mg base 2 "delays" (aDelays K) := ⟨_, _, _, He.glo_ok X G (x := "delays") (c.fact 1 rfl), F_delays.kp, ok_delays (P := P) (w := w) (base := base) F_delays T h_is_over hF, (F_delays.bindsN fun _ _ _ _ _ _ us hl => match us, hl with | [_, _, _], _ => rfl)⟩
  obtain ⟨fd_task_delays, F_task_delays⟩ : ∃ fd, FunD K "task_delays" "task_delays" (defArgs s_task_delays) (defBody s_task_delays) (defScope s_task_delays) [] [] (He.ga K "task_delays") fd := c.def_ 2 (d := y_task_delays) rfl
  have h_task_delays : DefAt P w K mg base 3 "task_delays" (aTaskDelays K) := ⟨_, _, _, He.glo_ok X G (x := "task_delays") (c.fact 2 rfl), F_task_delays.kp, ok_taskdelays (P := P) (w := w) (base := base) F_task_delays T h_delays, (F_task_delays.bindsN fun _ _ _ _ _ _ us hl => match us, hl with | [_], _ => rfl)⟩
  obtain ⟨fd_end_in_rounds, F_end_in_rounds⟩ : ∃ fd, FunD K "end_in_rounds" "end_in_rounds" (defArgs s_end_in_rounds) (defBody s_end_in_rounds) (defScope s_end_in_rounds) [] [] (He.ga K "end_in_rounds") fd := c.def_ 3 (d := y_end_in_rounds) rfl
  have h_end_in_rounds : DefAt P w K mg base 4 "end_in_rounds" (aEndRounds K) := ⟨_, _, _, He.glo_ok X G (x := "end_in_rounds") (c.fact 3 rfl), F_end_in_rounds.kp, ok_endrounds (P := P) (w := w) (base := base) F_end_in_rounds T h_Runtime_running h_Runtime_end, (F_end_in_rounds.bindsN fun _ _ _ _ _ _ us hl => match us, hl with | [_], _ => rfl)⟩
  obtain ⟨fd__law_start, F__law_start⟩ : ∃ fd, FunD K "_law_start" "_law_start" (defArgs s__law_start) (defBody s__law_start) (defScope s__law_start) [] [] (He.ga K "_law_start") fd := c.def_ 41 (d := y__law_start) rfl
  have h__law_start : DefAt P w K mg base 1 "_law_start" (aStart K) := ⟨_, _, _, He.glo_ok X G (x := "_law_start") (c.fact 42 rfl), F__law_start.kp, ok_lstart (P := P) (w := w) (base := base) F__law_start T, (F__law_start.bindsN fun _ _ _ _ _ _ us hl => match us, hl with | [_], _ => rfl)⟩
  obtain ⟨fd__law_sides, F__law_sides⟩ : ∃ fd, FunD K "_law_sides" "_law_sides" (defArgs s__law_sides) (defBody s__law_sides) (defScope s__law_sides) [] [] (He.ga K "_law_sides") fd := c.def_ 45 (d := y__law_sides) rfl
  have h__law_sides : DefAt P w K mg base 1 "_law_sides" (aLSides K) := ⟨_, _, _, He.glo_ok X G (x := "_law_sides") (c.fact 46 rfl), F__law_sides.kp, ok_lsides (P := P) (w := w) (base := base) F__law_sides T, (F__law_sides.bindsN fun _ _ _ _ _ _ us hl => match us, hl with | [_, _], _ => rfl)⟩
  obtain ⟨fd__law_capped, F__law_capped⟩ : ∃ fd, FunD K "_law_capped" "_law_capped" (defArgs s__law_capped) (defBody s__law_capped) (defScope s__law_capped) [] [] (He.ga K "_law_capped") fd := c.def_ 46 (d := y__law_capped) rfl
  have h__law_capped : DefAt P w K mg base 1 "_law_capped" aLCapped := ⟨_, _, _, He.glo_ok X G (x := "_law_capped") (c.fact 47 rfl), F__law_capped.kp, ok_lcapped (P := P) (w := w) (base := base) F__law_capped T, (F__law_capped.bindsN fun _ _ _ _ _ _ us hl => match us, hl with | [_, _], _ => rfl)⟩
  obtain ⟨fd__law_kin, F__law_kin⟩ : ∃ fd, FunD K "_law_kin" "_law_kin" (defArgs s__law_kin) (defBody s__law_kin) (defScope s__law_kin) [] [] (He.ga K "_law_kin") fd := c.def_ 47 (d := y__law_kin) rfl
  have h__law_kin : DefAt P w K mg base 4 "_law_kin" (aLKin K) := ⟨_, _, _, He.glo_ok X G (x := "_law_kin") (c.fact 48 rfl), F__law_kin.kp, ok_lkin (P := P) (w := w) (base := base) F__law_kin T h_Kin, (F__law_kin.bindsN fun _ _ _ _ _ _ us hl => match us, hl with | [_], _ => rfl)⟩
  obtain ⟨fd__law_hands, F__law_hands⟩ : ∃ fd, FunD K "_law_hands" "_law_hands" (defArgs s__law_hands) (defBody s__law_hands) (defScope s__law_hands) [] [] (He.ga K "_law_hands") fd := c.def_ 54 (d := y__law_hands) rfl
  have h__law_hands : DefAt P w K mg base 3 "_law_hands" (aLHands K) := ⟨_, _, _, He.glo_ok X G (x := "_law_hands") (c.fact 55 rfl), F__law_hands.kp, ok_lhands (P := P) (w := w) (base := base) F__law_hands T h_Hands, (F__law_hands.bindsN fun _ _ _ _ _ _ us hl => match us, hl with | [_], _ => rfl)⟩
  obtain ⟨fd__law_grip, F__law_grip⟩ : ∃ fd, FunD K "_law_grip" "_law_grip" (defArgs s__law_grip) (defBody s__law_grip) (defScope s__law_grip) [] [] (He.ga K "_law_grip") fd := c.def_ 57 (d := y__law_grip) rfl
  have h__law_grip : DefAt P w K mg base 4 "_law_grip" (aLGrip K) := ⟨_, _, _, He.glo_ok X G (x := "_law_grip") (c.fact 58 rfl), F__law_grip.kp, ok_lgrip (P := P) (w := w) (base := base) F__law_grip T h__law_hands, (F__law_grip.bindsN fun _ _ _ _ _ _ us hl => match us, hl with | [_], _ => rfl)⟩
  obtain ⟨fd__law_hall, F__law_hall⟩ : ∃ fd, FunD K "_law_hall" "_law_hall" (defArgs s__law_hall) (defBody s__law_hall) (defScope s__law_hall) [] [] (He.ga K "_law_hall") fd := c.def_ 58 (d := y__law_hall) rfl
  have h__law_hall : DefAt P w K mg base 1 "_law_hall" (aLHall K) := ⟨_, _, _, He.glo_ok X G (x := "_law_hall") (c.fact 59 rfl), F__law_hall.kp, ok_lhall (P := P) (w := w) (base := base) F__law_hall T, (F__law_hall.bindsN fun _ _ _ _ _ _ us hl => match us, hl with | [], _ => rfl)⟩
  obtain ⟨fd__law_draw, F__law_draw⟩ : ∃ fd, FunD K "_law_draw" "_law_draw" (defArgs s__law_draw) (defBody s__law_draw) (defScope s__law_draw) [] [] (He.ga K "_law_draw") fd := c.def_ 42 (d := y__law_draw) rfl
  have h__law_draw : DefAt P w K mg base 1 "_law_draw" (aDraw K) := ⟨_, _, _, He.glo_ok X G (x := "_law_draw") (c.fact 43 rfl), F__law_draw.kp, ok_draw (P := P) (w := w) (base := base) F__law_draw T, (F__law_draw.bindsN fun _ _ _ _ _ _ us hl => match us, hl with | [_, _], _ => rfl)⟩
  obtain ⟨fd__law_line, F__law_line⟩ : ∃ fd, FunD K "_law_line" "_law_line" (defArgs s__law_line) (defBody s__law_line) (defScope s__law_line) [] [] (He.ga K "_law_line") fd := c.def_ 48 (d := y__law_line) rfl
  have h__law_line : DefAt P w K mg base 1 "_law_line" (aLLine K) := ⟨_, _, _, He.glo_ok X G (x := "_law_line") (c.fact 49 rfl), F__law_line.kp, ok_lline (P := P) (w := w) (base := base) F__law_line T, (F__law_line.bindsN fun _ _ _ _ _ _ us hl => match us, hl with | [_, _], _ => rfl)⟩
  obtain ⟨fd__law_parts_of, F__law_parts_of⟩ : ∃ fd, FunD K "_law_parts_of" "_law_parts_of" (defArgs s__law_parts_of) (defBody s__law_parts_of) (defScope s__law_parts_of) [] [] (He.ga K "_law_parts_of") fd := c.def_ 49 (d := y__law_parts_of) rfl
  have h__law_parts_of : DefAt P w K mg base 2 "_law_parts_of" (aLParts K) := ⟨_, _, _, He.glo_ok X G (x := "_law_parts_of") (c.fact 50 rfl), F__law_parts_of.kp, ok_lparts (P := P) (w := w) (base := base) F__law_parts_of T h__law_line, (F__law_parts_of.bindsN fun _ _ _ _ _ _ us hl => match us, hl with | [_, _, _], _ => rfl)⟩
  obtain ⟨fd__law_cells, F__law_cells⟩ : ∃ fd, FunD K "_law_cells" "_law_cells" (defArgs s__law_cells) (defBody s__law_cells) (defScope s__law_cells) [] [] (He.ga K "_law_cells") fd := c.def_ 50 (d := y__law_cells) rfl
  have h__law_cells : DefAt P w K mg base 2 "_law_cells" (aLCells K) := ⟨_, _, _, He.glo_ok X G (x := "_law_cells") (c.fact 51 rfl), F__law_cells.kp, ok_lcells (P := P) (w := w) (base := base) F__law_cells T h__law_sides, (F__law_cells.bindsN fun _ _ _ _ _ _ us hl => match us, hl with | [_], _ => rfl)⟩
  obtain ⟨fd__law_lets, F__law_lets⟩ : ∃ fd, FunD K "_law_lets" "_law_lets" (defArgs s__law_lets) (defBody s__law_lets) (defScope s__law_lets) [] [] (He.ga K "_law_lets") fd := c.def_ 52 (d := y__law_lets) rfl
  have h__law_lets : DefAt P w K mg base 2 "_law_lets" aLLets := ⟨_, _, _, He.glo_ok X G (x := "_law_lets") (c.fact 53 rfl), F__law_lets.kp, ok_llets (P := P) (w := w) (base := base) F__law_lets T h__law_capped, (F__law_lets.bindsN fun _ _ _ _ _ _ us hl => match us, hl with | [_, _, _], _ => rfl)⟩
  obtain ⟨fd__law_held, F__law_held⟩ : ∃ fd, FunD K "_law_held" "_law_held" (defArgs s__law_held) (defBody s__law_held) (defScope s__law_held) [] [] (He.ga K "_law_held") fd := c.def_ 55 (d := y__law_held) rfl
  have h__law_held : DefAt P w K mg base 1 "_law_held" aLHeld := ⟨_, _, _, He.glo_ok X G (x := "_law_held") (c.fact 56 rfl), F__law_held.kp, ok_lheld (P := P) (w := w) (base := base) F__law_held T, (F__law_held.bindsN fun _ _ _ _ _ _ us hl => match us, hl with | [_, _], _ => rfl)⟩
  obtain ⟨fd__law_holds, F__law_holds⟩ : ∃ fd, FunD K "_law_holds" "_law_holds" (defArgs s__law_holds) (defBody s__law_holds) (defScope s__law_holds) [] [] (He.ga K "_law_holds") fd := c.def_ 56 (d := y__law_holds) rfl
  have h__law_holds : DefAt P w K mg base 2 "_law_holds" aLHolds := ⟨_, _, _, He.glo_ok X G (x := "_law_holds") (c.fact 57 rfl), F__law_holds.kp, ok_lholds (P := P) (w := w) (base := base) F__law_holds T h__law_held, (F__law_holds.bindsN fun _ _ _ _ _ _ us hl => match us, hl with | [_, _], _ => rfl)⟩
  obtain ⟨fd__law_flags, F__law_flags⟩ : ∃ fd, FunD K "_law_flags" "_law_flags" (defArgs s__law_flags) (defBody s__law_flags) (defScope s__law_flags) [] [] (He.ga K "_law_flags") fd := c.def_ 53 (d := y__law_flags) rfl
  have h__law_flags : DefAt P w K mg base 2 "_law_flags" (aLFlags K) := ⟨_, _, _, He.glo_ok X G (x := "_law_flags") (c.fact 54 rfl), F__law_flags.kp, ok_lflags (P := P) (w := w) (base := base) F__law_flags T h__law_draw, (F__law_flags.bindsN fun _ _ _ _ _ _ us hl => match us, hl with | [_], _ => rfl)⟩
  obtain ⟨fd__law_world, F__law_world⟩ : ∃ fd, FunD K "_law_world" "_law_world" (defArgs s__law_world) (defBody s__law_world) (defScope s__law_world) [] [] (He.ga K "_law_world") fd := c.def_ 66 (d := y__law_world) rfl
  have h__law_world : DefAt P w K mg base 3 "_law_world" (aLWorld K) := ⟨_, _, _, He.glo_ok X G (x := "_law_world") (c.fact 67 rfl), F__law_world.kp, ok_lworld (P := P) (w := w) (base := base) F__law_world T h__law_draw h__law_cells h__law_flags, (F__law_world.bindsN fun _ _ _ _ _ _ us hl => match us, hl with | [_], _ => rfl)⟩
  obtain ⟨fd__law_good_targets, F__law_good_targets⟩ : ∃ fd, FunD K "_law_good_targets" "_law_good_targets" (defArgs s__law_good_targets) (defBody s__law_good_targets) (defScope s__law_good_targets) [] [] (He.ga K "_law_good_targets") fd := c.def_ 64 (d := y__law_good_targets) rfl
  have h__law_good_targets : DefAt P w K mg base 3 "_law_good_targets" (aLGood K) := ⟨_, _, _, He.glo_ok X G (x := "_law_good_targets") (c.fact 65 rfl), F__law_good_targets.kp, ok_lgood (P := P) (w := w) (base := base) F__law_good_targets T h__law_parts_of h__law_lets h__law_holds, (F__law_good_targets.bindsN fun _ _ _ _ _ _ us hl => match us, hl with | [_, _, _], _ => rfl)⟩
  obtain ⟨fd__law_effect, F__law_effect⟩ : ∃ fd, FunD K "_law_effect" "_law_effect" (defArgs s__law_effect) (defBody s__law_effect) (defScope s__law_effect) [] [] (He.ga K "_law_effect") fd := c.def_ 68 (d := y__law_effect) rfl
  have h__law_effect : DefAt P w K mg base 3 "_law_effect" (aLEffect K) := ⟨_, _, _, He.glo_ok X G (x := "_law_effect") (c.fact 69 rfl), F__law_effect.kp, ok_leffect (P := P) (w := w) (base := base) F__law_effect T h__law_bears h__law_ending h__law_begins, (F__law_effect.bindsN fun _ _ _ _ _ _ us hl => match us, hl with | [_, _], _ => rfl)⟩
  obtain ⟨fd__law_next_deed, F__law_next_deed⟩ : ∃ fd, FunD K "_law_next_deed" "_law_next_deed" (defArgs s__law_next_deed) (defBody s__law_next_deed) (defScope s__law_next_deed) [] [] (He.ga K "_law_next_deed") fd := c.def_ 69 (d := y__law_next_deed) rfl
  have h__law_next_deed : DefAt P w K mg base 4 "_law_next_deed" (aLNext K) := ⟨_, _, _, He.glo_ok X G (x := "_law_next_deed") (c.fact 70 rfl), F__law_next_deed.kp, ok_lnext (P := P) (w := w) (base := base) F__law_next_deed T h__law_running h__law_draw h__law_good_targets, (F__law_next_deed.bindsN fun _ _ _ _ _ _ us hl => match us, hl with | [_, _, _, _], _ => rfl)⟩
  obtain ⟨fd__law_is_number, F__law_is_number⟩ : ∃ fd, FunD K "_law_is_number" "_law_is_number" (defArgs s__law_is_number) (defBody s__law_is_number) (defScope s__law_is_number) [] [] (He.ga K "_law_is_number") fd := c.def_ 43 (d := y__law_is_number) rfl
  have h__law_is_number : DefAt P w K mg base 1 "_law_is_number" (aIsNum K) := ⟨_, _, _, He.glo_ok X G (x := "_law_is_number") (c.fact 44 rfl), F__law_is_number.kp, ok_isnum (P := P) (w := w) (base := base) F__law_is_number T, (F__law_is_number.bindsN fun _ _ _ _ _ _ us hl => match us, hl with | [_], _ => rfl)⟩
  obtain ⟨fd__law_same, F__law_same⟩ : ∃ fd, FunD K "_law_same" "_law_same" (defArgs s__law_same) (defBody s__law_same) (defScope s__law_same) [] [] (He.ga K "_law_same") fd := c.def_ 44 (d := y__law_same) rfl
  have h__law_same : DefAt P w K mg base 2 "_law_same" (aSame K 0) := ⟨_, _, _, He.glo_ok X G (x := "_law_same") (c.fact 45 rfl), F__law_same.kp, ok_same0 (P := P) (w := w) (base := base) F__law_same T h__law_is_number, (F__law_same.bindsN fun _ _ _ _ _ _ us hl => match us, hl with | [_, _], _ => rfl)⟩
  have h__law_same : DefAt P w K mg base 3 "_law_same" (aSame K 1) := ⟨_, _, _, He.glo_ok X G (x := "_law_same") (c.fact 45 rfl), F__law_same.kp, ok_same1 (P := P) (w := w) (base := base) F__law_same T h__law_is_number h__law_same, (F__law_same.bindsN fun _ _ _ _ _ _ us hl => match us, hl with | [_, _], _ => rfl)⟩
  have h__law_same : DefAt P w K mg base 4 "_law_same" (aSame K 2) := ⟨_, _, _, He.glo_ok X G (x := "_law_same") (c.fact 45 rfl), F__law_same.kp, ok_same2 (P := P) (w := w) (base := base) F__law_same T h__law_is_number h__law_same, (F__law_same.bindsN fun _ _ _ _ _ _ us hl => match us, hl with | [_, _], _ => rfl)⟩
  obtain ⟨fd__law_stands, F__law_stands⟩ : ∃ fd, FunD K "_law_stands" "_law_stands" (defArgs s__law_stands) (defBody s__law_stands) (defScope s__law_stands) [] [] (He.ga K "_law_stands") fd := c.def_ 65 (d := y__law_stands) rfl
  have h__law_stands : DefAt P w K mg base 5 "_law_stands" (aLStands K) := ⟨_, _, _, He.glo_ok X G (x := "_law_stands") (c.fact 66 rfl), F__law_stands.kp, ok_lstands (P := P) (w := w) (base := base) F__law_stands T h__law_same h_Runtime___len__ h_Runtime_phase h_Runtime_targets, (F__law_stands.bindsN fun _ _ _ _ _ _ us hl => match us, hl with | [_, _], _ => rfl)⟩
  obtain ⟨fd__law_rounds, F__law_rounds⟩ : ∃ fd, FunD K "_law_rounds" "_law_rounds" (defArgs s__law_rounds) (defBody s__law_rounds) (defScope s__law_rounds) [] [] (He.ga K "_law_rounds") fd := c.def_ 72 (d := y__law_rounds) rfl
  have h__law_rounds : DefAt P w K mg base 3 "_law_rounds" (aLRounds K) := ⟨_, _, _, He.glo_ok X G (x := "_law_rounds") (c.fact 73 rfl), F__law_rounds.kp, ok_lrounds (P := P) (w := w) (base := base) F__law_rounds T h__law_running h__law_ending, (F__law_rounds.bindsN fun _ _ _ _ _ _ us hl => match us, hl with | [_], _ => rfl)⟩
  obtain ⟨fd__law_delays, F__law_delays⟩ : ∃ fd, FunD K "_law_delays" "_law_delays" (defArgs s__law_delays) (defBody s__law_delays) (defScope s__law_delays) [] [] (He.ga K "_law_delays") fd := c.def_ 73 (d := y__law_delays) rfl
  have h__law_delays : DefAt P w K mg base 1 "_law_delays" (aLDelays K) := ⟨_, _, _, He.glo_ok X G (x := "_law_delays") (c.fact 74 rfl), F__law_delays.kp, ok_ldelays (P := P) (w := w) (base := base) F__law_delays T, (F__law_delays.bindsN fun _ _ _ _ _ _ us hl => match us, hl with | [_, _], _ => rfl)⟩
  obtain ⟨fd__law_copied, F__law_copied⟩ : ∃ fd, FunD K "_law_copied" "_law_copied" (defArgs s__law_copied) (defBody s__law_copied) (defScope s__law_copied) [] [] (He.ga K "_law_copied") fd := c.def_ 71 (d := y__law_copied) rfl
  have h__law_copied : DefAt P w K mg base 1 "_law_copied" (aLCopied K) := ⟨_, _, _, He.glo_ok X G (x := "_law_copied") (c.fact 72 rfl), F__law_copied.kp, ok_lcopied (P := P) (w := w) (base := base) F__law_copied T, (F__law_copied.bindsN fun _ _ _ _ _ _ us hl => match us, hl with | [_], _ => rfl)⟩
  obtain ⟨fd__law_played, F__law_played⟩ : ∃ fd, FunD K "_law_played" "_law_played" (defArgs s__law_played) (defBody s__law_played) (defScope s__law_played) [] [] (He.ga K "_law_played") fd := c.def_ 70 (d := y__law_played) rfl
  have h__law_played : DefAt P w K mg base 8 "_law_played" (aLPlayed K) := ⟨_, _, _, He.glo_ok X G (x := "_law_played") (c.fact 71 rfl), F__law_played.kp, ok_lplayed (P := P) (w := w) (base := base) F__law_played T h__law_next_deed h__law_same h_Runtime___call__ h__law_effect step, (F__law_played.bindsN fun _ _ _ _ _ _ us hl => match us, hl with | [_, _, _, _, _], _ => rfl)⟩
  obtain ⟨fd_Rule___setitem__, F_Rule___setitem__⟩ : ∃ fd, FunD K "__setitem__" "Rule.__setitem__" (defArgs s_Rule___setitem__) (defBody s_Rule___setitem__) (defScope s_Rule___setitem__) [] [] (He.ma K (He.ga K "Rule") "__setitem__") fd := c.def_ 20 (d := y_Rule___setitem__) rfl
  have h_Rule___setitem__ : SpecAt P w K mg base 6 (He.ga K "Rule") "__setitem__" (aSetItem K) := MethAt.spec (He.meth_ok (x := "Rule") (m := "__setitem__") (c.fact 20 rfl)) (fnIn_of F_Rule___setitem__) (ok_setitem (P := P) (w := w) (base := base) F_Rule___setitem__ T h_Kin_is_self h_Kin___mod__ h_Rule_put) (F_Rule___setitem__.bindsN fun _ _ _ _ _ _ us hl => match us, hl with | [_, _, _], _ => rfl)
  obtain ⟨fd__law_rule, F__law_rule⟩ : ∃ fd, FunD K "_law_rule" "_law_rule" (defArgs s__law_rule) (defBody s__law_rule) (defScope s__law_rule) [] [] (He.ga K "_law_rule") fd := c.def_ 51 (d := y__law_rule) rfl
  have h__law_rule : DefAt P w K mg base 8 "_law_rule" (aLRule K) := ⟨_, _, _, He.glo_ok X G (x := "_law_rule") (c.fact 52 rfl), F__law_rule.kp, ok_lrule (P := P) (w := w) (base := base) F__law_rule T h_Rule h__law_kin h_Rule___setitem__, (F__law_rule.bindsN fun _ _ _ _ _ _ us hl => match us, hl with | [_, _], _ => rfl)⟩
  obtain ⟨fd__law_stage, F__law_stage⟩ : ∃ fd, FunD K "_law_stage" "_law_stage" (defArgs s__law_stage) (defBody s__law_stage) (defScope s__law_stage) [] [] (He.ga K "_law_stage") fd := c.def_ 67 (d := y__law_stage) rfl
  have h__law_stage : DefAt P w K mg base 11 "_law_stage" (aLStage K) := ⟨_, _, _, He.glo_ok X G (x := "_law_stage") (c.fact 68 rfl), F__law_stage.kp, ok_lstage (P := P) (w := w) (base := base) F__law_stage T h__law_rule h__law_grip h_Runtime, (F__law_stage.bindsN fun _ _ _ _ _ _ us hl => match us, hl with | [_], _ => rfl)⟩
  exact ok_law (P := P) (w := w) (base := base) F_law T h__law_start h__law_world h__law_stage h__law_hall h__law_played h__law_draw h__law_copied h__law_rounds h__law_delays h_task_delays h__law_same h__law_stands h_end_in_rounds h_Runtime_running step endsAll startRel
/-- the script, as the law takes it -/
theorem scr_conc {K : PySem.W.Frag} {H : Hp} {a : Addr} {ns : List Int} (hl : ns.length ≤ 63) (hS : SqL K H a (ns.map V.int)) : conc K (aLaw K) [.ref a] H (fun v _ => v = .bl true) fun _ _ _ => False := by
  have rep : ∀ F, RepL K F (ns.map D.int) (ns.map V.int) := fun F => by
    clear hl hS
    induction ns with
    | nil => exact RepL.nil
    | cons i r ih => exact RepL.cons (rep_int.mpr rfl) ih
  rcases hS with h | h
  · obtain ⟨u, hu, hr⟩ : ∃ u, H a = some u ∧ (u = .lst (ns.map V.int) ∨ ∃ o, u = .frz o (.lst (ns.map V.int))) := by
      rcases h with h | ⟨o, h⟩
      · exact ⟨_, h, .inl rfl⟩
      · exact ⟨_, h, .inr ⟨o, rfl⟩⟩
    refine ⟨fun _ => none, [.raw (.ref a)], [one a fun _ o => o = u], [], fun d _ => d = .bl true, NoX, RepL.cons (rep_raw.mpr rfl) RepL.nil, ⟨(fun _ _ e => by cases e), [(a, u)], ⟨[(a, u)], [], rfl, Holds.of ⟨u, rfl, rfl⟩, rfl⟩, ⟨fun q hq => ?_, by simp⟩⟩, ⟨_, ns, rfl, ?_, hl, rfl⟩, ?_, fun _ _ _ _ _ _ q => q.elim⟩
    · rw [List.mem_singleton.mp hq]
      exact ⟨hu, rfl⟩
    · intro F H' v s r
      obtain ⟨o, F0, _, e, h1, _⟩ := Sat.get1 Foc.here s
      subst e
      refine ⟨a, _, rep_raw.mp r, .inl ?_, rep F⟩
      rcases hr with rfl | ⟨o, rfl⟩
      · exact .inl h1
      · exact .inr ⟨o, h1⟩
    · intro d G' v F' H' e _ _ r
      subst e
      exact rep_bl.mp r
  · refine ⟨fun _ => none, [.raw (.ref a)], [], [], fun d _ => d = .bl true, NoX, RepL.cons (rep_raw.mpr rfl) RepL.nil, ⟨(fun _ _ e => by cases e), [], rfl, ⟨(fun q hq => by cases hq), List.nodup_nil⟩⟩, ⟨_, ns, rfl, fun F H' v s r => ⟨a, _, rep_raw.mp r, .inr h, rep F⟩, hl, rfl⟩, ?_, fun _ _ _ _ _ _ q => q.elim⟩
    intro d G' v F' H' e _ _ r
    subst e
    exact rep_bl.mp r
theorem lawDef {w : World} {K : PySem.W.Frag} (c : SaysY yfa yfn yts w K) : ∃ fd, FunD K "law" "law" (defArgs s_law) (defBody s_law) (defScope s_law) [] [] (He.ga K "law") fd := c.def_ 74 (d := y_law) rfl
theorem lawBind {K : PySem.W.Frag} {fd : FuncData} (F : FunD K "law" "law" (defArgs s_law) (defBody s_law) (defScope s_law) [] [] (He.ga K "law") fd) (s : Shared) (u : Value) : BindsTo s fd ⟨[u], []⟩ [("script", u)] := (FunD.bindsA (ps := ["script"]) F fun _ _ _ _ _ _ us hl => match us, hl with | [_], _ => rfl) s [u] rfl
end K76
open PySem PySem.W PySem.Calls PyProof.Rows
theorem PySem.Challenge.cw_promisesowned_k76_whole_rounds_holds : PySem.Challenge.rw_promisesowned_k76_whole_rounds.Holds := by
  w_on; o_law
  refine HandSHeadRun.head_any (r := OpenLaw.row PySem.Challenge.rw_promisesowned_k76_whole_rounds) (q := view (OpenLaw.row PySem.Challenge.rw_promisesowned_k76_whole_rounds).prog [94]) (H := K76.hk) (ob := K76.ob) (M := 14000) (loose := K76.ynames) (d := HandSHeadRun.topDef (OpenLaw.row PySem.Challenge.rw_promisesowned_k76_whole_rounds).prog 94) (kwd := []) K76.ob_eq
    (by kernel_rfl) (fun s => by kernel_rfl) K76.run (by kernel_rfl) (by kernel_rfl) (by kernel_rfl) (by rfl) (by first | assumption | decide +kernel) (by decide +kernel) ⟨rfl, rfl, rfl, rfl, rfl, by decide +kernel⟩ ?hw ?hc
  case hw => w_witness2
  case hc =>
    refine LamX.walk_ofTsE (l := PySem.Challenge.rw_promisesowned_k76_whole_rounds) (n := 63) (k := 12) (x := "script") (CX := fun w => L2.CX PySem.Challenge.rw_promisesowned_k76_whole_rounds.prog w) rfl (by decide) (by kernel_rfl) ⟨rfl, by decide, by decide⟩ ?F ?cx
    case cx =>
      rintro w H s e s' ⟨_, _, _, _, _, _, _, _, _, _, _, _, q⟩
      exact q
    case F =>
      intro w mg fa h Y G hmg0
      obtain ⟨K, KX, c⟩ := Y
      have hmg : mg ("law" : PySem.Str) = some (.ref fa) := by
        have e : (HandSHeadRun.topDef (OpenLaw.row PySem.Challenge.rw_promisesowned_k76_whole_rounds).prog 94).name = ("law" : PySem.Str) := by kernel_rfl
        rw [← e]
        exact hmg0
      obtain ⟨fd, F⟩ := K76.lawDef c
      have e := hmg.symm.trans (He.glo_ok KX G (x := "law") (c.fact 75 rfl))
      cases e
      exact ⟨K, KX, fd, [], Ly.conc K (K76.aLaw K), fun p hp => absurd hp List.not_mem_nil, fun p hp => absurd hp List.not_mem_nil, fun p hp => absurd hp List.not_mem_nil, fun s u => K76.lawBind F s u, fun H a ns hl _ _ hS => K76.scr_conc hl hS, fun base KB GB _ => K76.lawAt KB GB c F⟩

